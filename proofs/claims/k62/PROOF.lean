import PyProof.Rows.All
import Wide.All
import OpenK.AllK
import Wide.FinOn
import PySem.Challenge.RW_stackworks_k62_whole_operators_needs_and
import HandS.ForMost
import HandS.Evl
import HandS.IsInst
import HandS.Deep
import HandS.TupAny
import HandS.Wide
import HandS.Style
import HandS.Property
import HandS.OwnEq
import HandS.Defaults
import HandS.Conv
import HandS.Zip
import Lean
import KE.KStateDown
import HandS.HeadHook1
import HandS.HeadHook2
import HandS.ExcIs
import HandS.Exc
import HandS.ExcOwn
import HandS.Head0
import HandS.Head1
import HandS.Head2
import HandS.HeadEnd
import HandS.Star
import HandS.NoneIn
import HandS.Dict
import HandS.List
import KE.DataMinMax
import HandS.TryOnly
import HandS.WordsExc
import HandS.ForSpec
import Open.SpecLaws
import KE.OsGo
import KE.KOpsOwn
import HandS.Iter
import HandS.Zip0
import PyProof.Draws
import HandS.More
import HandS.Text
import HandS.DictComp
import HandS.CallSlots
import HandS.TupMul
set_option hygiene false
local macro_rules | `(tactic| walk_at "W1") => `(tactic| (first
  | ((with_reducible apply wp_var); rfl)
  | (with_reducible apply wp_cI)
  | ((with_reducible apply wp_gtup); rfl)
  | (with_reducible apply wp_cS)
  | (with_reducible apply wp_cN)
  | (with_reducible apply wp_cB)
  | ((with_reducible apply wp_catO); rfl)
  | (with_reducible apply wp_repZ; with_reducible apply wn_repZ)
  | (with_reducible apply wp_op)
  | (with_reducible apply wa_cons)
  | (with_reducible apply wa_nil)
  | ((with_reducible apply wa_star); rfl)
  | (with_reducible apply pys_py)
  | (with_reducible apply wp_cb)
  | (with_reducible apply ws_seq)
  | ((with_reducible apply rw_ntN); rfl)
  | (with_reducible apply rw_ntNN)
  | (with_reducible apply wt_b)
  | ((with_reducible apply wp_din); rfl)
  | ((with_reducible apply wp_dget); rfl)
  | ((with_reducible apply ws_dput); rfl)
  | (with_reducible apply key_int)
  | (with_reducible apply wn_dnew)
  | ((with_reducible refine ws_set ?_ ?_); rotate_left 1; exact Nat.le_of_ble_eq_true rfl)
  | ((with_reducible refine ws_setO ?_ ?_); rotate_left 1; exact Nat.le_of_ble_eq_true rfl)
  | ((with_reducible refine ws_pair2 ?_ ?_ ?_ ?_); rotate_left 2; (exact Nat.le_of_ble_eq_true rfl); (exact Nat.le_of_ble_eq_true rfl); rfl)
  | (with_reducible apply tp2_mk)
  | (with_reducible apply ws_ret)
  | (with_reducible apply ws_if)
  | (with_reducible apply wt_test)
  | (with_reducible apply bd_mk)
  | (with_reducible apply rw_aI)
  | (with_reducible apply rw_subI)
  | ((with_reducible apply rw_catL); rfl)
  | ((with_reducible apply rw_catL2); rfl)
  | ((with_reducible apply rw_catL4); rfl)
  | (with_reducible apply rw_aS)
  | (with_reducible apply lsi_py)
  | (with_reducible apply sq_out)
  | (with_reducible apply pd_out)
  | (with_reducible apply rw_ltI)
  | (with_reducible apply rw_leI)
  | (with_reducible apply rw_gtI)
  | (with_reducible apply rw_geI)
  | ((with_reducible apply cw_len); rfl)
  | (with_reducible apply one_mk)
  | (with_reducible apply two_mk)
  | (with_reducible apply lend_tup)
  | (with_reducible apply lend_own)
  | (with_reducible apply lend_py)
  | (with_reducible apply wp_tup)
  | (with_reducible apply pys_cons)
  | (with_reducible apply pys_nil)
  | (with_reducible refine And.intro (Nat.le_of_ble_eq_true rfl) ?_)
  | ((with_reducible apply rw_ix); rfl)
  | (with_reducible apply ixd_tup)
  | (with_reducible apply ixd_out)
  | (with_reducible apply ixd_own)
  | (with_reducible apply ixd_py)
  | ((with_reducible apply rw_eqI); rfl)
  | ((with_reducible apply rw_neI); rfl)
  | ((with_reducible apply rw_eqSt); rfl; (decide +kernel); (decide +kernel); (decide +kernel))
  | ((with_reducible apply rw_eqSf); rfl; (decide +kernel); (decide +kernel); (decide +kernel))
  | ((with_reducible apply rw_eq); rfl)
  | ((with_reducible apply rw_ne); rfl)
  | ((with_reducible apply rw_in); rfl)
  | ((with_reducible apply rw_ni); rfl)
  | (with_reducible apply pd_py)
  | (with_reducible apply pd_own)
  | (with_reducible apply sqp_t)
  | (with_reducible apply sqp_l)
  | ((with_reducible apply wp_sl); rfl)
  | (with_reducible apply wo_no)
  | (with_reducible apply wo_some)
  | (with_reducible apply sld_tup)
  | (with_reducible apply sld_py)
  | (with_reducible apply id1_mk)
  | (with_reducible apply id2_mk)
  | (with_reducible apply wt_and)
  | (with_reducible apply wt_or)
  | (with_reducible apply wt_not)
  | (with_reducible apply wp_if)
  | (with_reducible apply wp_andV)
  | (with_reducible apply wp_orV)
  | (with_reducible apply wp_notV)
  | (with_reducible apply wp_chain)
  | ((with_reducible refine ws_par ?_ ?_ ?_); rotate_left 1; (exact Nat.le_of_ble_eq_true rfl); (exact Nat.le_of_ble_eq_true rfl))
  | (with_reducible refine And.intro (shp_src _) ?_)
  | (with_reducible refine And.intro (shp_srcs _) ?_)
  | (with_reducible refine And.intro (shp_inp _) ?_)
  | (with_reducible refine And.intro shp_nilL ?_)
  | (with_reducible refine And.intro (Eq.refl _) ?_)
  | ((with_reducible apply wp_scoop); rfl; rfl)
  | ((with_reducible apply wp_cx); rfl)
  | ((with_reducible apply wp_cxD); rfl)
  | (with_reducible apply ws_next)
  | ((with_reducible apply ws_app); rfl; rfl)
  | (with_reducible apply ws_drop)
  | ((with_reducible apply rw_mI); (exact wide_mul (a := 200) (b := 200) (by decide +kernel) (by decide +kernel) (by decide) (by decide) (by decide)))
  | ((with_reducible apply rw_modI); (first | decide | omega))
  | ((with_reducible apply rw_powI); (exact ⟨by decide, by decide, by decide +kernel, by decide⟩))
  | (with_reducible apply cw_max2)
  | (with_reducible apply cw_min2)
  | (with_reducible apply cw_int1)
  | (with_reducible apply bint_b)
  | ((with_reducible apply cw_tuple); rfl)
  | (with_reducible apply sq_tup)
  | (with_reducible apply sq_py)
  | (with_reducible apply sq_own)
  | (with_reducible apply wp_atom)
  | ((with_reducible apply cw_isiB); rfl; rfl; rfl)
  | (with_reducible apply wp_un)
  | (with_reducible apply uw_neg)
  | ((with_reducible apply wt_tru); rfl)
  | (with_reducible apply td_bool)
  | ((with_reducible apply rw_addO); rfl)
  | ((with_reducible apply wp_callX); rfl)
  | ((with_reducible apply wp_fld); rfl)
  | ((with_reducible apply wp_prop); rfl)
  | ((with_reducible apply wp_make); rfl)
  | ((with_reducible apply wp_own); rfl)
  | (with_reducible apply tp_mk)
  | (with_reducible apply py1_mk)
  | (with_reducible apply wn_lst)
  | (with_reducible apply wn_op)
  | (with_reducible apply wp_new; with_reducible apply wn_lst)))
local macro_rules | `(tactic| walk_at "WK") => `(tactic| repeat (walk_at "W1"))
local macro_rules | `(tactic| walk_at "OM") => `(tactic| (first | omega | ((try dsimp only); omega)))
local macro_rules | `(tactic| walk_at "IF") => `(tactic| (refine ⟨fun hb => ?_, fun hb => ?_⟩))
local macro_rules | `(tactic| walk_at "J1") => `(tactic| (first
  | ((with_reducible apply wp_var); rfl)
  | (with_reducible apply wp_cI)
  | ((with_reducible apply wp_gtup); rfl)
  | (with_reducible apply wp_cS)
  | (with_reducible apply wp_cN)
  | (with_reducible apply wp_cB)
  | ((with_reducible apply wp_catO); rfl)
  | (with_reducible apply wp_repZ; with_reducible apply wn_repZ)
  | (with_reducible apply wp_op)
  | (with_reducible apply wa_cons)
  | (with_reducible apply wa_nil)
  | ((with_reducible apply wa_star); rfl)
  | (with_reducible apply pys_py)
  | (with_reducible apply wp_cb)
  | ((with_reducible apply rw_ntN); rfl)
  | (with_reducible apply rw_ntNN)
  | (with_reducible apply wt_b)
  | ((with_reducible apply wp_din); rfl)
  | ((with_reducible apply wp_dget); rfl)
  | ((with_reducible apply ws_dput); rfl)
  | (with_reducible apply key_int)
  | (with_reducible apply wn_dnew)
  | ((with_reducible refine ws_set ?_ ?_); rotate_left 1; exact Nat.le_of_ble_eq_true rfl)
  | ((with_reducible refine ws_setO ?_ ?_); rotate_left 1; exact Nat.le_of_ble_eq_true rfl)
  | ((with_reducible refine ws_pair2 ?_ ?_ ?_ ?_); rotate_left 2; (exact Nat.le_of_ble_eq_true rfl); (exact Nat.le_of_ble_eq_true rfl); rfl)
  | (with_reducible apply tp2_mk)
  | (with_reducible apply ws_ret)
  | (with_reducible apply ws_if)
  | (with_reducible apply wt_test)
  | (with_reducible apply bd_mk)
  | (with_reducible apply rw_aI)
  | (with_reducible apply rw_subI)
  | ((with_reducible apply rw_catL); rfl)
  | ((with_reducible apply rw_catL2); rfl)
  | ((with_reducible apply rw_catL4); rfl)
  | (with_reducible apply rw_aS)
  | (with_reducible apply lsi_py)
  | (with_reducible apply sq_out)
  | (with_reducible apply pd_out)
  | (with_reducible apply rw_ltI)
  | (with_reducible apply rw_leI)
  | (with_reducible apply rw_gtI)
  | (with_reducible apply rw_geI)
  | ((with_reducible apply cw_len); rfl)
  | (with_reducible apply one_mk)
  | (with_reducible apply two_mk)
  | (with_reducible apply lend_tup)
  | (with_reducible apply lend_own)
  | (with_reducible apply lend_py)
  | (with_reducible apply wp_tup)
  | (with_reducible apply pys_cons)
  | (with_reducible apply pys_nil)
  | (with_reducible refine And.intro (Nat.le_of_ble_eq_true rfl) ?_)
  | ((with_reducible apply rw_ix); rfl)
  | (with_reducible apply ixd_tup)
  | (with_reducible apply ixd_out)
  | (with_reducible apply ixd_own)
  | (with_reducible apply ixd_py)
  | ((with_reducible apply rw_eqI); rfl)
  | ((with_reducible apply rw_neI); rfl)
  | ((with_reducible apply rw_eqSt); rfl; (decide +kernel); (decide +kernel); (decide +kernel))
  | ((with_reducible apply rw_eqSf); rfl; (decide +kernel); (decide +kernel); (decide +kernel))
  | ((with_reducible apply rw_eq); rfl)
  | ((with_reducible apply rw_ne); rfl)
  | ((with_reducible apply rw_in); rfl)
  | ((with_reducible apply rw_ni); rfl)
  | (with_reducible apply pd_py)
  | (with_reducible apply pd_own)
  | (with_reducible apply sqp_t)
  | (with_reducible apply sqp_l)
  | ((with_reducible apply wp_sl); rfl)
  | (with_reducible apply wo_no)
  | (with_reducible apply wo_some)
  | (with_reducible apply sld_tup)
  | (with_reducible apply sld_py)
  | (with_reducible apply id1_mk)
  | (with_reducible apply id2_mk)
  | (with_reducible apply wt_and)
  | (with_reducible apply wt_or)
  | (with_reducible apply wt_not)
  | (with_reducible apply wp_if)
  | (with_reducible apply wp_andV)
  | (with_reducible apply wp_orV)
  | (with_reducible apply wp_notV)
  | (with_reducible apply wp_chain)
  | ((with_reducible refine ws_par ?_ ?_ ?_); rotate_left 1; (exact Nat.le_of_ble_eq_true rfl); (exact Nat.le_of_ble_eq_true rfl))
  | (with_reducible refine And.intro (shp_src _) ?_)
  | (with_reducible refine And.intro (shp_srcs _) ?_)
  | (with_reducible refine And.intro (shp_inp _) ?_)
  | (with_reducible refine And.intro shp_nilL ?_)
  | (with_reducible refine And.intro (Eq.refl _) ?_)
  | ((with_reducible apply wp_scoop); rfl; rfl)
  | ((with_reducible apply wp_cx); rfl)
  | ((with_reducible apply wp_cxD); rfl)
  | (with_reducible apply ws_next)
  | ((with_reducible apply ws_app); rfl; rfl)
  | (with_reducible apply ws_drop)
  | ((with_reducible apply rw_mI); (exact wide_mul (a := 200) (b := 200) (by decide +kernel) (by decide +kernel) (by decide) (by decide) (by decide)))
  | ((with_reducible apply rw_modI); (first | decide | omega))
  | ((with_reducible apply rw_powI); (exact ⟨by decide, by decide, by decide +kernel, by decide⟩))
  | (with_reducible apply cw_max2)
  | (with_reducible apply cw_min2)
  | (with_reducible apply cw_int1)
  | (with_reducible apply bint_b)
  | ((with_reducible apply cw_tuple); rfl)
  | (with_reducible apply sq_tup)
  | (with_reducible apply sq_py)
  | (with_reducible apply sq_own)
  | (with_reducible apply wp_atom)
  | ((with_reducible apply cw_isiB); rfl; rfl; rfl)
  | (with_reducible apply wp_un)
  | (with_reducible apply uw_neg)
  | ((with_reducible apply wt_tru); rfl)
  | (with_reducible apply td_bool)
  | ((with_reducible apply rw_addO); rfl)
  | ((with_reducible apply wp_callX); rfl)
  | ((with_reducible apply wp_fld); rfl)
  | ((with_reducible apply wp_prop); rfl)
  | ((with_reducible apply wp_make); rfl)
  | ((with_reducible apply wp_own); rfl)
  | (with_reducible apply tp_mk)
  | (with_reducible apply py1_mk)
  | (with_reducible apply wn_lst)
  | (with_reducible apply wn_op)
  | (with_reducible apply wp_new; with_reducible apply wn_lst)))
local macro_rules | `(tactic| walk_at "WJ") => `(tactic| repeat (walk_at "J1"))
set_option hygiene true
/-! ### part V0 -/
set_option Elab.async false
set_option linter.all false
set_option maxRecDepth 100000
set_option maxHeartbeats 1000000
set_option autoImplicit false
/-! The statements of the linked text. -/
namespace Wx
open PySem L2
def top (i : Nat) : Stmt := PySem.Challenge.pw_stackworks_k62_whole_operators_needs_and.main.body.getD i (.Pass ⟨0, 0, 0, 0⟩)
def inCls : Stmt → List Stmt
  | .ClassDef _ _ _ b _ _ _ _ _ _ _ => b
  | _ => []
def meth (i j : Nat) : Stmt := (inCls (top i)).getD j (.Pass ⟨0, 0, 0, 0⟩)
end Wx

/-! ### part E0 -/
set_option Elab.async false
set_option linter.all false
set_option maxRecDepth 100000
set_option maxHeartbeats 1000000
set_option autoImplicit false
/-! What the head looks at. -/
namespace Wx
open PySem L2 PyProof.Rows
end Wx

/-! ### part E1 -/
set_option Elab.async false
set_option linter.all false
set_option maxRecDepth 100000
set_option maxHeartbeats 1000000
set_option autoImplicit false
/-! What the head looks at: own errors with a field, own __mul__, a tuple at a global. -/
namespace Wx
open PySem L2 PyProof.Rows
def mulB (K : PySem.W.Frag) (C : Addr) : Bool :=
  PySem.W.selfFirst K C && (He.eqO (PySem.W.findIn K (.ref C) "__rmul__") (some none) && ((PySem.W.findIn K (.type "int") "__mul__").isSome && ((PySem.W.findIn K (.type "int") "__rmul__").isSome && decide (PySem.W.subIn K (.type "int") (.ref C) = some false))))
def ownB (K : PySem.W.Frag) (C : Addr) : Bool := match K.lookup C with
  | some ⟨.type "type", _, .cls cd, sl⟩ => (match cd.mro, sl.toList with
    | .ref C' :: bm, [_, _, _, _, some (.builtin n), _] => C' == C && (n == "ValueError.__new__" && (!cd.hasDel && (cd.hasDict && PySem.HandSPX.refsVE bm)))
    | _, _ => false)
  | _ => false
def nothB (K : PySem.W.Frag) (x : Str) : Bool := match PySem.W.nsIn K mainGlobals x with
  | some (some (.ref a)) => (match K.lookup a with
    | some ⟨.type "tuple", _, .seq its _, _⟩ => (match its.toList with
      | [.int i _, .ref b] => decide (i = 0) && (match K.lookup b with
        | some ⟨.type "tuple", _, .seq js _, _⟩ => js.toList.isEmpty
        | _ => false)
      | _ => false)
    | _ => false)
  | _ => false
def kwN (K : PySem.W.Frag) (fI : Addr) : Bool := match K.lookup fI with
  | some ⟨_, _, .func fd, _⟩ => He.eqO (some (some fd.kwdefaults)) (some (some .none))
  | _ => false
def thB (K : PySem.W.Frag) (C fI : Addr) : Bool := ownB K C && (He.eqO (PySem.W.findIn K (.ref C) "__setattr__") (some (some (.builtin "object.__setattr__"))) && (He.eqO (PySem.W.findIn K (.ref C) "__getattribute__") (some (some (.builtin "BaseException.__getattribute__"))) && (He.eqO (PySem.W.findIn K (.ref C) "__getattr__") (some none) && (He.eqO (PySem.W.findIn K (.ref C) "least") (some none) && (He.eqO (PySem.W.findIn K (.ref C) "__init__") (some (some (.ref fI))) && (decide (PySem.W.typeIn K (.ref fI) = some (.type "function")) && (PySem.W.keepIn K (.ref C) && (decide (PySem.W.subIn K (.ref C) (.type "BaseException") = some true) && (decide (PySem.W.typeIn K (.ref C) = some (.type "type")) && (PySem.W.hasDictIn K C && (decide (PySem.W.exmOne K (.ref C) (.ref C) = some true) && kwN K fI)))))))))))
end Wx

/-! ### part H8 -/
set_option Elab.async false
set_option linter.all false
set_option maxRecDepth 100000
set_option maxHeartbeats 0
set_option autoImplicit false
/-! The head: what stands behind the top. -/
namespace Wx
open PySem L2 PyProof.Rows
structure GetD where
  c : Str
  cn : Str
  name : Str
  st : Stmt
def fnAt (K : PySem.W.Frag) (a : Addr) : He.FnW := match K.lookup a with
  | some ⟨_, _, .func fd, _⟩ => some (fd.name, fd.qualname, fd.params, fd.body, fd.scope, fd.globals, fd.closure, fd.builtins)
  | _ => none
def pad (K : PySem.W.Frag) (C : Addr) (f : Str) : Addr := match PySem.W.findIn K (.ref C) f with
  | some (some (.ref p)) => p
  | _ => 0
def gad (K : PySem.W.Frag) (C : Addr) (f : Str) : Addr := match PySem.W.recIn K (pad K C f) "property" with
  | some (.ref g :: _) => g
  | _ => 0
def dec {p : Prop} [Decidable p] (h : decide p = true) : p := of_decide_eq_true h
def getB (K : PySem.W.Frag) (C : Addr) (d : GetD) : Bool :=
  He.eqO (PySem.W.findIn K (.ref C) d.name) (some (some (.ref (pad K C d.name)))) && (He.eqO (PySem.W.specialIn K (.ref (pad K C d.name)) "__get__") (some (some (.builtin "property.__get__"))) &&
  (decide (PySem.W.takesIn K (.ref (pad K C d.name)) = some true) && ((match PySem.W.recIn K (pad K C d.name) "property" with
    | some (.ref _ :: _) => true
    | _ => false) && (PySem.W.keepIn K (.ref (gad K C d.name)) && (match K.lookup (gad K C d.name) with
      | some ⟨_, _, .func fd, _⟩ => PySem.W.codeIn K fd.code (d.cn ++ d.name) && (He.dflB K fd.defaults [] && He.kwdB K fd.kwdefaults [])
      | _ => false)))))
def getV (d : GetD) : He.FnW := some (d.name, d.cn ++ d.name, defArgs d.st, .stmts (defBody d.st), defScope d.st, mainGlobals, [], builtinsNs)
def d_xShortStack : He.DefD := ⟨("ShortStack", some "__init__"), "__init__", "ShortStack.__init__", defArgs (meth 6 0), defBody (meth 6 0), defScope (meth 6 0), [], []⟩
def d__law_bag : He.DefD := ⟨("_law_bag", none), "_law_bag", "_law_bag", defArgs (top 74), defBody (top 74), defScope (top 74), [], []⟩
def d__law_program : He.DefD := ⟨("_law_program", none), "_law_program", "_law_program", defArgs (top 83), defBody (top 83), defScope (top 83), [], []⟩
def d__law_part : He.DefD := ⟨("_law_part", none), "_law_part", "_law_part", defArgs (top 82), defBody (top 82), defScope (top 82), [], []⟩
def d__law_pick : He.DefD := ⟨("_law_pick", none), "_law_pick", "_law_pick", defArgs (top 75), defBody (top 75), defScope (top 75), [], []⟩
def d__law_levelled : He.DefD := ⟨("_law_levelled", none), "_law_levelled", "_law_levelled", defArgs (top 81), defBody (top 81), defScope (top 81), [], []⟩
def d__law_measure : He.DefD := ⟨("_law_measure", none), "_law_measure", "_law_measure", defArgs (top 80), defBody (top 80), defScope (top 80), [], []⟩
def d__law_measured : He.DefD := ⟨("_law_measured", none), "_law_measured", "_law_measured", defArgs (top 79), defBody (top 79), defScope (top 79), [], []⟩
def d__law_constant : He.DefD := ⟨("_law_constant", none), "_law_constant", "_law_constant", defArgs (top 76), defBody (top 76), defScope (top 76), [], []⟩
def d__law_number : He.DefD := ⟨("_law_number", none), "_law_number", "_law_number", defArgs (top 77), defBody (top 77), defScope (top 77), [], []⟩
def d__law_word : He.DefD := ⟨("_law_word", none), "_law_word", "_law_word", defArgs (top 78), defBody (top 78), defScope (top 78), [], []⟩
def d__law_times_right : He.DefD := ⟨("_law_times_right", none), "_law_times_right", "_law_times_right", defArgs (top 91), defBody (top 91), defScope (top 91), [], []⟩
def d_effect_of : He.DefD := ⟨("effect_of", none), "effect_of", "effect_of", defArgs (top 68), defBody (top 68), defScope (top 68), [], [("choices", .str (Str.ofString ""))]⟩
def d_require_program : He.DefD := ⟨("require_program", none), "require_program", "require_program", defArgs (top 41), defBody (top 41), defScope (top 41), [], []⟩
def d_effect_from : He.DefD := ⟨("effect_from", none), "effect_from", "effect_from", defArgs (top 66), defBody (top 66), defScope (top 66), [], []⟩
def d_Effect___init__ : He.DefD := ⟨("Effect", some "__init__"), "__init__", "Effect.__init__", defArgs (meth 65 0), defBody (meth 65 0), defScope (meth 65 0), [], []⟩
def d_in_range : He.DefD := ⟨("in_range", none), "in_range", "in_range", defArgs (top 23), defBody (top 23), defScope (top 23), [], []⟩
def d_is_int : He.DefD := ⟨("is_int", none), "is_int", "is_int", defArgs (top 22), defBody (top 22), defScope (top 22), [], []⟩
def d_is_source : He.DefD := ⟨("is_source", none), "is_source", "is_source", defArgs (top 48), defBody (top 48), defScope (top 48), [], []⟩
def d_is_constant : He.DefD := ⟨("is_constant", none), "is_constant", "is_constant", defArgs (top 24), defBody (top 24), defScope (top 24), [], []⟩
def d_cut_pair : He.DefD := ⟨("cut_pair", none), "cut_pair", "cut_pair", defArgs (top 52), defBody (top 52), defScope (top 52), [], []⟩
def d_chosen_pair : He.DefD := ⟨("chosen_pair", none), "chosen_pair", "chosen_pair", defArgs (top 67), defBody (top 67), defScope (top 67), [], []⟩
def d_pair_of : He.DefD := ⟨("pair_of", none), "pair_of", "pair_of", defArgs (top 61), defBody (top 61), defScope (top 61), [], []⟩
def d_node_pair : He.DefD := ⟨("node_pair", none), "node_pair", "node_pair", defArgs (top 62), defBody (top 62), defScope (top 62), [], []⟩
def d_word_pair : He.DefD := ⟨("word_pair", none), "word_pair", "word_pair", defArgs (top 55), defBody (top 55), defScope (top 55), [], []⟩
def d_inputs_from : He.DefD := ⟨("inputs_from", none), "inputs_from", "inputs_from", defArgs (top 54), defBody (top 54), defScope (top 54), [], []⟩
def d_is_plain_in : He.DefD := ⟨("is_plain_in", none), "is_plain_in", "is_plain_in", defArgs (top 36), defBody (top 36), defScope (top 36), [], []⟩
def d_power_pair : He.DefD := ⟨("power_pair", none), "power_pair", "power_pair", defArgs (top 60), defBody (top 60), defScope (top 60), [], []⟩
def d_power_sizes : He.DefD := ⟨("power_sizes", none), "power_sizes", "power_sizes", defArgs (top 59), defBody (top 59), defScope (top 59), [], []⟩
def d_far_source : He.DefD := ⟨("far_source", none), "far_source", "far_source", defArgs (top 58), defBody (top 58), defScope (top 58), [], []⟩
def d_joined_pair : He.DefD := ⟨("joined_pair", none), "joined_pair", "joined_pair", defArgs (top 57), defBody (top 57), defScope (top 57), [], []⟩
def d_through : He.DefD := ⟨("through", none), "through", "through", defArgs (top 56), defBody (top 56), defScope (top 56), [], []⟩
def d_source_in : He.DefD := ⟨("source_in", none), "source_in", "source_in", defArgs (top 53), defBody (top 53), defScope (top 53), [], []⟩
def d_nodes_of : He.DefD := ⟨("nodes_of", none), "nodes_of", "nodes_of", defArgs (top 44), defBody (top 44), defScope (top 44), [], []⟩
def d__law_stack : He.DefD := ⟨("_law_stack", none), "_law_stack", "_law_stack", defArgs (top 88), defBody (top 88), defScope (top 88), [], []⟩
def d_run : He.DefD := ⟨("run", none), "run", "run", defArgs (top 72), defBody (top 72), defScope (top 72), [], [("choices", .str (Str.ofString ""))]⟩
def d_require_stack : He.DefD := ⟨("require_stack", none), "require_stack", "require_stack", defArgs (top 51), defBody (top 51), defScope (top 51), [], []⟩
def d_is_stack : He.DefD := ⟨("is_stack", none), "is_stack", "is_stack", defArgs (top 50), defBody (top 50), defScope (top 50), [], []⟩
def d_require_height : He.DefD := ⟨("require_height", none), "require_height", "require_height", defArgs (top 71), defBody (top 71), defScope (top 71), [], []⟩
def d_after_pair : He.DefD := ⟨("after_pair", none), "after_pair", "after_pair", defArgs (top 64), defBody (top 64), defScope (top 64), [], []⟩
def d_Program___init__ : He.DefD := ⟨("Program", some "__init__"), "__init__", "Program.__init__", defArgs (meth 40 0), defBody (meth 40 0), defScope (meth 40 0), [], []⟩
def d_words_of : He.DefD := ⟨("words_of", none), "words_of", "words_of", defArgs (top 29), defBody (top 29), defScope (top 29), [], []⟩
def d_first_wrong : He.DefD := ⟨("first_wrong", none), "first_wrong", "first_wrong", defArgs (top 30), defBody (top 30), defScope (top 30), [], []⟩
def d_is_instruction : He.DefD := ⟨("is_instruction", none), "is_instruction", "is_instruction", defArgs (top 27), defBody (top 27), defScope (top 27), [], []⟩
def d_is_decimal : He.DefD := ⟨("is_decimal", none), "is_decimal", "is_decimal", defArgs (top 25), defBody (top 25), defScope (top 25), [], []⟩
def d_is_constant_word : He.DefD := ⟨("is_constant_word", none), "is_constant_word", "is_constant_word", defArgs (top 26), defBody (top 26), defScope (top 26), [], []⟩
def d_measure_of : He.DefD := ⟨("measure_of", none), "measure_of", "measure_of", defArgs (top 28), defBody (top 28), defScope (top 28), [], []⟩
def d_nodes_in : He.DefD := ⟨("nodes_in", none), "nodes_in", "nodes_in", defArgs (top 32), defBody (top 32), defScope (top 32), [], []⟩
def d_nodes_from : He.DefD := ⟨("nodes_from", none), "nodes_from", "nodes_from", defArgs (top 31), defBody (top 31), defScope (top 31), [], []⟩
def d_measure_in : He.DefD := ⟨("measure_in", none), "measure_in", "measure_in", defArgs (top 35), defBody (top 35), defScope (top 35), [], []⟩
def d_joined_measure : He.DefD := ⟨("joined_measure", none), "joined_measure", "joined_measure", defArgs (top 33), defBody (top 33), defScope (top 33), [], []⟩
def d_repeated_measure : He.DefD := ⟨("repeated_measure", none), "repeated_measure", "repeated_measure", defArgs (top 34), defBody (top 34), defScope (top 34), [], []⟩
def d_length_in : He.DefD := ⟨("length_in", none), "length_in", "length_in", defArgs (top 37), defBody (top 37), defScope (top 37), [], []⟩
def d_open_in : He.DefD := ⟨("open_in", none), "open_in", "open_in", defArgs (top 38), defBody (top 38), defScope (top 38), [], []⟩
def d_Effect___call__ : He.DefD := ⟨("Effect", some "__call__"), "__call__", "Effect.__call__", defArgs (meth 65 6), defBody (meth 65 6), defScope (meth 65 6), [], []⟩
def d_Effect___eq__ : He.DefD := ⟨("Effect", some "__eq__"), "__eq__", "Effect.__eq__", defArgs (meth 65 5), defBody (meth 65 5), defScope (meth 65 5), [], []⟩
def d_Effect___mul__ : He.DefD := ⟨("Effect", some "__mul__"), "__mul__", "Effect.__mul__", defArgs (meth 65 9), defBody (meth 65 9), defScope (meth 65 9), [], []⟩
def d_require_times : He.DefD := ⟨("require_times", none), "require_times", "require_times", defArgs (top 43), defBody (top 43), defScope (top 43), [], []⟩
def d_Program___mul__ : He.DefD := ⟨("Program", some "__mul__"), "__mul__", "Program.__mul__", defArgs (meth 40 11), defBody (meth 40 11), defScope (meth 40 11), [], []⟩
def d__law_pair_right : He.DefD := ⟨("_law_pair_right", none), "_law_pair_right", "_law_pair_right", defArgs (top 90), defBody (top 90), defScope (top 90), [], []⟩
def d__law_least : He.DefD := ⟨("_law_least", none), "_law_least", "_law_least", defArgs (top 89), defBody (top 89), defScope (top 89), [], []⟩
def d_same_effect : He.DefD := ⟨("same_effect", none), "same_effect", "same_effect", defArgs (top 69), defBody (top 69), defScope (top 69), [], []⟩
def d_require_plain : He.DefD := ⟨("require_plain", none), "require_plain", "require_plain", defArgs (top 42), defBody (top 42), defScope (top 42), [], []⟩
def d_plain_pair : He.DefD := ⟨("plain_pair", none), "plain_pair", "plain_pair", defArgs (top 63), defBody (top 63), defScope (top 63), [], []⟩
def d_Effect___add__ : He.DefD := ⟨("Effect", some "__add__"), "__add__", "Effect.__add__", defArgs (meth 65 8), defBody (meth 65 8), defScope (meth 65 8), [], []⟩
def d_Program___add__ : He.DefD := ⟨("Program", some "__add__"), "__add__", "Program.__add__", defArgs (meth 40 10), defBody (meth 40 10), defScope (meth 40 10), [], []⟩
def d_joined_text : He.DefD := ⟨("joined_text", none), "joined_text", "joined_text", defArgs (top 39), defBody (top 39), defScope (top 39), [], []⟩
def d_law : He.DefD := ⟨("law", none), "law", "law", defArgs (top 92), defBody (top 92), defScope (top 92), [], []⟩
def fn : List He.DefD := [d_xShortStack, d__law_bag, d__law_program, d__law_part, d__law_pick, d__law_levelled, d__law_measure, d__law_measured, d__law_constant, d__law_number, d__law_word, d__law_times_right, d_effect_of, d_require_program, d_effect_from, d_Effect___init__, d_in_range, d_is_int, d_is_source, d_is_constant, d_cut_pair, d_chosen_pair, d_pair_of, d_node_pair, d_word_pair, d_inputs_from, d_is_plain_in, d_power_pair, d_power_sizes, d_far_source, d_joined_pair, d_through, d_source_in, d_nodes_of, d__law_stack, d_run, d_require_stack, d_is_stack, d_require_height, d_after_pair, d_Program___init__, d_words_of, d_first_wrong, d_is_instruction, d_is_decimal, d_is_constant_word, d_measure_of, d_nodes_in, d_nodes_from, d_measure_in, d_joined_measure, d_repeated_measure, d_length_in, d_open_in, d_Effect___call__, d_Effect___eq__, d_Effect___mul__, d_require_times, d_Program___mul__, d__law_pair_right, d__law_least, d_same_effect, d_require_plain, d_plain_pair, d_Effect___add__, d_Program___add__, d_joined_text, d_law]
def fa : List He.Fa := [.cls "Effect", .cls "Program", .glo "ShortStack", .glo "Effect", .glo "Program", .glo "_law_bag", .free "max", .glo "_law_program", .glo "_law_part", .glo "_law_pick", .free "len", .glo "_law_levelled", .glo "_law_measure", .glo "_law_measured", .free "int", .glo "_law_constant", .free "str", .free "range", .glo "_law_number", .glo "_law_word", .free "min", .glo "_law_times_right", .glo "effect_of", .glo "require_program", .free "isinstance", .noat "Program" "own_text", .noat "Program" "own_words", .noat "Program" "own_nodes", .noat "Program" "own_need", .noat "Program" "own_rise", .noat "Program" "own_growth", .noat "Program" "own_plain", .noat "Program" "own_steps", .noat "Program" "own_open", .glo "effect_from", .int "MOST_HIGH" 100, .mkr "Effect", .glo "in_range", .glo "is_int", .free "bool", .free "tuple", .free "all", .glo "is_source", .glo "is_constant", .int "GREATEST" (10 ^ 30), .glo "cut_pair", .noat "Effect" "kept_taken", .noat "Effect" "kept_left", .glo "chosen_pair", .int "MOST_CHOICES" 200, .glo "pair_of", .glo "node_pair", .glo "word_pair", .glo "inputs_from", .glo "is_plain_in", .glo "power_pair", .glo "power_sizes", .glo "far_source", .glo "joined_pair", .glo "through", .glo "source_in", .glo "nodes_of", .glo "_law_stack", .glo "run", .glo "require_stack", .glo "is_stack", .glo "require_height", .glo "after_pair", .mkr "Program", .glo "words_of", .glo "first_wrong", .free "enumerate", .int "MOST_WORDS" 1000, .int "MOST_OPEN" 12, .glo "is_instruction", .glo "is_decimal", .int "MOST_DIGITS" 31, .str "DIGITS" "0123456789", .glo "is_constant_word", .int "MOST_TIMES" (10 ^ 30), .glo "measure_of", .glo "nodes_in", .glo "nodes_from", .glo "measure_in", .glo "joined_measure", .glo "repeated_measure", .glo "length_in", .glo "open_in", .meth "Effect" "__call__", .meth "Effect" "__eq__", .meth "Effect" "__mul__", .glo "require_times", .meth "Program" "__mul__", .glo "_law_pair_right", .glo "_law_least", .glo "same_effect", .glo "require_plain", .glo "plain_pair", .meth "Effect" "__add__", .meth "Program" "__add__", .glo "joined_text", .glo "law"]
def loose : List Str := [("StackError" : Str), ("InvalidText" : Str), ("TooHigh" : Str), ("TooLarge" : Str), ("TooDeep" : Str), ("ShortStack" : Str), ("InvalidProgram" : Str), ("NotPlain" : Str), ("InvalidTimes" : Str), ("InvalidStack" : Str), ("InvalidChoices" : Str), ("InvalidEffect" : Str), ("InvalidDepth" : Str), ("DIGITS" : Str), ("GREATEST" : Str), ("MOST_DIGITS" : Str), ("MOST_WORDS" : Str), ("MOST_OPEN" : Str), ("MOST_TIMES" : Str), ("MOST_HIGH" : Str), ("is_int" : Str), ("in_range" : Str), ("is_constant" : Str), ("is_decimal" : Str), ("is_constant_word" : Str), ("is_instruction" : Str), ("measure_of" : Str), ("words_of" : Str), ("first_wrong" : Str), ("nodes_from" : Str), ("nodes_in" : Str), ("joined_measure" : Str), ("repeated_measure" : Str), ("measure_in" : Str), ("is_plain_in" : Str), ("length_in" : Str), ("open_in" : Str), ("joined_text" : Str), ("Program" : Str), ("require_program" : Str), ("require_plain" : Str), ("require_times" : Str), ("nodes_of" : Str), ("MOST_CHOICES" : Str), ("NOTHING" : Str), ("is_source" : Str), ("require_depth" : Str), ("is_stack" : Str), ("require_stack" : Str), ("cut_pair" : Str), ("source_in" : Str), ("inputs_from" : Str), ("word_pair" : Str), ("through" : Str), ("joined_pair" : Str), ("far_source" : Str), ("power_sizes" : Str), ("power_pair" : Str), ("pair_of" : Str), ("node_pair" : Str), ("plain_pair" : Str), ("after_pair" : Str), ("Effect" : Str), ("effect_from" : Str), ("chosen_pair" : Str), ("effect_of" : Str), ("same_effect" : Str), ("require_height" : Str), ("run" : Str), ("_law_bag" : Str), ("_law_pick" : Str), ("_law_constant" : Str), ("_law_number" : Str), ("_law_word" : Str), ("_law_measured" : Str), ("_law_measure" : Str), ("_law_levelled" : Str), ("_law_part" : Str), ("_law_program" : Str), ("_law_length" : Str), ("_law_steps" : Str), ("_law_short" : Str), ("_law_run" : Str), ("_law_stack" : Str), ("_law_least" : Str), ("_law_pair_right" : Str), ("_law_times_right" : Str)]
def gs : List GetD := [⟨"Program", "Program.", "need", (meth 40 2)⟩, ⟨"Program", "Program.", "rise", (meth 40 3)⟩, ⟨"Program", "Program.", "is_plain", (meth 40 5)⟩]
def six : List String := ["NoneType", "bool", "int", "str", "list", "tuple"]
def clsB (K : PySem.W.Frag) (C : Addr) : Bool :=
  He.eqO (PySem.W.findIn K (.ref C) "__class__") (some (some (.builtin "object.__class__"))) && (He.eqO (PySem.W.specialIn K (.builtin "object.__class__") "__get__") (some (some (.builtin "getset_descriptor.__get__"))) &&
  (decide (PySem.W.takesIn K (.builtin "object.__class__") = some true) && (decide (PySem.W.mroIn K C (.type "object") = some true) && (decide (PySem.W.kitOne K (.ref C) (.ref C) = some true) &&
  ((six.all fun s => decide (PySem.W.kitOne K (.type s) (.ref C) = some false) && PySem.W.notFirst K C (.type s)) && (He.eqO (PySem.W.findIn K (.ref C) "__ne__") (some (some (.builtin "object.__ne__"))) && PySem.W.selfFirst K C))))))
def clsE (K : PySem.W.Frag) : Bool := clsB K (He.ga K "Effect") && (clsB K (He.ga K "Program") && (PySem.W.fnIn K (He.ma K (He.ga K "Effect") "__call__") && ((gs.all fun d => getB K (He.ga K d.c) d) && (mulB K (He.ga K "Effect") && (mulB K (He.ga K "Program") && (nothB K "NOTHING" && thB K (He.ga K "ShortStack") (He.ma K (He.ga K "ShortStack") "__init__")))))))
def valG : List He.FnW := gs.foldr (fun d r => getV d :: r) []
theorem valG_eq : valG = gs.map getV := rfl
structure More (K : PySem.W.Frag) : Prop where
  b : clsE K = true
  v : gs.map (fun d => fnAt K (gad K (He.ga K d.c) d.name)) = valG
abbrev Al : Type := Bool × He.AlD × List He.FnW
def obsX (K : PySem.W.Frag) : Al := (clsE K, He.obsD fa fn K, gs.map fun d => fnAt K (gad K (He.ga K d.c) d.name))
def valX : Al := (true, He.valD fn, valG)
theorem says_of {K : PySem.W.Frag} (e : obsX K = valX) : He.SaysD fa fn K ∧ More K := ⟨congrArg (fun z : Al => z.2.1) e, congrArg (fun z : Al => z.1) e, congrArg (fun z : Al => z.2.2) e⟩
/-- what the names reach in n steps -/
def fro (g : Addr → Option Obj) : Nat → List Addr → List Addr
  | 0, l => l
  | n + 1, l => l ++ fro g n (l.flatMap fun a => match g a with
    | some o => He.refsD o
    | none => [])
def obG (n : Nat) (g : Addr → Option Obj) : Al := obsX (He.frG g (fro g n [mainGlobals]))
def hk : PySem.W.Hook where
  α := Al
  obs := fun s => obG 5 s.heap.get?
  val := fun _ => valX
  says := fun _ h => ∃ K : PySem.W.Frag, K.In h ∧ He.SaysD fa fn K ∧ More K
  of := fun _ _ e => ⟨_, He.frG_in, says_of e⟩
  keeps := fun _ _ _ ⟨K, h1, h2⟩ k => ⟨K, PySem.W.Frag.In.keeps h1 k, h2⟩
abbrev RR : PySem.W.OpenRow := PySem.W.OpenLaw.row PySem.Challenge.rw_stackworks_k62_whole_operators_needs_and
def ob (s : PySem.W.SharedT) : Al := obG 5 (HandSHeadRun.getT s)
theorem ob_eq (s : PySem.W.SharedT) : ob s = hk.obs s.abs := by
  have e : HandSHeadRun.getT s = s.abs.heap.get? := funext (HandSHeadRun.getT_eq s)
  unfold ob
  rw [e]
  rfl
theorem run (w : World) : HandSHeadRun.RunEq RR (PySem.W.view RR.prog [92]) hk ob 8000 loose w := by
  intro os
  kernel_rfl
end Wx

/-! ### part Wx -/
set_option Elab.async false
set_option linter.all false
set_option maxRecDepth 100000
set_option maxHeartbeats 1000000
set_option autoImplicit false
/-! A calculus of data over HandS: what an expression is worth (Wp), a test (Wt), arguments (Wa), a statement (Ws), told by data alone; the heap is carried once, here. -/
namespace Wx
open PySem L2

/-! ## data at an address, apart from a set of places that move -/
mutual
inductive Da (K : PySem.W.Frag) (S : Addr → Prop) (H : Hp) : V → PyData → Prop
  | non : Da K S H .non .none
  | bl (b : Bool) : Da K S H (.bl b) (.bool b)
  | int (i : Int) : Da K S H (.int i) (.int i)
  | str (x : Str) : Da K S H (.str x) (.str x)
  | lst {a : Addr} {xs : List V} {ds : List PyData} : ¬ S a → Rd H a (.lst xs) → DaL K S H xs ds → Da K S H (.ref a) (.list ds)
  | tup {a : Addr} {xs : List V} {ds : List PyData} : ¬ S a → Rd H a (.tup xs) → DaL K S H xs ds → Da K S H (.ref a) (.tuple ds)
  | lstK {a : Addr} {xs : List V} {ds : List PyData} : (∀ G : Hp, SqL K G a xs) → DaL K S H xs ds → Da K S H (.ref a) (.list ds)
  | tupK {a : Addr} {xs : List V} {ds : List PyData} : (∀ G : Hp, SqT K G a xs) → DaL K S H xs ds → Da K S H (.ref a) (.tuple ds)
inductive DaL (K : PySem.W.Frag) (S : Addr → Prop) (H : Hp) : List V → List PyData → Prop
  | nil : DaL K S H [] []
  | cons {v : V} {vs : List V} {d : PyData} {ds : List PyData} : Da K S H v d → DaL K S H vs ds → DaL K S H (v :: vs) (d :: ds)
end

section
variable {K : PySem.W.Frag} {S T : Addr → Prop} {H H' : Hp} {v : V} {d : PyData} {vs : List V} {ds : List PyData}
/-- what is read stays, if it is not at a place that moves -/
def Kept (S : Addr → Prop) (H H' : Hp) : Prop := ∀ a o, ¬ S a → H a = some o → H' a = some o
theorem Kept.refl : Kept S H H := fun _ _ _ h => h
theorem Kept.trans {H1 H2 : Hp} (a : Kept S H H1) (b : Kept S H1 H2) : Kept S H H2 := fun x o n h => b x o n (a x o n h)
theorem Kept.rd (k : Kept S H H') {a : Addr} {u : HO} (n : ¬ S a) (r : Rd H a u) : Rd H' a u := by
  rcases r with r | ⟨o, r⟩
  · exact .inl (k a _ n r)
  · exact .inr ⟨o, k a _ n r⟩
mutual
theorem Da.keep (k : Kept S H H') : ∀ {v : V} {d : PyData}, Da K S H v d → Da K S H' v d
  | _, _, .non => .non
  | _, _, .bl b => .bl b
  | _, _, .int i => .int i
  | _, _, .str x => .str x
  | _, _, .lst n r t => .lst n (k.rd n r) (DaL.keep k t)
  | _, _, .tup n r t => .tup n (k.rd n r) (DaL.keep k t)
  | _, _, .lstK r t => .lstK r (DaL.keep k t)
  | _, _, .tupK r t => .tupK r (DaL.keep k t)
theorem DaL.keep (k : Kept S H H') : ∀ {vs : List V} {ds : List PyData}, DaL K S H vs ds → DaL K S H' vs ds
  | _, _, .nil => .nil
  | _, _, .cons h t => .cons (Da.keep k h) (DaL.keep k t)
end
mutual
theorem Da.less (w : ∀ a, T a → S a) : ∀ {v : V} {d : PyData}, Da K S H v d → Da K T H v d
  | _, _, .non => .non
  | _, _, .bl b => .bl b
  | _, _, .int i => .int i
  | _, _, .str x => .str x
  | _, _, .lst n r t => .lst (fun z => n (w _ z)) r (DaL.less w t)
  | _, _, .tup n r t => .tup (fun z => n (w _ z)) r (DaL.less w t)
  | _, _, .lstK r t => .lstK r (DaL.less w t)
  | _, _, .tupK r t => .tupK r (DaL.less w t)
theorem DaL.less (w : ∀ a, T a → S a) : ∀ {vs : List V} {ds : List PyData}, DaL K S H vs ds → DaL K T H vs ds
  | _, _, .nil => .nil
  | _, _, .cons h t => .cons (Da.less w h) (DaL.less w t)
end
theorem DaL.len : ∀ {vs : List V} {ds : List PyData}, DaL K S H vs ds → vs.length = ds.length
  | _, _, .nil => rfl
  | _, _, .cons _ t => by simp only [List.length_cons]; rw [DaL.len t]
theorem DaL.get : ∀ {vs : List V} {ds : List PyData} {i : Nat} {d : PyData}, DaL K S H vs ds → ds[i]? = some d → ∃ v, vs[i]? = some v ∧ Da K S H v d
  | _, _, i, _, .nil, h => by simp at h
  | _, _, 0, _, .cons h _, e => by simp at e; subst e; exact ⟨_, rfl, h⟩
  | _, _, i + 1, d, .cons _ t, e => by
    obtain ⟨v, h1, h2⟩ := DaL.get (i := i) (d := d) t (by simpa using e)
    exact ⟨v, by simpa using h1, h2⟩
theorem DaL.got : ∀ {vs : List V} {ds : List PyData} {i : Nat} {v : V}, DaL K S H vs ds → vs[i]? = some v → ∃ d, ds[i]? = some d ∧ Da K S H v d
  | _, _, i, _, .nil, h => by simp at h
  | _, _, 0, _, .cons h _, e => by simp at e; subst e; exact ⟨_, rfl, h⟩
  | _, _, i + 1, v, .cons _ t, e => by
    obtain ⟨d, h1, h2⟩ := DaL.got (i := i) (v := v) t (by simpa using e)
    exact ⟨d, by simpa using h1, h2⟩
theorem DaL.append : ∀ {vs ws : List V} {ds es : List PyData}, DaL K S H vs ds → DaL K S H ws es → DaL K S H (vs ++ ws) (ds ++ es)
  | _, _, _, _, .nil, h => h
  | _, _, _, _, .cons h t, u => .cons h (DaL.append t u)
theorem DaL.take : ∀ {vs : List V} {ds : List PyData} (n : Nat), DaL K S H vs ds → DaL K S H (vs.take n) (ds.take n)
  | _, _, 0, _ => .nil
  | _, _, _ + 1, .nil => .nil
  | _, _, n + 1, .cons h t => .cons h (DaL.take n t)
theorem DaL.drop : ∀ {vs : List V} {ds : List PyData} (n : Nat), DaL K S H vs ds → DaL K S H (vs.drop n) (ds.drop n)
  | _, _, 0, h => h
  | _, _, _ + 1, .nil => .nil
  | _, _, n + 1, .cons _ t => DaL.drop n t
theorem DaL.nil_iff (h : DaL K S H vs ds) : vs = [] ↔ ds = [] := by
  cases h with
  | nil => simp
  | cons _ _ => simp
mutual
theorem Da.dp : ∀ {v : V} {d : PyData}, Da K S H v d → Dp K H v d
  | _, _, .non => .non
  | _, _, .bl b => .bl b
  | _, _, .int i => .int i
  | _, _, .str x => .str x
  | _, _, .lst _ r t => .lst (.inl r) (DaL.dp t)
  | _, _, .tup _ r t => .tup (.inl r) (DaL.dp t)
  | _, _, .lstK r t => .lst (r H) (DaL.dp t)
  | _, _, .tupK r t => .tup (r H) (DaL.dp t)
theorem DaL.dp : ∀ {vs : List V} {ds : List PyData}, DaL K S H vs ds → DpAll K H vs ds
  | _, _, .nil => .nil
  | _, _, .cons h t => .cons (Da.dp h) (DaL.dp t)
end
theorem Da.int_eq {i : Int} (h : Da K S H v (.int i)) : v = .int i := by cases h; rfl
theorem Da.bl_eq {b : Bool} (h : Da K S H v (.bool b)) : v = .bl b := by cases h; rfl
theorem Da.str_eq {x : Str} (h : Da K S H v (.str x)) : v = .str x := by cases h; rfl
theorem Da.non_eq (h : Da K S H v .none) : v = .non := by cases h; rfl
theorem Da.list_at (h : Da K S H v (.list ds)) : ∃ a xs, v = .ref a ∧ SqL K H a xs ∧ DaL K S H xs ds := by
  cases h with
  | lst n r t => exact ⟨_, _, rfl, .inl r, t⟩
  | lstK r t => exact ⟨_, _, rfl, r H, t⟩
theorem Da.tuple_at (h : Da K S H v (.tuple ds)) : ∃ a xs, v = .ref a ∧ SqT K H a xs ∧ DaL K S H xs ds := by
  cases h with
  | tup n r t => exact ⟨_, _, rfl, .inl r, t⟩
  | tupK r t => exact ⟨_, _, rfl, r H, t⟩
end

/-! ## what a name may hold -/
/-- what one holds alone, and may change -/
inductive Ow where
  | lst (ds : List PyData)
  | dct (ds : List (Key × PyData))
  | ins (C : Addr) (fs : List (Str × PyData))
  | lsi (C : Addr) (gs : List (List (Str × PyData)))
inductive D where
  | py (p : PyData)
  | mine (w : Ow)
  | dct (ds : List (Key × PyData))
  | dcl (ds : List (Key × PyData))
  | brw (ds : List PyData)
  | ins (C : Addr) (fs : List (Str × PyData))
  | atom (v : V)
  | kln
  | lsx

def D.nm : D → Bool
  | .mine _ => false
  | _ => true
/-- K: the written part; k: where the draws' list stands; S0: places of the callers that are not to be shared -/
structure Cy where
  K : PySem.W.Frag
  k : Option Addr
  S0 : Addr → Prop
  hk : ∀ a, k = some a → S0 a

def KlnAt (n : Nat) (o : Option HO) : Prop := ∃ a b m : Int, o = some (.lst [.int a, .int b, .int m]) ∧ 0 ≤ a ∧ True ∧ True ∧ 0 ≤ m ∧ m ≤ (n : Int)
structure Good (c : Cy) (n : Nat) (H : Hp) : Prop where
  al : ∀ a, c.S0 a → H a ≠ none
  kl : ∀ a, c.k = some a → KlnAt n (H a)
/-- all but the draws' list stays -/
def Ek (c : Cy) (H H' : Hp) : Prop := Kept (fun a => c.k = some a) H H'

def FsR (K : PySem.W.Frag) (S : Addr → Prop) (H : Hp) : List (Str × V) → List (Str × PyData) → Prop
  | [], [] => True
  | (x, v) :: r, (y, d) :: s => x = y ∧ Da K S H v d ∧ FsR K S H r s
  | _, _ => False
def KvR (K : PySem.W.Frag) (S : Addr → Prop) (H : Hp) : List (Key × V) → List (Key × PyData) → Prop
  | [], [] => True
  | (x, v) :: r, (y, d) :: s => x = y ∧ Da K S H v d ∧ KvR K S H r s
  | _, _ => False
def InsL (K : PySem.W.Frag) (S : Addr → Prop) (H : Hp) (C : Addr) : List V → List (List (Str × PyData)) → Prop
  | [], [] => True
  | v :: r, g :: s => (∃ b dx vs, v = .ref b ∧ ¬ S b ∧ H b = some (.ins C dx vs) ∧ FsR K S H vs g) ∧ InsL K S H C r s
  | _, _ => False
def OwAt (K : PySem.W.Frag) (A : Addr → Prop) (H : Hp) (a : Addr) : Ow → Prop
  | .lst ds => ∃ xs, H a = some (.lst xs) ∧ DaL K A H xs ds
  | .dct ds => ∃ kvs, H a = some (.dK kvs) ∧ KvR K A H kvs ds
  | .ins C fs => ∃ dx vs, H a = some (.ins C dx vs) ∧ FsR K A H vs fs
  | .lsi C gs => ∃ xs, H a = some (.lst xs) ∧ InsL K A H C xs gs
def DX (c : Cy) (A : Addr → Prop) (H : Hp) (v : V) : D → Prop
  | .py p => Da c.K A H v p
  | .mine w => ∃ a, v = .ref a ∧ ¬ c.S0 a ∧ A a ∧ OwAt c.K A H a w
  | .dct ds => ∃ a kvs, v = .ref a ∧ ¬ A a ∧ H a = some (.dK kvs) ∧ KvR c.K A H kvs ds
  | .dcl ds => ∃ a kvs od, v = .ref a ∧ ¬ A a ∧ H a = some (.frz od (.dK kvs)) ∧ KvR c.K A H kvs ds
  | .brw ds => ∃ a xs, v = .ref a ∧ c.k ≠ some a ∧ c.S0 a ∧ H a = some (.lst xs) ∧ DaL c.K A H xs ds
  | .ins C fs => ∃ a dx vs, v = .ref a ∧ ¬ A a ∧ H a = some (.ins C dx vs) ∧ FsR c.K A H vs fs
  | .atom w => v = w
  | .kln => ∃ a, v = .ref a ∧ c.k = some a
  | .lsx => ∃ a xs, v = .ref a ∧ ¬ A a ∧ H a = some (.lst xs)

section
variable {c : Cy} {A B : Addr → Prop} {H H' : Hp} {v : V} {d : D}
theorem FsR.keep {K : PySem.W.Frag} {S : Addr → Prop} (k : Kept S H H') : ∀ {vs : List (Str × V)} {fs : List (Str × PyData)}, FsR K S H vs fs → FsR K S H' vs fs
  | [], [], _ => True.intro
  | (x, v) :: r, (y, d) :: s, ⟨e, h, t⟩ => ⟨e, h.keep k, FsR.keep k t⟩
  | [], _ :: _, h => h.elim
  | _ :: _, [], h => h.elim
theorem FsR.less {K : PySem.W.Frag} {S T : Addr → Prop} (w : ∀ a, T a → S a) : ∀ {vs : List (Str × V)} {fs : List (Str × PyData)}, FsR K S H vs fs → FsR K T H vs fs
  | [], [], _ => True.intro
  | (x, v) :: r, (y, d) :: s, ⟨e, h, t⟩ => ⟨e, h.less w, FsR.less w t⟩
  | [], _ :: _, h => h.elim
  | _ :: _, [], h => h.elim
theorem FsR.look {K : PySem.W.Frag} {S : Addr → Prop} {f : Str} {p : PyData} : ∀ {vs : List (Str × V)} {fs : List (Str × PyData)}, FsR K S H vs fs → fs.lookup f = some p → ∃ v, vs.lookup f = some v ∧ Da K S H v p
  | [], [], _, e => by simp at e
  | (x, v) :: r, (y, d) :: s, ⟨e, h, t⟩, q => by
    subst e
    rw [List.lookup_cons] at q ⊢
    by_cases z : (f == x) = true
    · rw [z] at q ⊢
      exact ⟨v, rfl, by cases q; exact h⟩
    · have z' : (f == x) = false := by simpa using z
      rw [z'] at q ⊢
      exact FsR.look t q
  | [], _ :: _, h, _ => h.elim
  | _ :: _, [], h, _ => h.elim
theorem KvR.keep {K : PySem.W.Frag} {S : Addr → Prop} (k : Kept S H H') : ∀ {vs : List (Key × V)} {fs : List (Key × PyData)}, KvR K S H vs fs → KvR K S H' vs fs
  | [], [], _ => True.intro
  | (x, v) :: r, (y, d) :: s, ⟨e, h, t⟩ => ⟨e, h.keep k, KvR.keep k t⟩
  | [], _ :: _, h => h.elim
  | _ :: _, [], h => h.elim
theorem KvR.less {K : PySem.W.Frag} {S T : Addr → Prop} (w : ∀ a, T a → S a) : ∀ {vs : List (Key × V)} {fs : List (Key × PyData)}, KvR K S H vs fs → KvR K T H vs fs
  | [], [], _ => True.intro
  | (x, v) :: r, (y, d) :: s, ⟨e, h, t⟩ => ⟨e, h.less w, KvR.less w t⟩
  | [], _ :: _, h => h.elim
  | _ :: _, [], h => h.elim
theorem InsL.keep {K : PySem.W.Frag} {S : Addr → Prop} {C : Addr} (k : Kept S H H') : ∀ {vs : List V} {gs : List (List (Str × PyData))}, InsL K S H C vs gs → InsL K S H' C vs gs
  | [], [], _ => True.intro
  | v :: r, g :: s, ⟨⟨b, dx, vs, e, n, q, f⟩, t⟩ => ⟨⟨b, dx, vs, e, n, k b _ n q, f.keep k⟩, InsL.keep k t⟩
  | [], _ :: _, h => h.elim
  | _ :: _, [], h => h.elim
theorem InsL.less {K : PySem.W.Frag} {S T : Addr → Prop} {C : Addr} (w : ∀ a, T a → S a) : ∀ {vs : List V} {gs : List (List (Str × PyData))}, InsL K S H C vs gs → InsL K T H C vs gs
  | [], [], _ => True.intro
  | v :: r, g :: s, ⟨⟨b, dx, vs, e, n, q, f⟩, t⟩ => ⟨⟨b, dx, vs, e, fun z => n (w b z), q, f.less w⟩, InsL.less w t⟩
  | [], _ :: _, h => h.elim
  | _ :: _, [], h => h.elim
theorem InsL.len {K : PySem.W.Frag} {S : Addr → Prop} {C : Addr} : ∀ {vs : List V} {gs : List (List (Str × PyData))}, InsL K S H C vs gs → vs.length = gs.length
  | [], [], _ => rfl
  | v :: r, g :: s, ⟨_, t⟩ => by rw [List.length_cons, List.length_cons, InsL.len t]
  | [], _ :: _, h => h.elim
  | _ :: _, [], h => h.elim
theorem OwAt.keep {K : PySem.W.Frag} {S : Addr → Prop} {a : Addr} {w : Ow} (k : Kept S H H') (ka : ∀ o, H a = some o → H' a = some o) (h : OwAt K S H a w) : OwAt K S H' a w := by
  cases w with
  | lst ds => obtain ⟨xs, h1, h2⟩ := h; exact ⟨xs, ka _ h1, h2.keep k⟩
  | dct ds => obtain ⟨xs, h1, h2⟩ := h; exact ⟨xs, ka _ h1, h2.keep k⟩
  | ins C fs => obtain ⟨dx, vs, h1, h2⟩ := h; exact ⟨dx, vs, ka _ h1, h2.keep k⟩
  | lsi C gs => obtain ⟨xs, h1, h2⟩ := h; exact ⟨xs, ka _ h1, h2.keep k⟩
theorem OwAt.less {K : PySem.W.Frag} {S T : Addr → Prop} {a : Addr} {w : Ow} (u : ∀ a, T a → S a) (h : OwAt K S H a w) : OwAt K T H a w := by
  cases w with
  | lst ds => obtain ⟨xs, h1, h2⟩ := h; exact ⟨xs, h1, h2.less u⟩
  | dct ds => obtain ⟨xs, h1, h2⟩ := h; exact ⟨xs, h1, h2.less u⟩
  | ins C fs => obtain ⟨dx, vs, h1, h2⟩ := h; exact ⟨dx, vs, h1, h2.less u⟩
  | lsi C gs => obtain ⟨xs, h1, h2⟩ := h; exact ⟨xs, h1, h2.less u⟩
theorem OwAt.al {K : PySem.W.Frag} {S : Addr → Prop} {a : Addr} {w : Ow} (h : OwAt K S H a w) : H a ≠ none := by
  cases w with
  | lst ds => obtain ⟨xs, h1, h2⟩ := h; rw [h1]; exact fun z => nomatch z
  | dct ds => obtain ⟨xs, h1, h2⟩ := h; rw [h1]; exact fun z => nomatch z
  | ins C fs => obtain ⟨dx, vs, h1, h2⟩ := h; rw [h1]; exact fun z => nomatch z
  | lsi C gs => obtain ⟨xs, h1, h2⟩ := h; rw [h1]; exact fun z => nomatch z
theorem Ek.refl : Ek c H H := Kept.refl
theorem Ek.trans {H1 H2 : Hp} (a : Ek c H H1) (b : Ek c H1 H2) : Ek c H H2 := Kept.trans a b
theorem Ek.kept (e : Ek c H H') (hA : ∀ a, c.k = some a → A a) : Kept A H H' := fun a o n h => e a o (fun z => n (hA a z)) h
theorem Ek.new {p : Addr} {o : HO} (h : H p = none) : Ek c H (upd H p o) := fun a u _ e => by rw [upd_ne (ne_of_none e h)]; exact e
theorem DX.keep (e : Ek c H H') (hA : ∀ a, c.k = some a → A a) (h : DX c A H v d) : DX c A H' v d := by
  have k := e.kept hA
  cases d with
  | py p => exact Da.keep k h
  | mine w => obtain ⟨a, q, n, m, t⟩ := h; exact ⟨a, q, n, m, t.keep k fun o r => e a o (fun z => n (c.hk a z)) r⟩
  | dct ds => obtain ⟨a, kvs, q, n, r, t⟩ := h; exact ⟨a, kvs, q, n, e a _ (fun z => n (hA a z)) r, t.keep k⟩
  | dcl ds => obtain ⟨a, kvs, od, q, n, r, t⟩ := h; exact ⟨a, kvs, od, q, n, e a _ (fun z => n (hA a z)) r, t.keep k⟩
  | brw ds => obtain ⟨a, xs, q, n, m, r, t⟩ := h; exact ⟨a, xs, q, n, m, e a _ n r, t.keep k⟩
  | ins C fs => obtain ⟨a, dx, vs, q, n, r, t⟩ := h; exact ⟨a, dx, vs, q, n, e a _ (fun z => n (hA a z)) r, t.keep k⟩
  | atom w => exact h
  | kln => exact h
  | lsx => obtain ⟨a, xs, q, n, r⟩ := h; exact ⟨a, xs, q, n, e a _ (fun z => n (hA a z)) r⟩
theorem DX.less (w : ∀ a, B a → A a) (nm : d.nm = true) (h : DX c A H v d) : DX c B H v d := by
  cases d with
  | py p => exact Da.less w h
  | mine ds => cases nm
  | dct ds => obtain ⟨a, kvs, q, n, r, t⟩ := h; exact ⟨a, kvs, q, fun z => n (w a z), r, t.less w⟩
  | dcl ds => obtain ⟨a, kvs, od, q, n, r, t⟩ := h; exact ⟨a, kvs, od, q, fun z => n (w a z), r, t.less w⟩
  | brw ds => obtain ⟨a, xs, q, n, m, r, t⟩ := h; exact ⟨a, xs, q, n, m, r, t.less w⟩
  | ins C fs => obtain ⟨a, dx, vs, q, n, r, t⟩ := h; exact ⟨a, dx, vs, q, fun z => n (w a z), r, t.less w⟩
  | atom w => exact h
  | kln => exact h
  | lsx => obtain ⟨a, xs, q, n, r⟩ := h; exact ⟨a, xs, q, fun z => n (w a z), r⟩
theorem Good.le {n m : Nat} (g : Good c n H) (h : n ≤ m) : Good c m H := ⟨g.al, fun a e => by
  obtain ⟨x, y, z, q, h1, h2, h3, h4, h5⟩ := g.kl a e
  exact ⟨x, y, z, q, h1, h2, h3, h4, by omega⟩⟩
theorem Good.new {n : Nat} {p : Addr} {o : HO} (g : Good c n H) (h : H p = none) : Good c n (upd H p o) := ⟨fun a s => by
    by_cases e : a = p
    · rw [e, upd_same]; exact fun z => nomatch z
    · rw [upd_ne e]; exact g.al a s, fun a s => by
    have := g.kl a s
    have e : a ≠ p := fun e => by obtain ⟨_, _, _, q, _⟩ := this; rw [e, h] at q; cases q
    rw [upd_ne e]; exact this⟩
end

/-! ## names -/
inductive Slo where
  | emp
  | val (d : D)
  | own (w : Ow)
structure En where
  sl : List Slo
  n : Nat
def ownA (σ : St) (e : List Slo) (a : Addr) : Prop := ∃ (i : Nat) (w : Ow), e[i]? = some (Slo.own w) ∧ σ[i]? = some (some (V.ref a))
def Av (c : Cy) (σ : St) (e : List Slo) (a : Addr) : Prop := c.S0 a ∨ ownA σ e a

structure Ok (c : Cy) (A : Addr → Prop) (H : Hp) (σ : St) (e : En) : Prop where
  len : σ.length = e.sl.length
  good : Good c e.n H
  sub : ∀ a, Av c σ e.sl a → A a
  al : ∀ a, A a → H a ≠ none
  val : ∀ (i : Nat) (d : D), e.sl[i]? = some (Slo.val d) → d.nm = true ∧ ∃ v : V, σ[i]? = some (some v) ∧ DX c A H v d
  own : ∀ (i : Nat) (w : Ow), e.sl[i]? = some (Slo.own w) → ∃ a : Addr, σ[i]? = some (some (V.ref a)) ∧ OwAt c.K A H a w ∧ ¬ c.S0 a
  sep : ∀ (i j : Nat) (ds es : Ow) (a : Addr), e.sl[i]? = some (Slo.own ds) → e.sl[j]? = some (Slo.own es) → σ[i]? = some (some (V.ref a)) → σ[j]? = some (some (V.ref a)) → i = j
section
variable {c : Cy} {A B : Addr → Prop} {H H' : Hp} {σ : St} {e : En}
theorem Ok.k (o : Ok c A H σ e) (a : Addr) (h : c.k = some a) : A a := o.sub a (.inl (c.hk a h))
theorem Ok.keep {n : Nat} (o : Ok c A H σ e) (k : Ek c H H') (g : Good c n H') : Ok c A H' σ ⟨e.sl, n⟩ :=
  ⟨o.len, g, o.sub, fun a z => (by
    by_cases w : c.k = some a
    · obtain ⟨_, _, _, q, _⟩ := g.kl a w
      rw [q]; exact fun z => nomatch z
    · cases q : H a with
      | none => exact absurd q (o.al a z)
      | some u => rw [k a u w q]; exact fun z => nomatch z), fun i d h => by
    obtain ⟨nm, v, h1, h2⟩ := o.val i d h
    exact ⟨nm, v, h1, h2.keep k o.k⟩, fun i ds h => by
    obtain ⟨a, h1, h3, h4⟩ := o.own i ds h
    exact ⟨a, h1, h3.keep (k.kept o.k) fun u r => k a u (fun z => h4 (c.hk a z)) r, h4⟩, o.sep⟩
theorem Ok.less (o : Ok c A H σ e) (w : ∀ a, B a → A a) (s : ∀ a, Av c σ e.sl a → B a) : Ok c B H σ e :=
  ⟨o.len, o.good, s, fun a z => o.al a (w a z), fun i d h => by
    obtain ⟨nm, v, h1, h2⟩ := o.val i d h
    exact ⟨nm, v, h1, h2.less w nm⟩, fun i ds h => by
    obtain ⟨a, h1, h3, h4⟩ := o.own i ds h
    exact ⟨a, h1, h3.less w, h4⟩, o.sep⟩
mutual
theorem Da.apart {K : PySem.W.Frag} {p : Addr} (n : H p = none) : ∀ {v : V} {d : PyData}, Da K A H v d → Da K (fun a => A a ∨ a = p) H v d
  | _, _, .non => .non
  | _, _, .bl b => .bl b
  | _, _, .int i => .int i
  | _, _, .str x => .str x
  | _, _, .lst m r t => .lst (fun z => Or.elim z m fun q => by subst q; rcases r with r | ⟨_, r⟩ <;> rw [n] at r <;> cases r) r (DaL.apart n t)
  | _, _, .tup m r t => .tup (fun z => Or.elim z m fun q => by subst q; rcases r with r | ⟨_, r⟩ <;> rw [n] at r <;> cases r) r (DaL.apart n t)
  | _, _, .lstK r t => .lstK r (DaL.apart n t)
  | _, _, .tupK r t => .tupK r (DaL.apart n t)
theorem DaL.apart {K : PySem.W.Frag} {p : Addr} (n : H p = none) : ∀ {vs : List V} {ds : List PyData}, DaL K A H vs ds → DaL K (fun a => A a ∨ a = p) H vs ds
  | _, _, .nil => .nil
  | _, _, .cons h t => .cons (Da.apart n h) (DaL.apart n t)
end
theorem FsR.apart {K : PySem.W.Frag} {p : Addr} (n : H p = none) : ∀ {vs : List (Str × V)} {fs : List (Str × PyData)}, FsR K A H vs fs → FsR K (fun a => A a ∨ a = p) H vs fs
  | [], [], _ => True.intro
  | (x, v) :: r, (y, d) :: s, ⟨e, h, t⟩ => ⟨e, h.apart n, FsR.apart n t⟩
  | [], _ :: _, h => h.elim
  | _ :: _, [], h => h.elim
theorem KvR.apart {K : PySem.W.Frag} {p : Addr} (n : H p = none) : ∀ {vs : List (Key × V)} {fs : List (Key × PyData)}, KvR K A H vs fs → KvR K (fun a => A a ∨ a = p) H vs fs
  | [], [], _ => True.intro
  | (x, v) :: r, (y, d) :: s, ⟨e, h, t⟩ => ⟨e, h.apart n, KvR.apart n t⟩
  | [], _ :: _, h => h.elim
  | _ :: _, [], h => h.elim
theorem InsL.apart {K : PySem.W.Frag} {p C : Addr} (n : H p = none) : ∀ {vs : List V} {gs : List (List (Str × PyData))}, InsL K A H C vs gs → InsL K (fun a => A a ∨ a = p) H C vs gs
  | [], [], _ => True.intro
  | v :: r, g :: s, ⟨⟨b, dx, vs, e, m, q, f⟩, t⟩ => ⟨⟨b, dx, vs, e, fun z => z.elim m fun w => (by rw [w, n] at q; cases q), q, f.apart n⟩, InsL.apart n t⟩
  | [], _ :: _, h => h.elim
  | _ :: _, [], h => h.elim
theorem OwAt.apart {K : PySem.W.Frag} {p a : Addr} {w : Ow} (n : H p = none) (h : OwAt K A H a w) : OwAt K (fun a => A a ∨ a = p) H a w := by
  cases w with
  | lst ds => obtain ⟨xs, h1, h2⟩ := h; exact ⟨xs, h1, h2.apart n⟩
  | dct ds => obtain ⟨xs, h1, h2⟩ := h; exact ⟨xs, h1, h2.apart n⟩
  | ins C fs => obtain ⟨dx, vs, h1, h2⟩ := h; exact ⟨dx, vs, h1, h2.apart n⟩
  | lsi C gs => obtain ⟨xs, h1, h2⟩ := h; exact ⟨xs, h1, h2.apart n⟩
theorem DX.apart {v : V} {d : D} {p : Addr} (n : H p = none) (h : DX c A H v d) : DX c (fun a => A a ∨ a = p) H v d := by
  cases d with
  | py q => exact Da.apart n h
  | mine w => obtain ⟨a, q, m, l, t⟩ := h; exact ⟨a, q, m, .inl l, t.apart n⟩
  | dct ds => obtain ⟨a, kvs, q, m, r, t⟩ := h; exact ⟨a, kvs, q, (fun z => Or.elim z m fun w => by rw [w, n] at r; cases r), r, t.apart n⟩
  | dcl ds => obtain ⟨a, kvs, od, q, m, r, t⟩ := h; exact ⟨a, kvs, od, q, (fun z => Or.elim z m fun w => by rw [w, n] at r; cases r), r, t.apart n⟩
  | brw ds => obtain ⟨a, xs, q, m, s, r, t⟩ := h; exact ⟨a, xs, q, m, s, r, t.apart n⟩
  | ins C fs => obtain ⟨a, dx, vs, q, m, r, t⟩ := h; exact ⟨a, dx, vs, q, (fun z => Or.elim z m fun w => by rw [w, n] at r; cases r), r, t.apart n⟩
  | atom w => exact h
  | kln => exact h
  | lsx => obtain ⟨a, xs, q, m, r⟩ := h; exact ⟨a, xs, q, (fun z => Or.elim z m fun w => by rw [w, n] at r; cases r), r⟩
end

/-! ## the judgements -/
structure Wp (c : Cy) (te : TE) (e : En) (Φ : D → Nat → Prop) : Prop where
  run : ∀ (σ : St) (A : Addr → Prop) (H : Hp), Ok c A H σ e → ∀ Q : VK, (∀ v H2 d n, Φ d n → Ek c H H2 → Good c n H2 → DX c A H2 v d → Q v H2) → te σ H Q
structure Wt (c : Cy) (tt : TT) (e : En) (Φ : Bool → Nat → Prop) : Prop where
  run : ∀ (σ : St) (A : Addr → Prop) (H : Hp), Ok c A H σ e → ∀ Q : Bool → Hp → Prop, (∀ b H2 n, Φ b n → Ek c H H2 → Good c n H2 → Q b H2) → tt σ H Q
def DXs (c : Cy) (A : Addr → Prop) (H : Hp) : List V → List D → Prop
  | [], [] => True
  | v :: vs, d :: ds => DX c A H v d ∧ DXs c A H vs ds
  | _, _ => False
structure Wa (c : Cy) (ta : TA) (e : En) (Φ : List D → Nat → Prop) : Prop where
  run : ∀ (σ : St) (A : Addr → Prop) (H : Hp), Ok c A H σ e → ∀ Q : List V → Hp → Prop, (∀ vs H2 ds n, Φ ds n → Ek c H H2 → Good c n H2 → DXs c A H2 vs ds → Q vs H2) → ta σ H Q
/-- what is known where an operation stands -/
structure At (c : Cy) (A : Addr → Prop) (n : Nat) (H : Hp) : Prop where
  good : Good c n H
  al : ∀ a, A a → H a ≠ none
  s : ∀ a, c.S0 a → A a
theorem At.k {c : Cy} {A : Addr → Prop} {n : Nat} {H : Hp} (x : At c A n H) (a : Addr) (h : c.k = some a) : A a := x.s a (c.hk a h)
structure Rw (c : Cy) (r : R2) (d1 d2 : D) (n : Nat) (Φ : D → Nat → Prop) : Prop where
  run : ∀ (A : Addr → Prop) (H : Hp) (v1 v2 : V), At c A n H → DX c A H v1 d1 → DX c A H v2 d2 → ∀ Q : VK, (∀ v H2 d m, Φ d m → Ek c H H2 → Good c m H2 → DX c A H2 v d → Q v H2) → r v1 v2 H Q
structure Uw (c : Cy) (r : V → Hp → VK → Prop) (d1 : D) (n : Nat) (Φ : D → Nat → Prop) : Prop where
  run : ∀ (A : Addr → Prop) (H : Hp) (v1 : V), At c A n H → DX c A H v1 d1 → ∀ Q : VK, (∀ v H2 d m, Φ d m → Ek c H H2 → Good c m H2 → DX c A H2 v d → Q v H2) → r v1 H Q
structure Cw (c : Cy) (r : List V → Hp → VK → Prop) (ds : List D) (n : Nat) (Φ : D → Nat → Prop) : Prop where
  run : ∀ (A : Addr → Prop) (H : Hp) (vs : List V), At c A n H → DXs c A H vs ds → ∀ Q : VK, (∀ v H2 d m, Φ d m → Ek c H H2 → Good c m H2 → DX c A H2 v d → Q v H2) → r vs H Q

section
variable {c : Cy} {e : En} {Φ : D → Nat → Prop} {ta tb te : TE}
theorem Ok.at_ {A : Addr → Prop} {H : Hp} {σ : St} (o : Ok c A H σ e) : At c A e.n H := ⟨o.good, o.al, fun a z => o.sub a (.inl z)⟩
theorem DXs.keep {A : Addr → Prop} {H H' : Hp} (k : Ek c H H') (hA : ∀ a, c.k = some a → A a) : ∀ {vs : List V} {ds : List D}, DXs c A H vs ds → DXs c A H' vs ds
  | [], [], _ => True.intro
  | v :: vs, d :: ds, ⟨h, t⟩ => ⟨h.keep k hA, DXs.keep k hA t⟩
  | [], _ :: _, h => h.elim
  | _ :: _, [], h => h.elim
theorem DXs.len {A : Addr → Prop} {H : Hp} : ∀ {vs : List V} {ds : List D}, DXs c A H vs ds → vs.length = ds.length
  | [], [], _ => rfl
  | v :: vs, d :: ds, ⟨h, t⟩ => by simp only [List.length_cons]; rw [DXs.len t]
  | [], _ :: _, h => h.elim
  | _ :: _, [], h => h.elim

theorem Wp.mono {Ψ : D → Nat → Prop} (h : Wp c te e Φ) (w : ∀ d n, Φ d n → Ψ d n) : Wp c te e Ψ := ⟨fun σ A H o Q q => h.run σ A H o Q fun v H2 d n p => q v H2 d n (w d n p)⟩
/-- a name's value -/
theorem wp_var {sl : List Slo} {nn : Nat} {i : Nat} {d : D} (h : sl[i]? = some (.val d)) (q : Φ d nn) : Wp c (tVar i) ⟨sl, nn⟩ Φ := ⟨fun σ A H o Q k => by
  obtain ⟨_, v, h1, h2⟩ := o.val i d h
  exact ⟨v, h1, k v H d nn q Ek.refl o.good h2⟩⟩
theorem wp_own {sl : List Slo} {nn : Nat} {i : Nat} {w : Ow} (h : sl[i]? = some (.own w)) (q : Φ (.mine w) nn) : Wp c (tVar i) ⟨sl, nn⟩ Φ := ⟨fun σ A H o Q k => by
  obtain ⟨a, h1, h3, h4⟩ := o.own i w h
  exact ⟨.ref a, h1, k _ H (.mine w) nn q Ek.refl o.good ⟨a, rfl, h4, o.sub a (.inr ⟨i, w, h, h1⟩), h3⟩⟩⟩
def pyV : V → PyData
  | .bl b => .bool b
  | .int i => .int i
  | .str x => .str x
  | _ => .none
def isSc : V → Bool
  | .non => true
  | .bl _ => true
  | .int _ => true
  | .str _ => true
  | _ => false
theorem Da.sc {K : PySem.W.Frag} {S : Addr → Prop} {H : Hp} {v : V} (h : isSc v = true) : Da K S H v (pyV v) := by
  cases v with
  | non => exact .non
  | bl b => exact .bl b
  | int i => exact .int i
  | str x => exact .str x
  | _ => cases h
theorem wp_c {sl : List Slo} {nn : Nat} {v : V} (h : isSc v = true) (q : Φ (.py (pyV v)) nn) : Wp c (tC v) ⟨sl, nn⟩ Φ := ⟨fun σ A H o Q k => k v H _ nn q Ek.refl o.good (Da.sc h)⟩
theorem wp_atom {sl : List Slo} {nn : Nat} {v : V} (q : Φ (.atom v) nn) : Wp c (tC v) ⟨sl, nn⟩ Φ := ⟨fun σ A H o Q k => k v H _ nn q Ek.refl o.good rfl⟩
theorem wp_op {sl : List Slo} {nn : Nat} {r : R2} (h : Wp c ta ⟨sl, nn⟩ fun d1 n1 => Wp c tb ⟨sl, n1⟩ fun d2 n2 => Rw c r d1 d2 n2 Φ) : Wp c (tOp r ta tb) ⟨sl, nn⟩ Φ := ⟨fun σ A H o Q k => by
  refine h.run σ A H o _ fun v1 H1 d1 n1 p1 e1 g1 x1 => ?_
  have o1 := o.keep e1 g1
  refine p1.run σ A H1 o1 _ fun v2 H2 d2 n2 p2 e2 g2 x2 => ?_
  have o2 := o1.keep e2 g2
  exact p2.run A H2 v1 v2 o2.at_ (x1.keep e2 o.k) x2 Q fun v H3 d m q e3 g3 x3 => k v H3 d m q ((e1.trans e2).trans e3) g3 x3⟩
theorem wp_un {sl : List Slo} {nn : Nat} {r : V → Hp → VK → Prop} (h : Wp c ta ⟨sl, nn⟩ fun d1 n1 => Uw c r d1 n1 Φ) : Wp c (tUn r ta) ⟨sl, nn⟩ Φ := ⟨fun σ A H o Q k => by
  refine h.run σ A H o _ fun v1 H1 d1 n1 p1 e1 g1 x1 => ?_
  have o1 := o.keep e1 g1
  exact p1.run A H1 v1 o1.at_ x1 Q fun v H3 d m q e3 g3 x3 => k v H3 d m q (e1.trans e3) g3 x3⟩
theorem wa_nil {sl : List Slo} {nn : Nat} {Φ : List D → Nat → Prop} (q : Φ [] nn) : Wa c tNil ⟨sl, nn⟩ Φ := ⟨fun σ A H o Q k => k [] H [] nn q Ek.refl o.good True.intro⟩
theorem wa_cons {sl : List Slo} {nn : Nat} {Φ : List D → Nat → Prop} {t : TA} (h : Wp c ta ⟨sl, nn⟩ fun d n => Wa c t ⟨sl, n⟩ fun ds m => Φ (d :: ds) m) : Wa c (tCons ta t) ⟨sl, nn⟩ Φ := ⟨fun σ A H o Q k => by
  refine h.run σ A H o _ fun v1 H1 d1 n1 p1 e1 g1 x1 => ?_
  have o1 := o.keep e1 g1
  refine p1.run σ A H1 o1 _ fun vs H2 ds m p2 e2 g2 x2 => ?_
  exact k (v1 :: vs) H2 (d1 :: ds) m p2 (e1.trans e2) g2 ⟨x1.keep e2 o.k, x2⟩⟩
theorem wp_cb {sl : List Slo} {nn : Nat} {r : List V → Hp → VK → Prop} {t : TA} (h : Wa c t ⟨sl, nn⟩ fun ds n => Cw c r ds n Φ) : Wp c (tCB r t) ⟨sl, nn⟩ Φ := ⟨fun σ A H o Q k => by
  refine h.run σ A H o _ fun vs H1 ds n1 p1 e1 g1 x1 => ?_
  have o1 := o.keep e1 g1
  exact p1.run A H1 vs o1.at_ x1 Q fun v H3 d m q e3 g3 x3 => k v H3 d m q (e1.trans e3) g3 x3⟩
end
end Wx

/-! ### part Wb -/
set_option Elab.async false
set_option linter.all false
set_option maxRecDepth 100000
set_option maxHeartbeats 1000000
set_option autoImplicit false
/-! list + list, read lists (locked ones and constants too). -/
namespace PySem.AutoSeq1
set_option maxRecDepth 8000 in
theorem add_any_lists (l : Addr) (items : Array Value) (n : Nat) (b : Addr) (items2 : Array Value) (n2 : Nat) (s1 s2 : Array (Option Value)) (hc0 : items.size + items2.size ≤ sizeLine) :
    Meets (Builtin.«list.__add__» ⟨[.ref l, .ref b], []⟩) (fun _ R s => s.heap.get? l = some { cls := .type "list", dict := none, data := .seq items n, slots := s1 } ∧ s.heap.get? b = some { cls := .type "list", dict := none, data := .seq items2 n2, slots := s2 } ∧ R (.ok (.ret (Value.ref s.heap.objs.size))) { s with heap := s.heap.push { cls := Value.type "list", data := Data.seq (items ++ items2) }, toks := s.toks }) :=
  .of_wp fun prog w A R s h => by obtain ⟨hp, g, d, tk, os⟩ := s; obtain ⟨hl, hb, h⟩ := h; have f1 := idx_int; have f2 := sub_tuple_tuple; have f3 := sub_list_list; have f4 := sub_tuple_list; have f5 := sub_list_tuple; wp_walk using wpAny_loadPart' hl, wpAny_loadPart' hb; exact ⟨_, rfl, h⟩
end PySem.AutoSeq1
namespace Wx
open PySem L2 PyProof.Rows
def rCatL (K : PySem.W.Frag) : R2 := fun x y H Q => ∃ l b xs zs, x = .ref l ∧ y = .ref b ∧ SqL K H l xs ∧ SqL K H b zs ∧ xs.length + zs.length ≤ sizeLine ∧ ∀ p, H p = none → Q (.ref p) (upd H p (.lst (xs ++ zs)))
theorem op_catL {X : Cx} : OpR X (binaryOp .Add) (rCatL X.K) := by
  intro pins s σ H x y v u Q I rx ry h
  obtain ⟨l, b, xs, zs, rfl, rfl, hH, hB, hz, q⟩ := h
  cases rx
  cases ry
  obtain ⟨its, r, ⟨⟨oc, od, oda, osl⟩, n, e, o1, o2, o3⟩, _⟩ := I.list hH
  obtain ⟨its2, r2, ⟨⟨oc', od', oda', osl'⟩, n2, e2, o1', o2', o3'⟩, _⟩ := I.list hB
  dsimp only at o1 o2 o3 o1' o2' o3'
  subst o1 o2 o3 o1' o2' o3'
  have hl := r.length
  have hl2 := r2.length
  have ea : its.toArray ++ its2.toArray = (its ++ its2).toArray := by simp
  refine PySem.concat_meets ⟨_, e, rfl⟩ ⟨_, e2, rfl⟩ PySem.noFill_list_add PySem.seq_list_add PySem.F.slot_list_add PySem.F.entry_list_add (PySem.F.args_list_add_2 _ _) (PySem.AutoSeq1.add_any_lists l its.toArray n b its2.toArray n2 osl osl' (by rw [List.size_toArray, List.size_toArray]; omega)) ⟨e, e2, ?_⟩
  rw [ea]
  exact ⟨.ref _, _, I.lnew (t' := s.toks) (r.append r2) (by rw [List.length_append]; omega), rfl, q _ I.fresh⟩
end Wx

/-! ### part Wy -/
set_option Elab.async false
set_option linter.all false
set_option maxRecDepth 100000
set_option maxHeartbeats 1000000
set_option autoImplicit false
/-! The rules of the calculus: tests, operators, sequences. -/
namespace Wx
open PySem L2

/-! ## operators, any of several kinds -/
def rInTD (K : PySem.W.Frag) : R2 := fun x y H Q => ∃ d ds, Dp K H x d ∧ Dp K H y (.tuple ds) ∧ SeqAt.shaped d = true ∧ SeqAt.shaped (.tuple ds) = true ∧ Q (.bl (ds.any fun z => PyData.eqv z d)) H
def rNiTD (K : PySem.W.Frag) : R2 := fun x y H Q => ∃ d ds, Dp K H x d ∧ Dp K H y (.tuple ds) ∧ SeqAt.shaped d = true ∧ SeqAt.shaped (.tuple ds) = true ∧ Q (.bl (!ds.any fun z => PyData.eqv z d)) H
section
variable {X : Cx}
theorem roomTD {A : Around} {d : PyData} {n : Nat} (h : SeqAt.shaped d = true) (hu : A.units + 65 < cLine) : A.units + 1 + min n d.depth < cLine := by
  have h1 := SeqAt.depth_of_shaped h
  have h2 : min n d.depth ≤ d.depth := Nat.min_le_right _ _
  omega
theorem op_inTD (hu : X.A.units + 65 < cLine) : OpR X (compareOp .In) (rInTD X.K) := by
  intro pins s σ H x y v u Q I rx ry ⟨d, ds, hd, he, sd, se, q⟩
  obtain ⟨as, r1⟩ := Dp.reads I d x v hd rx
  obtain ⟨bs, r2⟩ := Dp.reads I (.tuple ds) y u he ry
  exact SeqAt.in_tuple_reads r2 r1 (SeqAt.canLay_of_shaped se) (SeqAt.canLay_of_shaped sd) (roomTD sd hu) ⟨.bl _, H, I, rfl, q⟩
theorem op_niTD (hu : X.A.units + 65 < cLine) : OpR X (compareOp .NotIn) (rNiTD X.K) := by
  intro pins s σ H x y v u Q I rx ry ⟨d, ds, hd, he, sd, se, q⟩
  obtain ⟨as, r1⟩ := Dp.reads I d x v hd rx
  obtain ⟨bs, r2⟩ := Dp.reads I (.tuple ds) y u he ry
  exact SeqAt.notIn_tuple_reads r2 r1 (SeqAt.canLay_of_shaped se) (SeqAt.canLay_of_shaped sd) (roomTD sd hu) ⟨.bl _, H, I, rfl, q⟩
end
def rIN (K : PySem.W.Frag) : R2 := fun x y H Q => rInD K x y H Q ∨ rInTD K x y H Q
def rNI (K : PySem.W.Frag) : R2 := fun x y H Q => rNotInD K x y H Q ∨ rNiTD K x y H Q
def rAddS : R2 := fun x y H Q => ∃ i j, x = .str i ∧ y = .str j ∧ i.length + j.length ≤ sizeLine ∧ Q (.str (i ++ j)) H
def rADD (K : PySem.W.Frag) : R2 := fun x y H Q => rI0 (fun i j => .int (i + j)) x y H Q ∨ rCatA K x y H Q ∨ rCat x y H Q ∨ rAddS x y H Q ∨ rCatL K x y H Q
def rMUL : R2 := fun x y H Q => rI CMulW (fun i j => .int (i * j)) x y H Q ∨ rRep x y H Q
def rSL (K : PySem.W.Frag) : V → Option Int → Option Int → Hp → VK → Prop := fun x lo hi H Q => rSlA K x lo hi H Q ∨ rSlL K x lo hi H Q ∨ rSlS x lo hi H Q
section
variable {X : Cx}
theorem opIN (hu : X.A.units + 65 < cLine) : OpR X (compareOp .In) (rIN X.K) := (op_inD hu).or (op_inTD hu)
theorem opNI (hu : X.A.units + 65 < cLine) : OpR X (compareOp .NotIn) (rNI X.K) := (op_notInD hu).or (op_niTD hu)
theorem opADD : OpR X (binaryOp .Add) (rADD X.K) := op_add.or (op_catA.or (op_cat.or (op_add_str.or op_catL)))
theorem opMUL : OpR X (binaryOp .Mult) rMUL := op_mulW.or op_rep
theorem slSL : SlR X (rSL X.K) := sl_tupA.or (sl_list.or sl_str)
end

section
variable {c : Cy} {e : En} {Φ : D → Nat → Prop} {ta tb te tc : TE} {t u : TT} {n : Nat} {d1 d2 : D}
/-! ## tests -/
def Bd (d : D) (k : Bool → Prop) : Prop := match d with
  | .py (.bool b) => k b
  | _ => False
/-- truth of data -/
def Td (d : D) (k : Bool → Prop) : Prop := match d with
  | .py .none => k false
  | .py (.bool b) => k b
  | .py (.int i) => k (i != 0)
  | .py (.str x) => x.length ≤ sizeLine ∧ k ((x.length : Int) != 0)
  | .py (.list ds) => k (!ds.isEmpty)
  | .py (.tuple ds) => k (!ds.isEmpty)
  | .mine (.lst ds) => k (!ds.isEmpty)
  | .brw ds => k (!ds.isEmpty)
  | _ => False
theorem wt_test {sl : List Slo} {nn : Nat} {Ψ : Bool → Nat → Prop} (h : Wp c te ⟨sl, nn⟩ fun d n => Bd d fun b => Ψ b n) : Wt c (tTest te) ⟨sl, nn⟩ Ψ := ⟨fun σ A H o Q k => by
  refine h.run σ A H o _ fun v H1 d n p e1 g1 x => ?_
  match d, p, x with
  | .py (.bool b), p, x => exact ⟨b, Da.bl_eq x, k b H1 n p e1 g1⟩⟩
theorem wt_b {sl : List Slo} {nn : Nat} {Ψ : Bool → Nat → Prop} (h : Wp c te ⟨sl, nn⟩ fun d n => Bd d fun b => Ψ b n) : Wt c (tB te) ⟨sl, nn⟩ Ψ := ⟨(wt_test h).run⟩
theorem empty_of {K : PySem.W.Frag} {S : Addr → Prop} {H : Hp} {xs : List V} {ds : List PyData} (h : DaL K S H xs ds) : xs.isEmpty = ds.isEmpty := by cases h <;> rfl
theorem tru_of {A : Addr → Prop} {H : Hp} {v : V} {d : D} {k : Bool → Prop} (x : DX c A H v d) (p : Td d k) : ∃ b, TruV c.K v H b ∧ k b := by
  match d, p, x with
  | .py .none, p, x => cases Da.non_eq x; exact ⟨false, rfl, p⟩
  | .py (.bool b), p, x => cases Da.bl_eq x; exact ⟨b, rfl, p⟩
  | .py (.int i), p, x => cases Da.int_eq x; exact ⟨_, rfl, p⟩
  | .py (.str z), p, x => cases Da.str_eq x; exact ⟨_, ⟨p.1, rfl⟩, p.2⟩
  | .py (.list ds), p, x =>
    obtain ⟨a, xs, rfl, h, t⟩ := Da.list_at x
    exact ⟨_, .inl ⟨xs, h, rfl⟩, by rw [empty_of t]; exact p⟩
  | .py (.tuple ds), p, x =>
    obtain ⟨a, xs, rfl, h, t⟩ := Da.tuple_at x
    exact ⟨_, .inr (.inl ⟨xs, h, rfl⟩), by rw [empty_of t]; exact p⟩
  | .mine (.lst ds), p, x =>
    obtain ⟨a, rfl, _, _, xs, h, t⟩ := x
    exact ⟨_, .inl ⟨xs, SqL.of h, rfl⟩, by rw [empty_of t]; exact p⟩
  | .brw ds, p, x =>
    obtain ⟨a, xs, rfl, _, _, h, t⟩ := x
    exact ⟨_, .inl ⟨xs, SqL.of h, rfl⟩, by rw [empty_of t]; exact p⟩
theorem wt_tru {sl : List Slo} {nn : Nat} {Ψ : Bool → Nat → Prop} {K : PySem.W.Frag} (hK : K = c.K) (h : Wp c te ⟨sl, nn⟩ fun d n => Td d fun b => Ψ b n) : Wt c (fun σ H Q => te σ H fun x H' => ∃ k, TruV K x H' k ∧ Q k H') ⟨sl, nn⟩ Ψ := ⟨fun σ A H o Q k => by
  subst hK
  refine h.run σ A H o _ fun v H1 d n p e1 g1 x => ?_
  obtain ⟨b, h1, h2⟩ := tru_of x p
  exact ⟨b, h1, k b H1 n h2 e1 g1⟩⟩
theorem wt_not {sl : List Slo} {nn : Nat} {Ψ : Bool → Nat → Prop} (h : Wt c t ⟨sl, nn⟩ fun b n => Ψ (!b) n) : Wt c (tNot t) ⟨sl, nn⟩ Ψ := ⟨fun σ A H o Q k => h.run σ A H o _ fun b H1 n p e1 g1 => k (!b) H1 n p e1 g1⟩
theorem wt_and {sl : List Slo} {nn : Nat} {Ψ : Bool → Nat → Prop} (h : Wt c t ⟨sl, nn⟩ fun b n => (b = true → Wt c u ⟨sl, n⟩ Ψ) ∧ (b = false → Ψ false n)) : Wt c (tAnd t u) ⟨sl, nn⟩ Ψ := ⟨fun σ A H o Q k => by
  refine h.run σ A H o _ fun b H1 n p e1 g1 => ?_
  cases b with
  | true => exact iteT ((p.1 rfl).run σ A H1 (o.keep e1 g1) Q fun b2 H2 m q e2 g2 => k b2 H2 m q (e1.trans e2) g2)
  | false => exact iteF (k false H1 n (p.2 rfl) e1 g1)⟩
theorem wt_or {sl : List Slo} {nn : Nat} {Ψ : Bool → Nat → Prop} (h : Wt c t ⟨sl, nn⟩ fun b n => (b = false → Wt c u ⟨sl, n⟩ Ψ) ∧ (b = true → Ψ true n)) : Wt c (tOr t u) ⟨sl, nn⟩ Ψ := ⟨fun σ A H o Q k => by
  refine h.run σ A H o _ fun b H1 n p e1 g1 => ?_
  cases b with
  | false => exact iteF ((p.1 rfl).run σ A H1 (o.keep e1 g1) Q fun b2 H2 m q e2 g2 => k b2 H2 m q (e1.trans e2) g2)
  | true => exact iteT (k true H1 n (p.2 rfl) e1 g1)⟩
theorem wp_if {sl : List Slo} {nn : Nat} (h : Wt c t ⟨sl, nn⟩ fun b n => (b = true → Wp c ta ⟨sl, n⟩ Φ) ∧ (b = false → Wp c tb ⟨sl, n⟩ Φ)) : Wp c (tIf t ta tb) ⟨sl, nn⟩ Φ := ⟨fun σ A H o Q k => by
  refine h.run σ A H o _ fun b H1 n p e1 g1 => ?_
  cases b with
  | true => exact iteT ((p.1 rfl).run σ A H1 (o.keep e1 g1) Q fun v H2 d m q e2 g2 => k v H2 d m q (e1.trans e2) g2)
  | false => exact iteF ((p.2 rfl).run σ A H1 (o.keep e1 g1) Q fun v H2 d m q e2 g2 => k v H2 d m q (e1.trans e2) g2)⟩
theorem wp_notV {sl : List Slo} {nn : Nat} (h : Wp c ta ⟨sl, nn⟩ fun d n => Bd d fun b => Φ (.py (.bool (!b))) n) : Wp c (tNotV ta) ⟨sl, nn⟩ Φ := ⟨fun σ A H o Q k => by
  refine h.run σ A H o _ fun v H1 d n p e1 g1 x => ?_
  match d, p, x with
  | .py (.bool b), p, x => exact ⟨b, Da.bl_eq x, k _ H1 _ n p e1 g1 (.bl (!b))⟩⟩
theorem wp_andV {sl : List Slo} {nn : Nat} (h : Wp c ta ⟨sl, nn⟩ fun d n => Bd d fun b => (b = true → Wp c tb ⟨sl, n⟩ Φ) ∧ (b = false → Φ (.py (.bool false)) n)) : Wp c (tAndV ta tb) ⟨sl, nn⟩ Φ := ⟨fun σ A H o Q k => by
  refine h.run σ A H o _ fun v H1 d n p e1 g1 x => ?_
  match d, p, x with
  | .py (.bool true), p, x => exact ⟨true, Da.bl_eq x, iteT ((p.1 rfl).run σ A H1 (o.keep e1 g1) Q fun v H2 d m q e2 g2 => k v H2 d m q (e1.trans e2) g2)⟩
  | .py (.bool false), p, x => exact ⟨false, Da.bl_eq x, iteF (k _ H1 _ n (p.2 rfl) e1 g1 (.bl false))⟩⟩
theorem wp_orV {sl : List Slo} {nn : Nat} (h : Wp c ta ⟨sl, nn⟩ fun d n => Bd d fun b => (b = false → Wp c tb ⟨sl, n⟩ Φ) ∧ (b = true → Φ (.py (.bool true)) n)) : Wp c (tOrV ta tb) ⟨sl, nn⟩ Φ := ⟨fun σ A H o Q k => by
  refine h.run σ A H o _ fun v H1 d n p e1 g1 x => ?_
  match d, p, x with
  | .py (.bool false), p, x => exact ⟨false, Da.bl_eq x, iteF ((p.1 rfl).run σ A H1 (o.keep e1 g1) Q fun v H2 d m q e2 g2 => k v H2 d m q (e1.trans e2) g2)⟩
  | .py (.bool true), p, x => exact ⟨true, Da.bl_eq x, iteT (k _ H1 _ n (p.2 rfl) e1 g1 (.bl true))⟩⟩
theorem wp_chain {sl : List Slo} {nn : Nat} {r r' : R2} (h : Wp c ta ⟨sl, nn⟩ fun d1 n1 => Wp c tb ⟨sl, n1⟩ fun d2 n2 => Rw c r d1 d2 n2 fun d n => Bd d fun b => (b = true → Wp c tc ⟨sl, n⟩ fun d3 n3 => Rw c r' d2 d3 n3 Φ) ∧ (b = false → Φ (.py (.bool false)) n)) : Wp c (tChain r r' ta tb tc) ⟨sl, nn⟩ Φ := ⟨fun σ A H o Q k => by
  refine h.run σ A H o _ fun v1 H1 d1 n1 p1 e1 g1 x1 => ?_
  have o1 := o.keep e1 g1
  refine p1.run σ A H1 o1 _ fun v2 H2 d2 n2 p2 e2 g2 x2 => ?_
  have o2 := o1.keep e2 g2
  refine p2.run A H2 v1 v2 o2.at_ (x1.keep e2 o.k) x2 _ fun v H3 d m p3 e3 g3 x3 => ?_
  have o3 := o2.keep e3 g3
  match d, p3, x3 with
  | .py (.bool true), p3, x3 =>
    refine ⟨true, Da.bl_eq x3, iteT ((p3.1 rfl).run σ A H3 o3 _ fun v3 H4 d3 n3 p4 e4 g4 x4 => ?_)⟩
    have o4 := o3.keep e4 g4
    exact p4.run A H4 v2 v3 o4.at_ ((x2.keep e3 o.k).keep e4 o.k) x4 Q fun v H5 d m q e5 g5 x5 => k v H5 d m q ((((e1.trans e2).trans e3).trans e4).trans e5) g5 x5
  | .py (.bool false), p3, x3 => exact ⟨false, Da.bl_eq x3, iteF (k _ H3 _ m (p3.2 rfl) ((e1.trans e2).trans e3) g3 (.bl false))⟩⟩

/-! ## operations on whole numbers -/
def Id2 (d1 d2 : D) (k : Int → Int → Prop) : Prop := match d1, d2 with
  | .py (.int i), .py (.int j) => k i j
  | _, _ => False
def Id1 (d1 : D) (k : Int → Prop) : Prop := match d1 with
  | .py (.int i) => k i
  | _ => False
theorem id2 {A : Addr → Prop} {H : Hp} {v1 v2 : V} {k : Int → Int → Prop} (p : Id2 d1 d2 k) (x1 : DX c A H v1 d1) (x2 : DX c A H v2 d2) : ∃ i j, v1 = .int i ∧ v2 = .int j ∧ k i j := by
  match d1, d2, p, x1, x2 with
  | .py (.int i), .py (.int j), p, x1, x2 => exact ⟨i, j, Da.int_eq x1, Da.int_eq x2, p⟩
theorem id1 {A : Addr → Prop} {H : Hp} {v1 : V} {k : Int → Prop} (p : Id1 d1 k) (x1 : DX c A H v1 d1) : ∃ i, v1 = .int i ∧ k i := by
  match d1, p, x1 with
  | .py (.int i), p, x1 => exact ⟨i, Da.int_eq x1, p⟩
theorem rw_i0 {g : Int → Int → V} (hg : ∀ i j, isSc (g i j) = true := by intro _ _; rfl) (h : Id2 d1 d2 fun i j => Φ (.py (pyV (g i j))) n) : Rw c (rI0 g) d1 d2 n Φ := ⟨fun A H v1 v2 a x1 x2 Q k => by
  obtain ⟨i, j, rfl, rfl, q⟩ := id2 h x1 x2
  exact ⟨i, j, rfl, rfl, k _ H _ n q Ek.refl a.good (Da.sc (hg i j))⟩⟩
theorem rw_i {C : Int → Int → Prop} {g : Int → Int → V} (hg : ∀ i j, isSc (g i j) = true := by intro _ _; rfl) (h : Id2 d1 d2 fun i j => C i j ∧ Φ (.py (pyV (g i j))) n) : Rw c (rI C g) d1 d2 n Φ := ⟨fun A H v1 v2 a x1 x2 Q k => by
  obtain ⟨i, j, rfl, rfl, hc, q⟩ := id2 h x1 x2
  exact ⟨i, j, rfl, rfl, hc, k _ H _ n q Ek.refl a.good (Da.sc (hg i j))⟩⟩
theorem uw_u {g : Int → V} (hg : ∀ i, isSc (g i) = true := by intro _; rfl) (h : Id1 d1 fun i => Φ (.py (pyV (g i))) n) : Uw c (rU g) d1 n Φ := ⟨fun A H v1 a x1 Q k => by
  obtain ⟨i, rfl, q⟩ := id1 h x1
  exact ⟨i, rfl, k _ H _ n q Ek.refl a.good (Da.sc (hg i))⟩⟩
theorem rw_addI {K : PySem.W.Frag} (h : Id2 d1 d2 fun i j => Φ (.py (.int (i + j))) n) : Rw c (rADD K) d1 d2 n Φ := ⟨fun A H v1 v2 a x1 x2 Q k => .inl ((rw_i0 (c := c) (g := fun i j => V.int (i + j)) (n := n) (Φ := Φ) (h := h)).run A H v1 v2 a x1 x2 Q k)⟩
theorem rw_mulI (h : Id2 d1 d2 fun i j => CMulW i j ∧ Φ (.py (.int (i * j))) n) : Rw c rMUL d1 d2 n Φ := ⟨fun A H v1 v2 a x1 x2 Q k => .inl ((rw_i (c := c) (C := CMulW) (g := fun i j => V.int (i * j)) (n := n) (Φ := Φ) (h := h)).run A H v1 v2 a x1 x2 Q k)⟩

/-! ## sequences -/
/-- a tuple's data -/
def Tp (d : D) (k : List PyData → Prop) : Prop := match d with
  | .py (.tuple ds) => k ds
  | _ => False
/-- a list's data -/
def Ls (d : D) (k : List PyData → Prop) : Prop := match d with
  | .py (.list ds) => k ds
  | .mine (.lst ds) => k ds
  | .brw ds => k ds
  | _ => False
/-- either's -/
def Sq (d : D) (k : List PyData → Prop) : Prop := match d with
  | .py (.tuple ds) => k ds
  | .py (.list ds) => k ds
  | .mine (.lst ds) => k ds
  | .brw ds => k ds
  | _ => False
theorem ls_of {A : Addr → Prop} {H : Hp} {v : V} {d : D} {k : List PyData → Prop} (p : Ls d k) (x : DX c A H v d) : ∃ a xs ds, v = .ref a ∧ SqL c.K H a xs ∧ DaL c.K A H xs ds ∧ k ds := by
  match d, p, x with
  | .py (.list ds), p, x =>
    obtain ⟨a, xs, rfl, h, t⟩ := Da.list_at x
    exact ⟨a, xs, ds, rfl, h, t, p⟩
  | .mine (.lst ds), p, x =>
    obtain ⟨a, rfl, _, _, xs, h, t⟩ := x
    exact ⟨a, xs, ds, rfl, SqL.of h, t, p⟩
  | .brw ds, p, x =>
    obtain ⟨a, xs, rfl, _, _, h, t⟩ := x
    exact ⟨a, xs, ds, rfl, SqL.of h, t, p⟩
theorem sq_of {A : Addr → Prop} {H : Hp} {v : V} {d : D} {k : List PyData → Prop} (p : Sq d k) (x : DX c A H v d) : ∃ a xs ds, v = .ref a ∧ (SqL c.K H a xs ∨ SqT c.K H a xs) ∧ DaL c.K A H xs ds ∧ k ds := by
  match d, p, x with
  | .py (.tuple ds), p, x =>
    obtain ⟨a, xs, rfl, h, t⟩ := Da.tuple_at x
    exact ⟨a, xs, ds, rfl, .inr h, t, p⟩
  | .py (.list ds), p, x =>
    obtain ⟨a, xs, rfl, h, t⟩ := Da.list_at x
    exact ⟨a, xs, ds, rfl, .inl h, t, p⟩
  | .mine (.lst ds), p, x =>
    obtain ⟨a, rfl, _, _, xs, h, t⟩ := x
    exact ⟨a, xs, ds, rfl, .inl (SqL.of h), t, p⟩
  | .brw ds, p, x =>
    obtain ⟨a, xs, rfl, _, _, h, t⟩ := x
    exact ⟨a, xs, ds, rfl, .inl (SqL.of h), t, p⟩
/-- all of them data -/
def Pys : List D → (List PyData → Prop) → Prop
  | [], k => k []
  | .py p :: r, k => Pys r fun ps => k (p :: ps)
  | _ :: _, _ => False
theorem pys_of {A : Addr → Prop} {H : Hp} : ∀ {vs : List V} {ds : List D} {k : List PyData → Prop}, Pys ds k → DXs c A H vs ds → ∃ ps, DaL c.K A H vs ps ∧ k ps
  | [], [], k, p, _ => ⟨[], .nil, p⟩
  | v :: vs, .py q :: ds, k, p, ⟨h, t⟩ => by
    obtain ⟨ps, h1, h2⟩ := pys_of (k := fun ps => k (q :: ps)) p t
    exact ⟨q :: ps, .cons h h1, h2⟩
  | v :: vs, .mine _ :: _, k, p, _ => p.elim
  | v :: vs, .dct _ :: _, k, p, _ => p.elim
  | v :: vs, .dcl _ :: _, k, p, _ => p.elim
  | v :: vs, .brw _ :: _, k, p, _ => p.elim
  | v :: vs, .ins _ _ :: _, k, p, _ => p.elim
  | v :: vs, .atom _ :: _, k, p, _ => p.elim
  | v :: vs, .kln :: _, k, p, _ => p.elim
  | v :: vs, .lsx :: _, k, p, _ => p.elim
  | [], _ :: _, k, _, h => h.elim
  | _ :: _, [], k, _, h => h.elim
/-- a new object p: data that is laid there -/
theorem At.fresh {A : Addr → Prop} {H : Hp} {p : Addr} (a : At c A n H) (h : H p = none) : ¬ A p := fun z => a.al p z h
theorem DaL.new {K : PySem.W.Frag} {A : Addr → Prop} {H : Hp} {p : Addr} {o : HO} {xs : List V} {ds : List PyData} (h : DaL K A H xs ds) (n : H p = none) : DaL K A (upd H p o) xs ds := h.keep fun a u _ e => by rw [upd_ne (ne_of_none e n)]; exact e
theorem Ok.fresh {A : Addr → Prop} {H : Hp} {σ : St} {p : Addr} (o : Ok c A H σ e) (h : H p = none) : ¬ A p := fun z => o.al p z h
theorem wp_tup {sl : List Slo} {nn : Nat} {ta : TA} (h : Wa c ta ⟨sl, nn⟩ fun ds n => Pys ds fun ps => ps.length ≤ sizeLine ∧ Φ (.py (.tuple ps)) n) : Wp c (tTup ta) ⟨sl, nn⟩ Φ := ⟨fun σ A H o Q k => by
  refine h.run σ A H o _ fun vs H1 ds n p e1 g1 x => ?_
  obtain ⟨ps, h1, hz, q⟩ := pys_of p x
  have o1 := o.keep e1 g1
  exact ⟨by rw [h1.len]; exact hz, fun r hr => k _ _ _ n q (e1.trans (Ek.new hr)) (g1.new hr) (.tup (o1.fresh hr) (.inl upd_same) (h1.new hr))⟩⟩
theorem fresh_of {H H1 : Hp} {p : Addr} (k : Ek c H H1) (g : Good c n H1) (h : H1 p = none) : H p = none := by
  cases q : H p with
  | none => rfl
  | some u =>
    by_cases z : c.k = some p
    · obtain ⟨_, _, _, q2, _⟩ := g.kl p z
      rw [h] at q2; cases q2
    · rw [k p u z q] at h; cases h
/-- a new list, of one's own -/
structure Wn (c : Cy) (te : TE) (e : En) (Φ : Ow → Nat → Prop) : Prop where
  run : ∀ (σ : St) (A : Addr → Prop) (H : Hp), Ok c A H σ e → ∀ Q : VK, (∀ p H2 w n, Φ w n → Ek c H H2 → Good c n H2 → H p = none → OwAt c.K (fun a => A a ∨ a = p) H2 p w → Q (.ref p) H2) → te σ H Q
def outO : Ow → D
  | .lst ds => .py (.list ds)
  | .dct ds => .dct ds
  | .ins C fs => .ins C fs
  | .lsi _ _ => .lsx
theorem dx_ow {A : Addr → Prop} {H : Hp} {p : Addr} {w : Ow} (n : ¬ A p) (t : OwAt c.K (fun a => A a ∨ a = p) H p w) : DX c A H (.ref p) (outO w) := by
  cases w with
  | lst ds => obtain ⟨xs, h, t⟩ := t; exact .lst n (.inl h) (t.less fun a z => .inl z)
  | dct ds => obtain ⟨xs, h, t⟩ := t; exact ⟨p, xs, rfl, n, h, t.less fun a z => .inl z⟩
  | ins C fs => obtain ⟨dx, vs, h, t⟩ := t; exact ⟨p, dx, vs, rfl, n, h, t.less fun a z => .inl z⟩
  | lsi C gs => obtain ⟨xs, h, t⟩ := t; exact ⟨p, xs, rfl, n, h⟩
theorem wp_new {sl : List Slo} {nn : Nat} (h : Wn c te ⟨sl, nn⟩ fun w n => Φ (outO w) n) : Wp c te ⟨sl, nn⟩ Φ := ⟨fun σ A H o Q k => h.run σ A H o Q fun p H2 w n q e2 g2 hp t => k (.ref p) H2 _ n q e2 g2 (dx_ow (o.fresh hp) t)⟩
/-- by its operation: a new object -/
structure Rn (c : Cy) (r : R2) (d1 d2 : D) (n : Nat) (Φ : Ow → Nat → Prop) : Prop where
  run : ∀ (A : Addr → Prop) (H : Hp) (v1 v2 : V), At c A n H → DX c A H v1 d1 → DX c A H v2 d2 → ∀ Q : VK, (∀ p H2 w m, Φ w m → Ek c H H2 → Good c m H2 → H p = none → OwAt c.K (fun a => A a ∨ a = p) H2 p w → Q (.ref p) H2) → r v1 v2 H Q
structure Cn (c : Cy) (r : List V → Hp → VK → Prop) (ds : List D) (n : Nat) (Φ : Ow → Nat → Prop) : Prop where
  run : ∀ (A : Addr → Prop) (H : Hp) (vs : List V), At c A n H → DXs c A H vs ds → ∀ Q : VK, (∀ p H2 w m, Φ w m → Ek c H H2 → Good c m H2 → H p = none → OwAt c.K (fun a => A a ∨ a = p) H2 p w → Q (.ref p) H2) → r vs H Q
theorem wn_op {sl : List Slo} {nn : Nat} {Ψ : Ow → Nat → Prop} {r : R2} (h : Wp c ta ⟨sl, nn⟩ fun d1 n1 => Wp c tb ⟨sl, n1⟩ fun d2 n2 => Rn c r d1 d2 n2 Ψ) : Wn c (tOp r ta tb) ⟨sl, nn⟩ Ψ := ⟨fun σ A H o Q k => by
  refine h.run σ A H o _ fun v1 H1 d1 n1 p1 e1 g1 x1 => ?_
  have o1 := o.keep e1 g1
  refine p1.run σ A H1 o1 _ fun v2 H2 d2 n2 p2 e2 g2 x2 => ?_
  have o2 := o1.keep e2 g2
  exact p2.run A H2 v1 v2 o2.at_ (x1.keep e2 o.k) x2 Q fun p H3 w m q e3 g3 hp t => k p H3 w m q ((e1.trans e2).trans e3) g3 (fresh_of (e1.trans e2) g2 hp) t⟩
/-- what is laid at p -/
theorem lay {K : PySem.W.Frag} {A : Addr → Prop} {H : Hp} {p : Addr} {o : HO} {xs : List V} {ds : List PyData} (h : DaL K A H xs ds) (n : H p = none) : DaL K (fun a => A a ∨ a = p) (upd H p o) xs ds := (h.apart n).keep fun a u _ e => by rw [upd_ne (ne_of_none e n)]; exact e
theorem wn_lst {sl : List Slo} {nn : Nat} {Ψ : Ow → Nat → Prop} {ta : TA} (h : Wa c ta ⟨sl, nn⟩ fun ds n => Pys ds fun ps => ps.length ≤ sizeLine ∧ Ψ (.lst ps) n) : Wn c (tLst ta) ⟨sl, nn⟩ Ψ := ⟨fun σ A H o Q k => by
  refine h.run σ A H o _ fun vs H1 ds n p e1 g1 x => ?_
  obtain ⟨ps, h1, hz, q⟩ := pys_of p x
  exact ⟨by rw [h1.len]; exact hz, fun r hr => k r _ _ n q (e1.trans (Ek.new hr)) (g1.new hr) (fresh_of e1 g1 hr) ⟨vs, upd_same, lay h1 hr⟩⟩⟩
end
end Wx

/-! ### part Wz -/
set_option Elab.async false
set_option linter.all false
set_option maxRecDepth 100000
set_option maxHeartbeats 1000000
set_option autoImplicit false
/-! The rules of the calculus: items, parts, comparisons, sums of sequences, built-in functions. -/
namespace Wx
open PySem L2
section
variable {c : Cy} {e : En} {Φ : D → Nat → Prop} {Ψ : Ow → Nat → Prop} {ta tb te tc : TE} {n : Nat} {d1 d2 : D} {K : PySem.W.Frag}
/-! ## an item -/
theorem DaL.at_ {S : Addr → Prop} {H : Hp} {xs : List V} {ds : List PyData} {i : Int} {d : PyData} (h : DaL K S H xs ds) (q : atI ds i = some d) : ∃ v, atI xs i = some v ∧ Da K S H v d := by
  unfold atI at q ⊢
  rw [h.len]
  cases z : ixN ds.length i with
  | none => rw [z] at q; cases q
  | some j =>
    rw [z] at q
    exact DaL.get h q
def Ixd : D → D → (PyData → Prop) → Prop
  | .py (.tuple ds), .py (.int i), k => ∃ d, atI ds i = some d ∧ k d
  | .py (.list ds), .py (.int i), k => ∃ d, atI ds i = some d ∧ k d
  | .mine (.lst ds), .py (.int i), k => ∃ d, atI ds i = some d ∧ k d
  | .brw ds, .py (.int i), k => ∃ d, atI ds i = some d ∧ k d
  | .py (.str z), .py (.int i), k => z.length ≤ sizeLine ∧ ∃ ch, atI z.cps.toList i = some ch ∧ k (.str ⟨#[ch]⟩)
  | _, _, _ => False
theorem rw_ix (hK : K = c.K) (h : Ixd d1 d2 fun d => Φ (.py d) n) : Rw c (rIx K) d1 d2 n Φ := ⟨fun A H v1 v2 a x1 x2 Q k => by
  subst hK
  match d1, d2, h, x1, x2 with
  | .py (.tuple ds), .py (.int i), ⟨d, h1, q⟩, x1, x2 =>
    cases Da.int_eq x2
    obtain ⟨b, xs, rfl, hs, t⟩ := Da.tuple_at x1
    obtain ⟨v, h2, y⟩ := t.at_ h1
    exact .inr (.inl ⟨b, xs, i, v, rfl, rfl, hs, h2, k v H _ n q Ek.refl a.good y⟩)
  | .py (.list ds), .py (.int i), ⟨d, h1, q⟩, x1, x2 =>
    cases Da.int_eq x2
    obtain ⟨b, xs, rfl, hs, t⟩ := Da.list_at x1
    obtain ⟨v, h2, y⟩ := t.at_ h1
    exact .inl ⟨b, xs, i, v, rfl, rfl, hs, h2, k v H _ n q Ek.refl a.good y⟩
  | .mine (.lst ds), .py (.int i), ⟨d, h1, q⟩, x1, x2 =>
    cases Da.int_eq x2
    obtain ⟨b, rfl, _, _, xs, hs, t⟩ := x1
    obtain ⟨v, h2, y⟩ := t.at_ h1
    exact .inl ⟨b, xs, i, v, rfl, rfl, SqL.of hs, h2, k v H _ n q Ek.refl a.good y⟩
  | .brw ds, .py (.int i), ⟨d, h1, q⟩, x1, x2 =>
    cases Da.int_eq x2
    obtain ⟨b, xs, rfl, _, _, hs, t⟩ := x1
    obtain ⟨v, h2, y⟩ := t.at_ h1
    exact .inl ⟨b, xs, i, v, rfl, rfl, SqL.of hs, h2, k v H _ n q Ek.refl a.good y⟩
  | .py (.str z), .py (.int i), ⟨hz, ch, h1, q⟩, x1, x2 =>
    cases Da.int_eq x2
    cases Da.str_eq x1
    exact .inr (.inr ⟨z, i, ch, rfl, rfl, hz, h1, k _ H _ n q Ek.refl a.good (.str _)⟩)⟩
/-! ## a part -/
structure Wo (c : Cy) (to : TO) (e : En) (Φ : Option Int → Nat → Prop) : Prop where
  run : ∀ (σ : St) (A : Addr → Prop) (H : Hp), Ok c A H σ e → ∀ Q : Option Int → Hp → Prop, (∀ o H2 n, Φ o n → Ek c H H2 → Good c n H2 → Q o H2) → to σ H Q
theorem wo_no {sl : List Slo} {nn : Nat} {Θ : Option Int → Nat → Prop} (q : Θ none nn) : Wo c tNoPart ⟨sl, nn⟩ Θ := ⟨fun σ A H o Q k => k none H nn q Ek.refl o.good⟩
theorem wo_some {sl : List Slo} {nn : Nat} {Θ : Option Int → Nat → Prop} (h : Wp c te ⟨sl, nn⟩ fun d n => Id1 d fun i => Θ (some i) n) : Wo c (tPart te) ⟨sl, nn⟩ Θ := ⟨fun σ A H o Q k => by
  refine h.run σ A H o _ fun v H1 d n p e1 g1 x => ?_
  obtain ⟨i, rfl, q⟩ := id1 p x
  exact ⟨i, rfl, k (some i) H1 n q e1 g1⟩⟩
def cutD {α : Type} (xs : List α) (lo hi : Option Int) : List α := (xs.drop (HT.sIx xs.length 0 lo)).take (HT.sIx xs.length xs.length hi - HT.sIx xs.length 0 lo)
theorem DaL.cut {S : Addr → Prop} {H : Hp} {xs : List V} {ds : List PyData} (h : DaL K S H xs ds) (lo hi : Option Int) : DaL K S H (cutV xs lo hi) (cutD ds lo hi) := by
  unfold cutV cutD
  rw [h.len]
  exact (h.drop _).take _
theorem cut_all {α : Type} {xs : List α} {lo hi : Option Int} (h : HT.sIx xs.length 0 lo = 0 ∧ HT.sIx xs.length xs.length hi = xs.length) : cutD xs lo hi = xs := by
  unfold cutD
  rw [h.1, h.2]
  simp
def Sld (d : D) (lo hi : Option Int) (k : PyData → Prop) : Prop := match d with
  | .py (.tuple ds) => k (.tuple (cutD ds lo hi))
  | .py (.list ds) => k (.list (cutD ds lo hi))
  | .mine (.lst ds) => k (.list (cutD ds lo hi))
  | .brw ds => k (.list (cutD ds lo hi))
  | .py (.str z) => z.length ≤ sizeLine ∧ k (.str (cutS z lo hi))
  | _ => False
theorem wp_sl {sl : List Slo} {nn : Nat} {tl th : TO} (hK : K = c.K) (h : Wp c te ⟨sl, nn⟩ fun d n => Wo c tl ⟨sl, n⟩ fun lo n1 => Wo c th ⟨sl, n1⟩ fun hi n2 => Sld d lo hi fun p => Φ (.py p) n2) : Wp c (tSl (rSL K) te tl th) ⟨sl, nn⟩ Φ := ⟨fun σ A H o Q k => by
  subst hK
  refine h.run σ A H o _ fun v H1 d n p e1 g1 x => ?_
  have o1 := o.keep e1 g1
  refine p.run σ A H1 o1 _ fun lo H2 n1 p e2 g2 => ?_
  have o2 := o1.keep e2 g2
  refine p.run σ A H2 o2 _ fun hi H3 n2 p e3 g3 => ?_
  have o3 := o2.keep e3 g3
  have x := (x.keep e2 o.k).keep e3 o.k
  have es : Ek c H H3 := (e1.trans e2).trans e3
  have nl : ∀ {b : Addr} {xs : List V} {ds : List PyData}, v = .ref b → SqL c.K H3 b xs → DaL c.K A H3 xs ds → Φ (.py (.list (cutD ds lo hi))) n2 → rSL c.K v lo hi H3 Q := fun {b xs ds} ev hs t q =>
    .inr (.inl ⟨b, xs, ev, hs, fun r hr => k (.ref r) _ _ n2 q (es.trans (Ek.new hr)) (g3.new hr) (.lst (o3.fresh hr) (.inl upd_same) ((t.cut lo hi).new hr))⟩)
  match d, p, x with
  | .py (.tuple ds), p, x =>
    obtain ⟨b, xs, ev, hs, t⟩ := Da.tuple_at x
    refine .inl ⟨b, xs, ev, hs, fun hw => ?_, fun _ r hr => k _ _ _ n2 p (es.trans (Ek.new hr)) (g3.new hr) (.tup (o3.fresh hr) (.inl upd_same) ((t.cut lo hi).new hr))⟩
    rw [t.len] at hw
    have p' : Φ (.py (.tuple (cutD ds lo hi))) n2 := p
    have q : Φ (.py (.tuple ds)) n2 := by rw [cut_all hw] at p'; exact p'
    exact k _ H3 _ n2 q es g3 (by rw [← ev]; exact x)
  | .py (.list ds), p, x =>
    obtain ⟨b, xs, ev, hs, t⟩ := Da.list_at x
    exact nl ev hs t p
  | .mine (.lst ds), p, x =>
    obtain ⟨b, ev, _, _, xs, hs, t⟩ := x
    exact nl ev (SqL.of hs) t p
  | .brw ds, p, x =>
    obtain ⟨b, xs, ev, _, _, hs, t⟩ := x
    exact nl ev (SqL.of hs) t p
  | .py (.str z), ⟨hz, p⟩, x =>
    cases Da.str_eq x
    exact .inr (.inr ⟨z, rfl, hz, k _ H3 _ n2 p es g3 (.str _)⟩)⟩
/-! ## equality, membership -/
def Pd (d : D) (k : PyData → Prop) : Prop := match d with
  | .py p => k p
  | .mine (.lst ds) => k (.list ds)
  | .brw ds => k (.list ds)
  | _ => False
theorem pd_of {A : Addr → Prop} {H : Hp} {v : V} {d : D} {k : PyData → Prop} (p : Pd d k) (x : DX c A H v d) : ∃ q, Dp c.K H v q ∧ k q := by
  match d, p, x with
  | .py q, p, x => exact ⟨q, Da.dp x, p⟩
  | .mine (.lst ds), p, x =>
    obtain ⟨a, rfl, _, _, xs, h, t⟩ := x
    exact ⟨_, .lst (SqL.of h) t.dp, p⟩
  | .brw ds, p, x =>
    obtain ⟨a, xs, rfl, _, _, h, t⟩ := x
    exact ⟨_, .lst (SqL.of h) t.dp, p⟩
theorem rw_eq (hK : K = c.K) (h : Pd d1 fun p => Pd d2 fun q => SeqAt.shaped p = true ∧ SeqAt.shaped q = true ∧ Φ (.py (.bool (PyData.eqv p q))) n) : Rw c (rEqD K) d1 d2 n Φ := ⟨fun A H v1 v2 a x1 x2 Q k => by
  subst hK
  obtain ⟨p, y1, h⟩ := pd_of h x1
  obtain ⟨q, y2, s1, s2, h⟩ := pd_of h x2
  exact ⟨p, q, y1, y2, s1, s2, k _ H _ n h Ek.refl a.good (.bl _)⟩⟩
theorem rw_ne (hK : K = c.K) (h : Pd d1 fun p => Pd d2 fun q => SeqAt.shaped p = true ∧ SeqAt.shaped q = true ∧ Φ (.py (.bool (!PyData.eqv p q))) n) : Rw c (rNeD K) d1 d2 n Φ := ⟨fun A H v1 v2 a x1 x2 Q k => by
  subst hK
  obtain ⟨p, y1, h⟩ := pd_of h x1
  obtain ⟨q, y2, s1, s2, h⟩ := pd_of h x2
  exact ⟨p, q, y1, y2, s1, s2, k _ H _ n h Ek.refl a.good (.bl _)⟩⟩
def Mem (p : PyData) (ds : List PyData) : Bool := ds.any fun z => PyData.eqv z p
def SqP (q : PyData) (k : List PyData → Prop) : Prop := match q with
  | .tuple ds => k ds
  | .list ds => k ds
  | _ => False
theorem rw_in (hK : K = c.K) (h : Pd d1 fun p => Pd d2 fun q => SqP q fun ds => SeqAt.shaped p = true ∧ SeqAt.shaped q = true ∧ Φ (.py (.bool (Mem p ds))) n) : Rw c (rIN K) d1 d2 n Φ := ⟨fun A H v1 v2 a x1 x2 Q k => by
  subst hK
  obtain ⟨p, y1, h⟩ := pd_of h x1
  obtain ⟨q, y2, h⟩ := pd_of h x2
  match q, y2, h with
  | .tuple ds, y2, ⟨s1, s2, h⟩ => exact .inr ⟨p, ds, y1, y2, s1, s2, k _ H _ n h Ek.refl a.good (.bl _)⟩
  | .list ds, y2, ⟨s1, s2, h⟩ => exact .inl ⟨p, ds, y1, y2, s1, s2, k _ H _ n h Ek.refl a.good (.bl _)⟩⟩
theorem rw_ni (hK : K = c.K) (h : Pd d1 fun p => Pd d2 fun q => SqP q fun ds => SeqAt.shaped p = true ∧ SeqAt.shaped q = true ∧ Φ (.py (.bool (!Mem p ds))) n) : Rw c (rNI K) d1 d2 n Φ := ⟨fun A H v1 v2 a x1 x2 Q k => by
  subst hK
  obtain ⟨p, y1, h⟩ := pd_of h x1
  obtain ⟨q, y2, h⟩ := pd_of h x2
  match q, y2, h with
  | .tuple ds, y2, ⟨s1, s2, h⟩ => exact .inr ⟨p, ds, y1, y2, s1, s2, k _ H _ n h Ek.refl a.good (.bl _)⟩
  | .list ds, y2, ⟨s1, s2, h⟩ => exact .inl ⟨p, ds, y1, y2, s1, s2, k _ H _ n h Ek.refl a.good (.bl _)⟩⟩
/-! ## sums of sequences -/
theorem rw_addS (h : match d1, d2 with | .py (.str x), .py (.str y) => x.length + y.length ≤ sizeLine ∧ Φ (.py (.str (x ++ y))) n | _, _ => False) : Rw c (rADD K) d1 d2 n Φ := ⟨fun A H v1 v2 a x1 x2 Q k => by
  match d1, d2, h, x1, x2 with
  | .py (.str x), .py (.str y), ⟨hz, q⟩, x1, x2 =>
    cases Da.str_eq x1
    cases Da.str_eq x2
    exact .inr (.inr (.inr (.inl ⟨x, y, rfl, rfl, hz, k _ H _ n q Ek.refl a.good (.str _)⟩)))⟩
theorem rw_catL (hK : K = c.K) {ds es : List PyData} (h : ds.length + es.length ≤ sizeLine ∧ Φ (.py (.list (ds ++ es))) n) : Rw c (rADD K) (.py (.list ds)) (.py (.list es)) n Φ := ⟨fun A H v1 v2 a x1 x2 Q k => by
  subst hK
  obtain ⟨b1, xs, rfl, h1, t1⟩ := Da.list_at x1
  obtain ⟨b2, ys, rfl, h2, t2⟩ := Da.list_at x2
  refine .inr (.inr (.inr (.inr ⟨b1, b2, xs, ys, rfl, rfl, h1, h2, by rw [t1.len, t2.len]; exact h.1, fun r hr => ?_⟩)))
  exact k (.ref r) _ _ n h.2 (Ek.new hr) (a.good.new hr) (.lst (a.fresh hr) (.inl upd_same) ((t1.append t2).new hr))⟩
theorem rw_catL2 (hK : K = c.K) {ds es : List PyData} (h : ds.length + es.length ≤ sizeLine ∧ Φ (.py (.list (ds ++ es))) n) : Rw c (rADD K) (.py (.list ds)) (outO (.lst es)) n Φ := rw_catL hK h
theorem rw_catL4 (hK : K = c.K) {ds es : List PyData} (h : ds.length + es.length ≤ sizeLine ∧ Φ (.py (.list (ds ++ es))) n) : Rw c (rADD K) (outO (.lst ds)) (.py (.list es)) n Φ := rw_catL hK h
/-! ## built-in functions -/
def Lend (d : D) (k : Int → Prop) : Prop := match d with
  | .py (.tuple ds) => k ds.length
  | .py (.list ds) => k ds.length
  | .mine (.lst ds) => k ds.length
  | .brw ds => k ds.length
  | .py (.str x) => x.length ≤ sizeLine ∧ k x.length
  | _ => False
def rLEN (K : PySem.W.Frag) : List V → Hp → VK → Prop := fun xs H Q => ∃ x n, xs = [x] ∧ LenV K x H n ∧ Q (.int n) H
theorem callLEN {X : Cx} : CallR X (.builtin "len") (rLEN X.K) := call_len
def One (ds : List D) (k : D → Prop) : Prop := match ds with
  | [d] => k d
  | _ => False
def Two (ds : List D) (k : D → D → Prop) : Prop := match ds with
  | [d, u] => k d u
  | _ => False
theorem one_of {A : Addr → Prop} {H : Hp} {vs : List V} {ds : List D} {k : D → Prop} (p : One ds k) (x : DXs c A H vs ds) : ∃ v d, vs = [v] ∧ DX c A H v d ∧ k d := by
  match vs, ds, p, x with
  | [v], [d], p, ⟨h, _⟩ => exact ⟨v, d, rfl, h, p⟩
  | [], [d], p, h => exact h.elim
  | _ :: _ :: _, [d], p, ⟨_, h⟩ => exact h.elim
theorem two_of {A : Addr → Prop} {H : Hp} {vs : List V} {ds : List D} {k : D → D → Prop} (p : Two ds k) (x : DXs c A H vs ds) : ∃ v w d u, vs = [v, w] ∧ DX c A H v d ∧ DX c A H w u ∧ k d u := by
  match vs, ds, p, x with
  | [v, w], [d, u], p, ⟨h1, h2, _⟩ => exact ⟨v, w, d, u, rfl, h1, h2, p⟩
  | [v], [d, u], p, ⟨_, h⟩ => exact h.elim
  | [], [d, u], p, h => exact h.elim
  | _ :: _ :: _ :: _, [d, u], p, ⟨_, _, h⟩ => exact h.elim
theorem cw_len {ds : List D} (hK : K = c.K) (h : One ds fun d => Lend d fun i => Φ (.py (.int i)) n) : Cw c (rLEN K) ds n Φ := ⟨fun A H vs a x Q k => by
  subst hK
  obtain ⟨v, d, rfl, x, p⟩ := one_of h x
  match d, p, x with
  | .py (.tuple ds), p, x =>
    obtain ⟨b, xs, rfl, hs, t⟩ := Da.tuple_at x
    exact ⟨_, ds.length, rfl, .inr ⟨xs, hs, t.len.symm⟩, k _ H _ n p Ek.refl a.good (.int _)⟩
  | .py (.list ds), p, x =>
    obtain ⟨b, xs, rfl, hs, t⟩ := Da.list_at x
    exact ⟨_, ds.length, rfl, .inl ⟨xs, hs, t.len.symm⟩, k _ H _ n p Ek.refl a.good (.int _)⟩
  | .mine (.lst ds), p, x =>
    obtain ⟨b, rfl, _, _, xs, hs, t⟩ := x
    exact ⟨_, ds.length, rfl, .inl ⟨xs, SqL.of hs, t.len.symm⟩, k _ H _ n p Ek.refl a.good (.int _)⟩
  | .brw ds, p, x =>
    obtain ⟨b, xs, rfl, _, _, hs, t⟩ := x
    exact ⟨_, ds.length, rfl, .inl ⟨xs, SqL.of hs, t.len.symm⟩, k _ H _ n p Ek.refl a.good (.int _)⟩
  | .py (.str z), ⟨hz, p⟩, x =>
    cases Da.str_eq x
    exact ⟨_, z.length, rfl, ⟨hz, rfl⟩, k _ H _ n p Ek.refl a.good (.int _)⟩⟩
def rMAX2 : List V → Hp → VK → Prop := fun xs H Q => ∃ i j, xs = [.int i, .int j] ∧ Q (.int (if j > i then j else i)) H
def rMIN2 : List V → Hp → VK → Prop := fun xs H Q => ∃ i j, xs = [.int i, .int j] ∧ Q (.int (if j < i then j else i)) H
theorem callMAX2 {X : Cx} (hc : X.calm = true) : CallR X (.builtin "max") rMAX2 := call_max2 hc
theorem callMIN2 {X : Cx} (hc : X.calm = true) : CallR X (.builtin "min") rMIN2 := call_min2 hc
theorem cw_max2 {ds : List D} (h : Two ds fun d u => Id2 d u fun i j => Φ (.py (.int (if j > i then j else i))) n) : Cw c rMAX2 ds n Φ := ⟨fun A H vs a x Q k => by
  obtain ⟨v, w, d, u, rfl, x1, x2, p⟩ := two_of h x
  obtain ⟨i, j, rfl, rfl, q⟩ := id2 p x1 x2
  exact ⟨i, j, rfl, k _ H _ n q Ek.refl a.good (.int _)⟩⟩
theorem cw_min2 {ds : List D} (h : Two ds fun d u => Id2 d u fun i j => Φ (.py (.int (if j < i then j else i))) n) : Cw c rMIN2 ds n Φ := ⟨fun A H vs a x Q k => by
  obtain ⟨v, w, d, u, rfl, x1, x2, p⟩ := two_of h x
  obtain ⟨i, j, rfl, rfl, q⟩ := id2 p x1 x2
  exact ⟨i, j, rfl, k _ H _ n q Ek.refl a.good (.int _)⟩⟩
def rINT1 : List V → Hp → VK → Prop := fun xs H Q => (∃ i, xs = [.int i] ∧ Q (.int i) H) ∨ ∃ k, xs = [.bl k] ∧ Q (.int (if k then 1 else 0)) H
def Bint (d : D) (k : Int → Prop) : Prop := match d with
  | .py (.int i) => k i
  | .py (.bool b) => k (if b then 1 else 0)
  | _ => False
theorem cw_int1 {ds : List D} (h : One ds fun d => Bint d fun i => Φ (.py (.int i)) n) : Cw c rINT1 ds n Φ := ⟨fun A H vs a x Q k => by
  obtain ⟨v, d, rfl, x, p⟩ := one_of h x
  match d, p, x with
  | .py (.int i), p, x => cases Da.int_eq x; exact .inl ⟨i, rfl, k _ H _ n p Ek.refl a.good (.int _)⟩
  | .py (.bool b), p, x => cases Da.bl_eq x; exact .inr ⟨b, rfl, k _ H _ n p Ek.refl a.good (.int _)⟩⟩
def rTUPOF (K : PySem.W.Frag) : List V → Hp → VK → Prop := fun xs H Q => ∃ p ys, xs = [.ref p] ∧ ((SqL K H p ys ∧ ∀ l, H l = none → Q (.ref l) (upd H l (.tup ys))) ∨ (SqT K H p ys ∧ Q (.ref p) H))
theorem cw_tuple {ds : List D} (hK : K = c.K) (h : One ds fun d => Sq d fun ps => Φ (.py (.tuple ps)) n) : Cw c (rTUPOF K) ds n Φ := ⟨fun A H vs a x Q k => by
  subst hK
  obtain ⟨v, d, rfl, x, p⟩ := one_of h x
  have nt : ∀ {b : Addr} {xs : List V} {ps : List PyData}, SqL c.K H b xs → DaL c.K A H xs ps → Φ (.py (.tuple ps)) n → rTUPOF c.K [.ref b] H Q := fun {b xs ps} hs t q =>
    ⟨b, xs, rfl, .inl ⟨hs, fun l hl => k (.ref l) _ _ n q (Ek.new hl) (a.good.new hl) (.tup (a.fresh hl) (.inl upd_same) (t.new hl))⟩⟩
  match d, p, x with
  | .py (.tuple ps), p, x =>
    obtain ⟨b, xs, rfl, hs, t⟩ := Da.tuple_at x
    exact ⟨b, xs, rfl, .inr ⟨hs, k _ H _ n p Ek.refl a.good x⟩⟩
  | .py (.list ps), p, x =>
    obtain ⟨b, xs, rfl, hs, t⟩ := Da.list_at x
    exact nt hs t p
  | .mine (.lst ps), p, x =>
    obtain ⟨b, rfl, _, _, xs, hs, t⟩ := x
    exact nt (SqL.of hs) t p
  | .brw ps, p, x =>
    obtain ⟨b, xs, rfl, _, _, hs, t⟩ := x
    exact nt (SqL.of hs) t p⟩
/-- all(..) of a list of truth values -/
def Bls (ds : List PyData) (k : List Bool → Prop) : Prop := ∃ bs : List Bool, ds = bs.map PyData.bool ∧ k bs
theorem DaL.bls {S : Addr → Prop} {H : Hp} : ∀ {xs : List V} {bs : List Bool}, DaL K S H xs (bs.map PyData.bool) → xs = bs.map V.bl
  | [], [], _ => rfl
  | x :: xs, b :: bs, h => by
    cases h with
    | cons h t =>
      cases Da.bl_eq h
      rw [DaL.bls t] <;> rfl
theorem cw_all {ds : List D} (hK : K = c.K) (h : One ds fun d => Ls d fun ps => Bls ps fun bs => Φ (.py (.bool (bs.all id))) n) : Cw c (rAll K) ds n Φ := ⟨fun A H vs a x Q k => by
  subst hK
  obtain ⟨v, d, rfl, x, p⟩ := one_of h x
  obtain ⟨b, xs, ps, rfl, hs, t, bs, rfl, q⟩ := ls_of p x
  exact ⟨b, bs, rfl, by rw [← DaL.bls t]; exact hs, k _ H _ n q Ek.refl a.good (.bl _)⟩⟩
end
section
variable {X : Cx}
theorem callINT1 : CallR X (.type "int") rINT1 := call_int1
theorem callTUPOF : CallR X (.type "tuple") (rTUPOF X.K) := call_tuple_of
end
end Wx

/-! ### part Wv -/
set_option Elab.async false
set_option linter.all false
set_option maxRecDepth 100000
set_option maxHeartbeats 1000000
set_option autoImplicit false
/-! The rules of the calculus: targets, statements, loops, comprehensions, calls, defs. -/
namespace Wx
open PySem L2
/-! ## targets -/
def Apt (js : List Nat) (σ σ' : St) : Prop := σ'.length = σ.length ∧ ∀ i, i ∉ js → σ'[i]? = σ[i]?
structure Wg (c : Cy) (g : TG) (js : List Nat) (d : D) (e : En) (Φ : En → Prop) : Prop where
  run : ∀ (σ : St) (A : Addr → Prop) (H : Hp) (v : V), Ok c A H σ e → DX c A H v d → ∀ Q : St → Hp → Prop, (∀ σ' e', Φ e' → Ok c A H σ' e' → Apt js σ σ' → (∀ a, ownA σ' e'.sl a → ownA σ e.sl a) → Q σ' H) → g v σ H Q
section
variable {c : Cy} {A : Addr → Prop} {H : Hp} {σ : St} {e : En} {d : D} {v : V}
theorem own_set {i : Nat} {y : Option V} {a : Addr} (h : ownA (σ.set i y) (e.sl.set i (.val d)) a) : ownA σ e.sl a := by
  obtain ⟨j, ds, h1, h2⟩ := h
  by_cases q : i = j
  · subst q
    rw [List.getElem?_set] at h1
    split at h1
    · split at h1 <;> cases h1
    · rename_i z; exact absurd rfl z
  · rw [List.getElem?_set_ne q] at h1 h2
    exact ⟨j, ds, h1, h2⟩
theorem own_emp {i : Nat} {y : Option V} {a : Addr} (h : ownA (σ.set i y) (e.sl.set i .emp) a) : ownA σ e.sl a := by
  obtain ⟨j, ds, h1, h2⟩ := h
  by_cases q : i = j
  · subst q
    rw [List.getElem?_set] at h1
    split at h1
    · split at h1 <;> cases h1
    · rename_i z; exact absurd rfl z
  · rw [List.getElem?_set_ne q] at h1 h2
    exact ⟨j, ds, h1, h2⟩
theorem Ok.set_ (o : Ok c A H σ e) {i : Nat} (hi : i < e.sl.length) (nm : d.nm = true) (x : DX c A H v d) : Ok c A H (σ.set i (some v)) ⟨e.sl.set i (.val d), e.n⟩ := by
  refine ⟨by rw [List.length_set, List.length_set]; exact o.len, o.good, fun a z => o.sub a (z.elim .inl fun w => .inr (own_set w)), o.al, fun j u h => ?_, fun j ds h => ?_, fun j l ds es a h1 h2 h3 h4 => ?_⟩
  · by_cases q : i = j
    · subst q
      rw [List.getElem?_set_self hi] at h
      cases h
      exact ⟨nm, v, by rw [List.getElem?_set_self (by rw [o.len]; exact hi)], x⟩
    · have h' : e.sl[j]? = some (Slo.val u) := by rw [← List.getElem?_set_ne q]; exact h
      rw [List.getElem?_set_ne q]
      exact o.val j u h'
  · by_cases q : i = j
    · subst q
      have h' : (e.sl.set i (Slo.val d))[i]? = some (Slo.own ds) := h
      rw [List.getElem?_set_self hi] at h'
      cases h'
    · have h' : e.sl[j]? = some (Slo.own ds) := by rw [← List.getElem?_set_ne q]; exact h
      rw [List.getElem?_set_ne q]
      exact o.own j ds h'
  · have f : ∀ {m : Nat} {fs : Ow}, (e.sl.set i (Slo.val d))[m]? = some (Slo.own fs) → i ≠ m := fun {m fs} h q => by
      subst q
      rw [List.getElem?_set_self hi] at h
      cases h
    have q1 := f h1
    have q2 := f h2
    have h1' : e.sl[j]? = some (Slo.own ds) := by rw [← List.getElem?_set_ne q1]; exact h1
    have h2' : e.sl[l]? = some (Slo.own es) := by rw [← List.getElem?_set_ne q2]; exact h2
    rw [List.getElem?_set_ne q1] at h3
    rw [List.getElem?_set_ne q2] at h4
    exact o.sep j l ds es a h1' h2' h3 h4
theorem Ok.wipe1 (o : Ok c A H σ e) {i : Nat} (hi : i < e.sl.length) : Ok c A H (σ.set i none) ⟨e.sl.set i .emp, e.n⟩ := by
  refine ⟨by rw [List.length_set, List.length_set]; exact o.len, o.good, fun a z => o.sub a (z.elim .inl fun w => .inr (own_emp w)), o.al, fun j u h => ?_, fun j ds h => ?_, fun j l ds es a h1 h2 h3 h4 => ?_⟩
  · by_cases q : i = j
    · subst q
      rw [List.getElem?_set_self hi] at h
      cases h
    · have h' : e.sl[j]? = some (Slo.val u) := by rw [← List.getElem?_set_ne q]; exact h
      rw [List.getElem?_set_ne q]
      exact o.val j u h'
  · by_cases q : i = j
    · subst q
      have h' : (e.sl.set i Slo.emp)[i]? = some (Slo.own ds) := h
      rw [List.getElem?_set_self hi] at h'
      cases h'
    · have h' : e.sl[j]? = some (Slo.own ds) := by rw [← List.getElem?_set_ne q]; exact h
      rw [List.getElem?_set_ne q]
      exact o.own j ds h'
  · have f : ∀ {m : Nat} {fs : Ow}, (e.sl.set i Slo.emp)[m]? = some (Slo.own fs) → i ≠ m := fun {m fs} h q => by
      subst q
      rw [List.getElem?_set_self hi] at h
      cases h
    have q1 := f h1
    have q2 := f h2
    have h1' : e.sl[j]? = some (Slo.own ds) := by rw [← List.getElem?_set_ne q1]; exact h1
    have h2' : e.sl[l]? = some (Slo.own es) := by rw [← List.getElem?_set_ne q2]; exact h2
    rw [List.getElem?_set_ne q1] at h3
    rw [List.getElem?_set_ne q2] at h4
    exact o.sep j l ds es a h1' h2' h3 h4
/-- a new list of one's own goes to a name -/
theorem Ok.set_own {H0 : Hp} {p : Addr} {w : Ow} {n : Nat} (o : Ok c A H0 σ e) (k : Ek c H0 H) (g : Good c n H) (hp : H0 p = none) (t : OwAt c.K (fun a => A a ∨ a = p) H p w) {i : Nat} (hi : i < e.sl.length) :
    Ok c (fun a => A a ∨ a = p) H (σ.set i (some (.ref p))) ⟨e.sl.set i (.own w), n⟩ := by
  have nS : ¬ c.S0 p := fun z => o.good.al p z hp
  have k' : ∀ a, c.k = some a → A a ∨ a = p := fun a z => .inl (o.k a z)
  have notp : ∀ (j : Nat) (es : Ow) (a : Addr), e.sl[j]? = some (Slo.own es) → σ[j]? = some (some (V.ref a)) → a ≠ p := fun j es a h1 h3 q => by
    obtain ⟨b, h5, h6, _⟩ := o.own j es h1
    rw [h3] at h5; cases h5
    exact h6.al (by rw [q]; exact hp)
  refine ⟨by rw [List.length_set, List.length_set]; exact o.len, g, fun a z => ?_, fun a z => ?_, fun j u h => ?_, fun j es h => ?_, fun j l es fs a h1 h2 h3 h4 => ?_⟩
  · rcases z with z | ⟨j, es, h1, h3⟩
    · exact .inl (o.sub a (.inl z))
    · by_cases q : i = j
      · subst q
        rw [List.getElem?_set_self (by rw [o.len]; exact hi)] at h3
        cases h3
        exact .inr rfl
      · rw [List.getElem?_set_ne q] at h3
        have h1' : e.sl[j]? = some (Slo.own es) := by rw [← List.getElem?_set_ne q]; exact h1
        exact .inl (o.sub a (.inr ⟨j, es, h1', h3⟩))
  · rcases z with z | z
    · exact (o.keep k g).al a z
    · rw [z]; exact t.al
  · by_cases q : i = j
    · subst q
      have h' : (e.sl.set i (Slo.own w))[i]? = some (Slo.val u) := h
      rw [List.getElem?_set_self hi] at h'
      cases h'
    · have h' : e.sl[j]? = some (Slo.val u) := by rw [← List.getElem?_set_ne q]; exact h
      obtain ⟨nm, w, h3, h4⟩ := o.val j u h'
      rw [List.getElem?_set_ne q]
      exact ⟨nm, w, h3, (h4.apart hp).keep k k'⟩
  · by_cases q : i = j
    · subst q
      have h' : (e.sl.set i (Slo.own w))[i]? = some (Slo.own es) := h
      rw [List.getElem?_set_self hi] at h'
      cases h'
      exact ⟨p, by rw [List.getElem?_set_self (by rw [o.len]; exact hi)], t, nS⟩
    · have h' : e.sl[j]? = some (Slo.own es) := by rw [← List.getElem?_set_ne q]; exact h
      obtain ⟨b, h3, h5, h6⟩ := o.own j es h'
      rw [List.getElem?_set_ne q]
      exact ⟨b, h3, (h5.apart hp).keep (Ek.kept k k') fun u r => k b u (fun z => h6 (c.hk b z)) r, h6⟩
  · have f : ∀ {m : Nat} {gs : Ow}, (e.sl.set i (Slo.own w))[m]? = some (Slo.own gs) → i ≠ m → e.sl[m]? = some (Slo.own gs) := fun {m gs} h q => by rw [← List.getElem?_set_ne q]; exact h
    by_cases q1 : i = j
    · by_cases q2 : i = l
      · rw [← q1, ← q2]
      · subst q1
        rw [List.getElem?_set_self (by rw [o.len]; exact hi)] at h3
        rw [List.getElem?_set_ne q2] at h4
        cases h3
        exact absurd rfl (notp l fs _ (f h2 q2) h4)
    · by_cases q2 : i = l
      · subst q2
        rw [List.getElem?_set_self (by rw [o.len]; exact hi)] at h4
        rw [List.getElem?_set_ne q1] at h3
        cases h4
        exact absurd rfl (notp j es _ (f h1 q1) h3)
      · rw [List.getElem?_set_ne q1] at h3
        rw [List.getElem?_set_ne q2] at h4
        exact o.sep j l es fs a (f h1 q1) (f h2 q2) h3 h4
theorem Apt.set {i : Nat} {y : Option V} {js : List Nat} (h : i ∈ js) : Apt js σ (σ.set i y) := ⟨List.length_set, fun j hj => List.getElem?_set_ne fun (q : i = j) => hj (by rw [← q]; exact h)⟩
theorem Apt.trans {σ1 σ2 : St} {js : List Nat} (a : Apt js σ σ1) (b : Apt js σ1 σ2) : Apt js σ σ2 := ⟨b.1.trans a.1, fun i h => (b.2 i h).trans (a.2 i h)⟩
variable {Φ : En → Prop} {js : List Nat}
theorem wg_name {i : Nat} (q : d.nm = true ∧ Φ ⟨e.sl.set i (.val d), e.n⟩) (hi : i < e.sl.length := by first | decide | (simp; done)) (hj : i ∈ js := by first | decide | (simp; done)) : Wg c (gName i) js d e Φ := ⟨fun σ A H v o x Q k => k _ _ q.2 (o.set_ hi q.1 x) (Apt.set hj) fun _ => own_set⟩
theorem wg_pair {K : PySem.W.Frag} {g1 g2 : TG} (hK : K = c.K) (h : ∃ p q, d = .py (.tuple [p, q]) ∧ Wg c g1 js (.py p) e fun e1 => Wg c g2 js (.py q) e1 Φ) : Wg c (gTup K 2 (gCons g1 (gCons g2 gNil))) js d e Φ := ⟨fun σ A H v o x Q k => by
  subst hK
  obtain ⟨p, q, rfl, h⟩ := h
  obtain ⟨a, xs, rfl, hs, t⟩ := Da.tuple_at x
  cases t with
  | cons y1 t =>
    cases t with
    | cons y2 t =>
      cases t
      refine ⟨a, _, rfl, hs, rfl, _, _, rfl, h.run σ A H _ o y1 _ fun σ1 e1 h1 o1 w1 u1 => ⟨_, _, rfl, h1.run σ1 A H _ o1 y2 _ fun σ2 e2 h2 o2 w2 u2 => ⟨rfl, k σ2 e2 h2 o2 (w1.trans w2) fun b z => u1 b (u2 b z)⟩⟩⟩⟩
end

/-! ## statements -/
structure Po where
  nx : En → Prop
  rt : D → Nat → Prop
  bk : En → Prop := fun _ => False
  ct : En → Prop := fun _ => False
def Kp (c : Cy) (σ : St) (e : En) (H H' : Hp) : Prop := Kept (fun a => c.k = some a ∨ ownA σ e.sl a) H H'
def Gx (c : Cy) (σ : St) (H : Hp) (e : En) (k : En → Prop) (F : St → Hp → Prop) : Prop :=
  ∀ (σ' : St) (A' : Addr → Prop) (H' : Hp) (e' : En), k e' → Kp c σ e H H' → (∀ a, ownA σ' e'.sl a → ownA σ e.sl a ∨ H a = none) → Ok c A' H' σ' e' → F σ' H'
def Rx (c : Cy) (σ : St) (H : Hp) (e : En) (k : D → Nat → Prop) (F : VK) : Prop :=
  ∀ (v : V) (H' : Hp) (d : D) (n : Nat), k d n → Kp c σ e H H' → Good c n H' → DX c c.S0 H' v d → F v H'
structure Ws (c : Cy) (ts : TS) (e : En) (P : Po) : Prop where
  run : ∀ (σ : St) (A : Addr → Prop) (H : Hp), Ok c A H σ e → ∀ Dn : Ends, Gx c σ H e P.nx Dn.nx → Rx c σ H e P.rt Dn.rt → Gx c σ H e P.bk Dn.bk → Gx c σ H e P.ct Dn.ct → ts Dn σ H
section
variable {c : Cy} {A A1 : Addr → Prop} {H H1 : Hp} {σ σ1 : St} {e e1 : En}
theorem Kp.ek (h : Ek c H H1) : Kp c σ e H H1 := fun a o n q => h a o (fun z => n (.inl z)) q
theorem Kp.trans {H2 : Hp} (a : Kp c σ e H H1) (w : ∀ a, ownA σ1 e1.sl a → ownA σ e.sl a ∨ H a = none) (b : Kp c σ1 e1 H1 H2) : Kp c σ e H H2 := fun x o n h =>
  b x o (fun z => z.elim (fun z => n (.inl z)) fun z => (w x z).elim (fun z => n (.inr z)) fun z => by rw [h] at z; cases z) (a x o n h)
theorem own_back (o : Ok c A H σ e) (g : Good c e1.n H1) (k : Kp c σ e H H1) {a : Addr} (h : ownA σ e.sl a ∨ H1 a = none) : ownA σ e.sl a ∨ H a = none := by
  rcases h with h | h
  · exact .inl h
  · by_cases w : ownA σ e.sl a
    · exact .inl w
    · right
      cases q : H a with
      | none => rfl
      | some u =>
        by_cases z : c.k = some a
        · obtain ⟨_, _, _, q2, _⟩ := g.kl a z
          rw [h] at q2; cases q2
        · rw [k a u (fun y => y.elim z w) q] at h; cases h
theorem Gx.after {k : En → Prop} {F : St → Hp → Prop} (h : Gx c σ H e k F) (o : Ok c A H σ e) (a : Kp c σ e H H1) (w : ∀ a, ownA σ1 e1.sl a → ownA σ e.sl a ∨ H a = none) (o1 : Ok c A1 H1 σ1 e1) : Gx c σ1 H1 e1 k F := fun σ' A' H' e' p b w' o' =>
  h σ' A' H' e' p (a.trans w b) (fun x z => by
    rcases w' x z with z | z
    · exact w x z
    · exact own_back o o1.good a (.inr z)) o'
theorem Rx.after {k : D → Nat → Prop} {F : VK} (h : Rx c σ H e k F) (a : Kp c σ e H H1) (w : ∀ a, ownA σ1 e1.sl a → ownA σ e.sl a ∨ H a = none) : Rx c σ1 H1 e1 k F := fun v H' d n p b g x => h v H' d n p (a.trans w b) g x
theorem Gx.ek {k : En → Prop} {F : St → Hp → Prop} {n : Nat} (h : Gx c σ H e k F) (o : Ok c A H σ e) (a : Ek c H H1) (g : Good c n H1) : Gx c σ H1 ⟨e.sl, n⟩ k F := h.after o (Kp.ek a) (fun _ z => .inl z) (o.keep a g)
theorem Rx.ek {k : D → Nat → Prop} {F : VK} {n : Nat} (h : Rx c σ H e k F) (a : Ek c H H1) : Rx c σ H1 ⟨e.sl, n⟩ k F := h.after (Kp.ek a) fun _ z => .inl z
variable {P : Po} {t u : TS} {te : TE} {tt : TT}
theorem ws_seq {sl : List Slo} {nn : Nat} (h : Ws c t ⟨sl, nn⟩ ⟨fun e1 => Ws c u e1 P, P.rt, P.bk, P.ct⟩) : Ws c (tSeq t u) ⟨sl, nn⟩ P := ⟨fun σ A H o Dn nx rt bk ct =>
  h.run σ A H o { Dn with nx := u Dn } (fun σ1 A1 H1 e1 q a w o1 => q.run σ1 A1 H1 o1 Dn (nx.after o a w o1) (rt.after a w) (bk.after o a w o1) (ct.after o a w o1)) rt bk ct⟩
theorem ws_next {sl : List Slo} {nn : Nat} (q : P.nx ⟨sl, nn⟩) : Ws c tNext ⟨sl, nn⟩ P := ⟨fun σ A H o Dn nx _ _ _ => nx σ A H ⟨sl, nn⟩ q Kept.refl (fun _ z => .inl z) o⟩
theorem ws_if {sl : List Slo} {nn : Nat} (h : Wt c tt ⟨sl, nn⟩ fun b n => (b = true → Ws c t ⟨sl, n⟩ P) ∧ (b = false → Ws c u ⟨sl, n⟩ P)) : Ws c (tIfS tt t u) ⟨sl, nn⟩ P := ⟨fun σ A H o Dn nx rt bk ct => by
  refine h.run σ A H o _ fun b H1 n p e1 g1 => ?_
  cases b with
  | true => exact iteT ((p.1 rfl).run σ A H1 (o.keep e1 g1) Dn (nx.ek o e1 g1) (rt.ek e1) (bk.ek o e1 g1) (ct.ek o e1 g1))
  | false => exact iteF ((p.2 rfl).run σ A H1 (o.keep e1 g1) Dn (nx.ek o e1 g1) (rt.ek e1) (bk.ek o e1 g1) (ct.ek o e1 g1))⟩
def frz : D → D
  | .mine (.lst ds) => .py (.list ds)
  | .mine (.dct ds) => .dct ds
  | .mine (.ins C fs) => .ins C fs
  | .mine (.lsi _ _) => .lsx
  | d => d
theorem frz_ok {v : V} {d : D} (s : ∀ a, c.S0 a → A a) (h : DX c A H v d) : DX c c.S0 H v (frz d) := by
  cases d with
  | mine w =>
    obtain ⟨a, rfl, n, _, t⟩ := h
    cases w with
    | lst ds => obtain ⟨xs, r, t⟩ := t; exact .lst n (.inl r) (t.less s)
    | dct ds => obtain ⟨xs, r, t⟩ := t; exact ⟨a, xs, rfl, n, r, t.less s⟩
    | ins C fs => obtain ⟨dx, vs, r, t⟩ := t; exact ⟨a, dx, vs, rfl, n, r, t.less s⟩
    | lsi C gs => obtain ⟨xs, r, t⟩ := t; exact ⟨a, xs, rfl, n, r⟩
  | dct ds => exact DX.less (d := .dct ds) s rfl h
  | dcl ds => exact DX.less (d := .dcl ds) s rfl h
  | py p => exact DX.less (d := .py p) s rfl h
  | brw ds => exact DX.less (d := .brw ds) s rfl h
  | ins C fs => exact DX.less (d := .ins C fs) s rfl h
  | atom w => exact h
  | kln => exact h
  | lsx => exact DX.less (d := .lsx) s rfl h
theorem ws_ret {sl : List Slo} {nn : Nat} (h : Wp c te ⟨sl, nn⟩ fun d n => P.rt (frz d) n) : Ws c (tRet te) ⟨sl, nn⟩ P := ⟨fun σ A H o Dn _ rt _ _ => by
  refine h.run σ A H o _ fun v H1 d n p e1 g1 x => ?_
  exact rt v H1 _ n p (Kp.ek e1) g1 (frz_ok (fun a z => o.sub a (.inl z)) x)⟩
theorem ws_drop {sl : List Slo} {nn : Nat} (h : Wp c te ⟨sl, nn⟩ fun d n => P.nx ⟨sl, n⟩) : Ws c (tDrop te) ⟨sl, nn⟩ P := ⟨fun σ A H o Dn nx _ _ _ => by
  refine h.run σ A H o _ fun v H1 d n p e1 g1 x => ?_
  exact nx σ A H1 ⟨sl, n⟩ p (Kp.ek e1) (fun _ z => .inl z) (o.keep e1 g1)⟩
theorem ws_asg {sl : List Slo} {nn : Nat} {g : TG} (js : List Nat) (h : Wp c te ⟨sl, nn⟩ fun d n => Wg c g js d ⟨sl, n⟩ P.nx) : Ws c (tAsg te g) ⟨sl, nn⟩ P := ⟨fun σ A H o Dn nx _ _ _ => by
  refine h.run σ A H o _ fun v H1 d n p e1 g1 x => ?_
  refine p.run σ A H1 v (o.keep e1 g1) x _ fun σ' e' q o' _ w => ?_
  exact nx σ' A H1 e' q (Kp.ek e1) (fun a z => .inl (w a z)) o'⟩
/-- x = a value -/
theorem ws_set {sl : List Slo} {nn : Nat} {i : Nat} (h : Wp c te ⟨sl, nn⟩ fun d n => d.nm = true ∧ P.nx ⟨sl.set i (.val d), n⟩) (hi : i < sl.length := by first | decide | (simp; done)) : Ws c (tAsg te (gName i)) ⟨sl, nn⟩ P :=
  ws_asg [i] (h.mono fun d n q => wg_name (js := [i]) q hi (by simp))
/-- x = a new list that is changed later -/
theorem ws_own {sl : List Slo} {nn : Nat} {i : Nat} (h : Wn c te ⟨sl, nn⟩ fun w n => P.nx ⟨sl.set i (.own w), n⟩) (hi : i < sl.length := by first | decide | (simp; done)) : Ws c (tAsg te (gName i)) ⟨sl, nn⟩ P := ⟨fun σ A H o Dn nx _ _ _ => by
  refine h.run σ A H o _ fun p H1 w n q e1 g1 hp t => ?_
  refine nx (σ.set i (some (.ref p))) (fun a => A a ∨ a = p) H1 ⟨sl.set i (.own w), n⟩ q (Kp.ek e1) (fun a z => ?_) (o.set_own e1 g1 hp t hi)
  obtain ⟨j, es, h3, h4⟩ := z
  by_cases r : i = j
  · subst r
    rw [List.getElem?_set_self (by rw [o.len]; exact hi)] at h4
    cases h4
    exact .inr hp
  · rw [List.getElem?_set_ne r] at h4
    have h3' : sl[j]? = some (Slo.own es) := by rw [← List.getElem?_set_ne r]; exact h3
    exact .inl ⟨j, es, h3', h4⟩⟩
theorem ws_par {sl : List Slo} {nn : Nat} {i j : Nat} {ta : TA} (h : Wa c ta ⟨sl, nn⟩ fun ds n => Two ds fun d u => d.nm = true ∧ u.nm = true ∧ P.nx ⟨(sl.set i (.val d)).set j (.val u), n⟩) (hi : i < sl.length := by first | decide | (simp; done)) (hj : j < sl.length := by first | decide | (simp; done)) : Ws c (tPar i j ta) ⟨sl, nn⟩ P := ⟨fun σ A H o Dn nx _ _ _ => by
  refine h.run σ A H o _ fun vs H1 ds n p e1 g1 x => ?_
  obtain ⟨v, w, d, u, rfl, x1, x2, m1, m2, q⟩ := two_of p x
  have o2 := ((o.keep e1 g1).set_ hi m1 x1).set_ (i := j) (by show j < (sl.set i _).length; rw [List.length_set]; exact hj) m2 x2
  exact ⟨v, w, rfl, nx _ A H1 _ q (Kp.ek e1) (fun a z => .inl (own_set (e := ⟨sl, nn⟩) (own_set (e := ⟨sl.set i (.val d), n⟩) z))) o2⟩⟩
/-- what is one's own is changed -/
theorem Ok.put {i : Nat} {a : Addr} {w w' : Ow} {u : HO} {n : Nat} (o : Ok c A H σ e) (hi : e.sl[i]? = some (.own w)) (h1 : σ[i]? = some (some (.ref a))) (nS : ¬ c.S0 a) (g : Good c n H) (t : OwAt c.K A (upd H a u) a w') :
    Ok c A (upd H a u) σ ⟨e.sl.set i (.own w'), n⟩ ∧ Kp c σ e H (upd H a u) ∧ (∀ b, ownA σ (e.sl.set i (.own w')) b → ownA σ e.sl b) := by
  have aA : A a := o.sub a (.inr ⟨i, w, hi, h1⟩)
  have nk : c.k ≠ some a := fun z => nS (c.hk a z)
  have k2 : Kept A H (upd H a u) := fun b x nb q => by rw [upd_ne fun z => nb (by rw [z]; exact aA)]; exact q
  have il : i < e.sl.length := (List.getElem?_eq_some_iff.mp hi).1
  have back : ∀ b, ownA σ (e.sl.set i (.own w')) b → ownA σ e.sl b := fun b ⟨j, es, z1, z2⟩ => by
    by_cases r : i = j
    · subst r; exact ⟨i, w, hi, z2⟩
    · have z1' : e.sl[j]? = some (Slo.own es) := by rw [← List.getElem?_set_ne r]; exact z1
      exact ⟨j, es, z1', z2⟩
  have g2 : Good c n (upd H a u) := ⟨fun b z => by
      by_cases q : b = a
      · rw [q, upd_same]; exact fun w => nomatch w
      · rw [upd_ne q]; exact g.al b z, fun b z => by
      rw [upd_ne fun q => nk (by rw [← q]; exact z)]; exact g.kl b z⟩
  refine ⟨⟨by rw [List.length_set]; exact o.len, g2, fun b z => z.elim (fun z => o.sub b (.inl z)) fun z => o.sub b (.inr (back b z)), fun b z => ?_, fun j w z => ?_, fun j es z => ?_, fun j l es fs b z1 z2 z3 z4 => ?_⟩, fun b x nb q => by rw [upd_ne fun z => nb (by rw [z]; exact .inr ⟨i, w, hi, h1⟩)]; exact q, back⟩
  · by_cases q : b = a
    · rw [q, upd_same]; exact fun w => nomatch w
    · rw [upd_ne q]; exact o.al b z
  · by_cases r : i = j
    · subst r
      have z' : (e.sl.set i (Slo.own w'))[i]? = some (Slo.val w) := z
      rw [List.getElem?_set_self il] at z'
      cases z'
    · have z' : e.sl[j]? = some (Slo.val w) := by rw [← List.getElem?_set_ne r]; exact z
      obtain ⟨nm, y, y1, y2⟩ := o.val j w z'
      refine ⟨nm, y, y1, ?_⟩
      cases w with
      | py p => exact Da.keep k2 y2
      | mine ds => cases nm
      | dct ds =>
        obtain ⟨b, kvs, w1, w2, w3, w4⟩ := y2
        exact ⟨b, kvs, w1, w2, k2 b _ w2 w3, w4.keep k2⟩
      | dcl ds =>
        obtain ⟨b, kvs, od, w1, w2, w3, w4⟩ := y2
        exact ⟨b, kvs, od, w1, w2, k2 b _ w2 w3, w4.keep k2⟩
      | brw es =>
        obtain ⟨b, ys, w1, w2, w3, w4, w5⟩ := y2
        exact ⟨b, ys, w1, w2, w3, by rw [upd_ne fun z => nS (by rw [← z]; exact w3)]; exact w4, w5.keep k2⟩
      | ins C fs =>
        obtain ⟨b, dx, vs, w1, w2, w3, w4⟩ := y2
        exact ⟨b, dx, vs, w1, w2, k2 b _ w2 w3, w4.keep k2⟩
      | atom w => exact y2
      | kln => exact y2
      | lsx =>
        obtain ⟨b, ys, w1, w2, w3⟩ := y2
        exact ⟨b, ys, w1, w2, k2 b _ w2 w3⟩
  · by_cases r : i = j
    · subst r
      have z' : (e.sl.set i (Slo.own w'))[i]? = some (Slo.own es) := z
      rw [List.getElem?_set_self il] at z'
      cases z'
      exact ⟨a, h1, t, nS⟩
    · have z' : e.sl[j]? = some (Slo.own es) := by rw [← List.getElem?_set_ne r]; exact z
      obtain ⟨b, y1, y3, y4⟩ := o.own j es z'
      exact ⟨b, y1, y3.keep k2 fun x q => by rw [upd_ne fun q => r (o.sep i j w es a hi z' h1 (by rw [← q]; exact y1))]; exact q, y4⟩
  · have f : ∀ {m : Nat} {gs : Ow}, (e.sl.set i (Slo.own w'))[m]? = some (Slo.own gs) → ∃ hs, e.sl[m]? = some (Slo.own hs) := fun {m gs} h => by
      by_cases r : i = m
      · subst r; exact ⟨w, hi⟩
      · rw [List.getElem?_set_ne r] at h; exact ⟨gs, h⟩
    obtain ⟨es', f1⟩ := f z1
    obtain ⟨fs', f2⟩ := f z2
    exact o.sep j l es' fs' b f1 f2 z3 z4
/-- xs.append(e), xs a list of one's own -/
theorem ws_app {sl : List Slo} {nn : Nat} {K : PySem.W.Frag} {i : Nat} {ds : List PyData} (hK : K = c.K) (hi : sl[i]? = some (.own (.lst ds))) (h : Wp c te ⟨sl, nn⟩ fun d n => ∃ p, d = .py p ∧ ds.length < sizeLine ∧ P.nx ⟨sl.set i (.own (.lst (ds ++ [p]))), n⟩) :
    Ws c (tDrop (tBM K "list" rAppend (tVar i) (tCons te tNil))) ⟨sl, nn⟩ P := ⟨fun σ A H o Dn nx _ _ _ => by
  subst hK
  obtain ⟨a, h1, ⟨xs, h2, h3⟩, h4⟩ := o.own i _ hi
  refine ⟨.ref a, h1, .inl ⟨rfl, xs, SqL.of h2⟩, h.run σ A H o _ fun v H1 d n p e1 g1 x => ?_⟩
  obtain ⟨p, rfl, hz, q⟩ := p
  have o1 := o.keep e1 g1
  have nk : c.k ≠ some a := fun z => h4 (c.hk a z)
  have ha : H1 a = some (.lst xs) := e1 a _ nk h2
  have aA : A a := o.sub a (.inr ⟨i, _, hi, h1⟩)
  have k2 : Kept A H1 (upd H1 a (.lst (xs ++ [v]))) := fun b u nb q => by rw [upd_ne fun z => nb (by rw [z]; exact aA)]; exact q
  obtain ⟨o2, kp, bk⟩ := o1.put (w' := .lst (ds ++ [p])) (u := .lst (xs ++ [v])) hi h1 h4 g1 ⟨_, upd_same, ((h3.keep (Ek.kept e1 o.k)).append (.cons x .nil)).keep k2⟩
  exact ⟨a, xs, v, rfl, rfl, ha, by rw [h3.len]; exact hz, nx σ A _ ⟨sl.set i (.own (.lst (ds ++ [p]))), n⟩ q (fun b u nb w => kp b u nb (e1 b u (fun z => nb (.inl z)) w)) (fun b z => .inl (bk b z)) o2⟩⟩
end
end Wx

/-! ### part Wu -/
set_option Elab.async false
set_option linter.all false
set_option maxRecDepth 100000
set_option maxHeartbeats 1000000
set_option autoImplicit false
/-! The rules of the calculus: loops, comprehensions, calls, defs. -/
namespace Wx
open PySem L2
section
variable {K : PySem.W.Frag} {A B M : Addr → Prop} {H H' : Hp}
mutual
theorem Da.to (k : Kept A H H') (w : ∀ a, B a → A a ∨ H a = none) : ∀ {v : V} {d : PyData}, Da K A H v d → Da K B H' v d
  | _, _, .non => .non
  | _, _, .bl b => .bl b
  | _, _, .int i => .int i
  | _, _, .str x => .str x
  | _, _, .lst n r t => .lst (fun z => (w _ z).elim n fun q => by rcases r with r | ⟨_, r⟩ <;> rw [q] at r <;> cases r) (k.rd n r) (DaL.to k w t)
  | _, _, .tup n r t => .tup (fun z => (w _ z).elim n fun q => by rcases r with r | ⟨_, r⟩ <;> rw [q] at r <;> cases r) (k.rd n r) (DaL.to k w t)
  | _, _, .lstK r t => .lstK r (DaL.to k w t)
  | _, _, .tupK r t => .tupK r (DaL.to k w t)
theorem DaL.to (k : Kept A H H') (w : ∀ a, B a → A a ∨ H a = none) : ∀ {vs : List V} {ds : List PyData}, DaL K A H vs ds → DaL K B H' vs ds
  | _, _, .nil => .nil
  | _, _, .cons h t => .cons (Da.to k w h) (DaL.to k w t)
end
theorem Kept.mono {S T : Addr → Prop} (k : Kept S H H') (w : ∀ a, S a → T a) : Kept T H H' := fun a o n h => k a o (fun z => n (w a z)) h
end
/-! ## what is walked -/
def Step (H H' : Hp) : Prop := H' = H ∨ ∃ T o, H T = none ∧ H' = upd H T o
theorem Step.kept {S : Addr → Prop} {H H' : Hp} (s : Step H H') : Kept S H H' := fun a o _ h => by
  rcases s with rfl | ⟨T, u, n, rfl⟩
  · exact h
  · rw [upd_ne (ne_of_none h n)]; exact h
theorem Step.good {c : Cy} {n : Nat} {H H' : Hp} (s : Step H H') (g : Good c n H) : Good c n H' := by
  rcases s with rfl | ⟨T, u, m, rfl⟩
  · exact g
  · exact g.new m
structure Gv (c : Cy) (M A : Addr → Prop) (H : Hp) (J : It) (its : List D) : Prop where
  go : ∀ (H' : Hp) (i : Nat), Kept M H H' → i < its.length → J.go i H'
  stop : ∀ (H' : Hp) (i : Nat), Kept M H H' → its.length ≤ i → J.stop i H'
  yld : ∀ (H' : Hp) (i : Nat) (x : V) (H'' : Hp), Kept M H H' → i < its.length → J.yld i H' x H'' →
    ∃ d, its[i]? = some d ∧ Step H' H'' ∧ ∀ B : Addr → Prop, (∀ a, B a → A a ∨ H a = none) → (∀ a, B a → H' a ≠ none) → (∀ a, c.S0 a → B a) → DX c B H'' x d
def Mm (c : Cy) (m : Bool) (σ : St) (e : En) (a : Addr) : Prop := c.k = some a ∨ (m = true ∧ ownA σ e.sl a)
structure Wi (c : Cy) (m : Bool) (wi : TI) (e : En) (Φ : List D → Nat → Prop) : Prop where
  run : ∀ (σ : St) (A : Addr → Prop) (H : Hp), Ok c A H σ e → ∀ R : It → Hp → Prop, (∀ J H1 its n, Φ its n → Ek c H H1 → Good c n H1 → Gv c (Mm c m σ e) A H1 J its → R J H1) → wi σ H R
section
variable {c : Cy} {e : En} {m : Bool} {Θ : List D → Nat → Prop} {tl : TE} {ta : TA} {K : PySem.W.Frag}
theorem Mm.sub {σ : St} {A : Addr → Prop} {H : Hp} (o : Ok c A H σ e) (a : Addr) (h : Mm c m σ e a) : A a := h.elim (fun z => o.k a z) fun z => o.sub a (.inr z.2)
def LsI (m : Bool) (d : D) (k : List PyData → Prop) : Prop := match d with
  | .py (.list ds) => k ds
  | .mine (.lst ds) => m = false ∧ k ds
  | _ => False
theorem getm {ds : List PyData} {i : Nat} {p : PyData} (h : ds[i]? = some p) : (ds.map D.py)[i]? = some (D.py p) := by rw [List.getElem?_map, h] <;> rfl
theorem gv_list {M A : Addr → Prop} {H : Hp} {a : Addr} {xs : List V} {ds : List PyData} (hM : ∀ a, M a → A a) (st : ∀ H', Kept M H H' → SqL c.K H' a xs) (t : DaL c.K A H xs ds) : Gv c M A H (Itl c.K a) (ds.map D.py) :=
  ⟨fun H' i k hi => by
    rw [List.length_map, ← t.len] at hi
    exact ⟨xs, xs[i], st H' k, by simp [hi]⟩, fun H' i k hi => by
    rw [List.length_map, ← t.len] at hi
    exact ⟨xs, st H' k, hi⟩, fun H' i x H'' k hi ⟨e1, y⟩ => by
    subst e1
    have hx := y xs (st _ k)
    obtain ⟨d, h1, h2⟩ := t.got hx
    exact ⟨.py d, getm h1, .inl rfl, fun B w _ _ => Da.to (k.mono hM) w h2⟩⟩
theorem wi_list {sl : List Slo} {nn : Nat} (hK : K = c.K) (h : Wp c tl ⟨sl, nn⟩ fun d n => LsI m d fun ds => Θ (ds.map D.py) n) : Wi c m (iList K tl) ⟨sl, nn⟩ Θ := ⟨fun σ A H o R k => by
  subst hK
  refine h.run σ A H o _ fun v H1 d n p e1 g1 x => ?_
  match d, p, x with
  | .py (.list ds), p, x =>
    have x0 : Da c.K A H1 v (.list ds) := x
    cases x0 with
    | lst na r t => exact ⟨_, rfl, ⟨_, .inl r⟩, k _ H1 _ n p e1 g1 (gv_list (fun a z => Mm.sub o a z) (fun H' kk => .inl ((kk.mono fun a z => Mm.sub o a z).rd na r)) t)⟩
    | lstK r t => exact ⟨_, rfl, ⟨_, r H1⟩, k _ H1 _ n p e1 g1 (gv_list (fun a z => Mm.sub o a z) (fun H' _ => r H') t)⟩
  | .mine (.lst ds), ⟨hm, p⟩, x =>
    obtain ⟨a, rfl, nS, _, xs, r, t⟩ := x
    refine ⟨a, rfl, ⟨xs, SqL.of r⟩, k _ H1 _ n p e1 g1 (gv_list (fun a z => Mm.sub o a z) (fun H' kk => SqL.of (kk a _ (fun z => ?_) r)) t)⟩
    rcases z with z | z
    · exact nS (c.hk a z)
    · rw [hm] at z; exact Bool.false_ne_true z.1⟩
theorem wi_tup {sl : List Slo} {nn : Nat} (hK : K = c.K) (h : Wp c tl ⟨sl, nn⟩ fun d n => Tp d fun ds => Θ (ds.map D.py) n) : Wi c m (iTup K tl) ⟨sl, nn⟩ Θ := ⟨fun σ A H o R k => by
  subst hK
  refine h.run σ A H o _ fun v H1 d n p e1 g1 x => ?_
  match d, p, x with
  | .py (.tuple ds), p, x =>
    have gv : ∀ {a : Addr} {xs : List V}, (∀ H', Kept (Mm c m σ ⟨sl, nn⟩) H1 H' → SqT c.K H' a xs) → DaL c.K A H1 xs ds → Gv c (Mm c m σ ⟨sl, nn⟩) A H1 (Itt c.K a) (ds.map D.py) := fun {a xs} st t =>
      ⟨fun H' i kk hi => by
        rw [List.length_map, ← t.len] at hi
        exact ⟨xs, xs[i], st H' kk, by simp [hi]⟩, fun H' i kk hi => by
        rw [List.length_map, ← t.len] at hi
        exact ⟨xs, st H' kk, hi⟩, fun H' i x H'' kk hi ⟨e1, y⟩ => by
        subst e1
        have hx := y xs (st _ kk)
        obtain ⟨d, h1, h2⟩ := t.got hx
        exact ⟨.py d, getm h1, .inl rfl, fun B w _ _ => Da.to (kk.mono fun a z => Mm.sub o a z) w h2⟩⟩
    have x0 : Da c.K A H1 v (.tuple ds) := x
    cases x0 with
    | tup na r t => exact ⟨_, rfl, ⟨_, .inl r⟩, k _ H1 _ n p e1 g1 (gv (fun H' kk => .inl ((kk.mono fun a z => Mm.sub o a z).rd na r)) t)⟩
    | tupK r t => exact ⟨_, rfl, ⟨_, r H1⟩, k _ H1 _ n p e1 g1 (gv (fun H' _ => r H') t)⟩⟩
/-- the numbers lo, lo + st, .. -/
def seqI (lo st : Int) (n : Nat) : List D := (List.range n).map fun (i : Nat) => D.py (.int (lo + (i : Int) * st))
theorem seqI_get {lo st : Int} {n i : Nat} (h : i < n) : (seqI lo st n)[i]? = some (D.py (.int (lo + (i : Int) * st))) := by
  unfold seqI
  rw [List.getElem?_map, List.getElem?_range h] <;> rfl
theorem seqI_len {lo st : Int} {n : Nat} : (seqI lo st n).length = n := by
  unfold seqI
  rw [List.length_map, List.length_range]
theorem seqI_of {lo st : Int} {n i : Nat} {d : D} (h : (seqI lo st n)[i]? = some d) : i < n ∧ d = D.py (.int (lo + (i : Int) * st)) := by
  have hi : i < n := by
    have := (List.getElem?_eq_some_iff.mp h).1
    rw [seqI_len] at this
    exact this
  rw [seqI_get hi] at h
  exact ⟨hi, (Option.some.inj h).symm⟩
theorem gv_rng {M A : Addr → Prop} {H : Hp} {lo : Int} {n : Nat} : Gv c M A H (Itr lo n) (seqI lo 1 n) :=
  ⟨fun H' i k hi => by rw [seqI_len] at hi; exact hi, fun H' i k hi => by rw [seqI_len] at hi; exact hi, fun H' i x H'' k hi ⟨e1, y⟩ => by
    subst e1 y
    rw [seqI_len] at hi
    refine ⟨_, seqI_get hi, .inl rfl, fun B _ _ _ => ?_⟩
    have q : lo + (i : Int) * 1 = lo + (i : Int) := by rw [Int.mul_one]
    rw [q]
    exact .int _⟩
theorem gv_rngc {M A : Addr → Prop} {H : Hp} {lo st : Int} {n : Nat} : Gv c M A H (Itc lo st n) (seqI lo st n) :=
  ⟨fun H' i k hi => by rw [seqI_len] at hi; exact hi, fun H' i k hi => by rw [seqI_len] at hi; exact hi, fun H' i x H'' k hi ⟨e1, y⟩ => by
    subst e1 y
    rw [seqI_len] at hi
    exact ⟨_, seqI_get hi, .inl rfl, fun B _ _ _ => .int _⟩⟩
theorem wi_rng1 {sl : List Slo} {nn : Nat} (h : Wa c ta ⟨sl, nn⟩ fun ds n => One ds fun d => Id1 d fun j => -(2 ^ 62) ≤ j ∧ j < 2 ^ 62 ∧ Θ (seqI 0 1 j.toNat) n) : Wi c m (iRng1 ta) ⟨sl, nn⟩ Θ := ⟨fun σ A H o R k => by
  refine h.run σ A H o _ fun vs H1 ds n p e1 g1 x => ?_
  obtain ⟨v, d, rfl, x, p⟩ := one_of p x
  obtain ⟨j, rfl, h1, h2, q⟩ := id1 p x
  exact ⟨j, rfl, h1, h2, k _ H1 _ n q e1 g1 gv_rng⟩⟩
def Id3 (ds : List D) (k : Int → Int → Int → Prop) : Prop := match ds with
  | [.py (.int i), .py (.int j), .py (.int l)] => k i j l
  | _ => False
theorem id3 {A : Addr → Prop} {H : Hp} {vs : List V} {ds : List D} {k : Int → Int → Int → Prop} (p : Id3 ds k) (x : DXs c A H vs ds) : ∃ i j l, vs = [.int i, .int j, .int l] ∧ k i j l := by
  match vs, ds, p, x with
  | [v, w, u], [.py (.int i), .py (.int j), .py (.int l)], p, ⟨h1, h2, h3, _⟩ =>
    cases Da.int_eq h1
    cases Da.int_eq h2
    cases Da.int_eq h3
    exact ⟨i, j, l, rfl, p⟩
  | [], [.py (.int i), .py (.int j), .py (.int l)], p, h => exact h.elim
  | [v], [.py (.int i), .py (.int j), .py (.int l)], p, ⟨_, h⟩ => exact h.elim
  | [v, w], [.py (.int i), .py (.int j), .py (.int l)], p, ⟨_, _, h⟩ => exact h.elim
  | _ :: _ :: _ :: _ :: _, [.py (.int i), .py (.int j), .py (.int l)], p, ⟨_, _, _, h⟩ => exact h.elim
theorem wi_rng3 {sl : List Slo} {nn : Nat} (h : Wa c ta ⟨sl, nn⟩ fun ds n => Id3 ds fun i j l => ∃ z, RgC i j l z ∧ Θ (seqI i l z) n) : Wi c m (iRng3 ta) ⟨sl, nn⟩ Θ := ⟨fun σ A H o R k => by
  refine h.run σ A H o _ fun vs H1 ds n p e1 g1 x => ?_
  obtain ⟨i, j, l, rfl, z, hz, q⟩ := id3 p x
  exact ⟨i, j, l, z, rfl, hz, k _ H1 _ n q e1 g1 gv_rngc⟩⟩
end
/-! ## loops -/
section
variable {c : Cy} {e : En} {P : Po} {tb : TS} {g : TG} {wi : TI} {tc : TT}
theorem ws_for {sl : List Slo} {nn : Nat} (js : List Nat) (h : Wi c true wi ⟨sl, nn⟩ fun its n => ∃ I : Nat → En → Prop, I 0 ⟨sl, n⟩ ∧ (∀ i d e1, its[i]? = some d → I i e1 → Wg c g js d e1 fun e2 => Ws c tb e2 ⟨I (i + 1), P.rt, P.nx, I (i + 1)⟩) ∧ ∀ e1, I its.length e1 → P.nx e1) : Ws c (tFor wi g tb) ⟨sl, nn⟩ P := ⟨fun σ A H o Dn nx rt bk ct => by
  refine h.run σ A H o _ fun J H1 its n p e1 g1 gv => ?_
  obtain ⟨I, i0, is, iz⟩ := p
  have o1 := o.keep e1 g1
  refine ⟨fun i m σ' H' => m = its.length - i ∧ i ≤ its.length ∧ ∃ A' e', I i e' ∧ Kp c σ ⟨sl, nn⟩ H H' ∧ Kp c σ ⟨sl, nn⟩ H1 H' ∧ (∀ a, ownA σ' e'.sl a → ownA σ sl a ∨ H a = none) ∧ (∀ a, ownA σ' e'.sl a → ownA σ sl a ∨ H1 a = none) ∧ Ok c A' H' σ' e', ⟨its.length, rfl, Nat.zero_le _, A, ⟨sl, n⟩, i0, Kp.ek e1, Kept.refl, fun a z => .inl z, fun a z => .inl z, o1⟩, ?_⟩
  rintro i m σ' H' ⟨rfl, hi, A', e', hI, kp, kp1, w, w1, o'⟩
  have hM : Kept (Mm c true σ ⟨sl, nn⟩) H1 H' := kp1.mono fun a z => z.elim .inl fun q => .inr ⟨rfl, q⟩
  by_cases hl : i < its.length
  · right
    refine ⟨gv.go H' i hM hl, fun σ2 H2 => i + 1 ≤ its.length ∧ ∃ A2 e2, I (i + 1) e2 ∧ Kp c σ ⟨sl, nn⟩ H H2 ∧ Kp c σ ⟨sl, nn⟩ H1 H2 ∧ (∀ a, ownA σ2 e2.sl a → ownA σ sl a ∨ H a = none) ∧ (∀ a, ownA σ2 e2.sl a → ownA σ sl a ∨ H1 a = none) ∧ Ok c A2 H2 σ2 e2,
      fun σ2 H2 ⟨q1, q2⟩ => ⟨its.length - (i + 1), by omega, rfl, q1, q2⟩, fun x H'' y => ?_⟩
    obtain ⟨d, hd, st, dx⟩ := gv.yld H' i x H'' hM hl y
    have oB : Ok c (Av c σ' e'.sl) H' σ' e' := o'.less o'.sub fun a z => z
    have ks : Ek c H' H'' := st.kept
    have gs : Good c e'.n H'' := st.good o'.good
    have o2 : Ok c (Av c σ' e'.sl) H'' σ' e' := oB.keep ks gs
    have dd := dx (Av c σ' e'.sl) (fun a z => z.elim (fun z => .inl (o.sub a (.inl z))) fun z => (w1 a z).elim (fun q => .inl (o.sub a (.inr q))) .inr) oB.al fun a z => .inl z
    refine (is i d e' hd hI).run σ' _ H'' x o2 dd _ fun σ2 e2 ws o3 _ wo => ?_
    have kp2 : Kp c σ ⟨sl, nn⟩ H H'' := fun a u nn q => st.kept (S := fun _ => False) a u (fun z => z) (kp a u nn q)
    have kp3 : Kp c σ ⟨sl, nn⟩ H1 H'' := fun a u nn q => st.kept (S := fun _ => False) a u (fun z => z) (kp1 a u nn q)
    have w2 : ∀ a, ownA σ2 e2.sl a → ownA σ sl a ∨ H a = none := fun a z => w a (wo a z)
    have w3 : ∀ a, ownA σ2 e2.sl a → ownA σ sl a ∨ H1 a = none := fun a z => w1 a (wo a z)
    have trn : ∀ {σ3 : St} {A3 : Addr → Prop} {H3 : Hp} {e3 : En}, I (i + 1) e3 → Kp c σ2 e2 H'' H3 → (∀ a, ownA σ3 e3.sl a → ownA σ2 e2.sl a ∨ H'' a = none) → Ok c A3 H3 σ3 e3 →
        i + 1 ≤ its.length ∧ ∃ A2 e2, I (i + 1) e2 ∧ Kp c σ ⟨sl, nn⟩ H H3 ∧ Kp c σ ⟨sl, nn⟩ H1 H3 ∧ (∀ a, ownA σ3 e2.sl a → ownA σ sl a ∨ H a = none) ∧ (∀ a, ownA σ3 e2.sl a → ownA σ sl a ∨ H1 a = none) ∧ Ok c A2 H3 σ3 e2 := fun {σ3 A3 H3 e3} q a w4 o4 =>
      ⟨hl, A3, e3, q, kp2.trans w2 a, kp3.trans w3 a, fun x z => (w4 x z).elim (w2 x) fun y => own_back (e1 := e') o gs kp2 (.inr y), fun x z => (w4 x z).elim (w3 x) fun y => own_back (e1 := e') (o.keep e1 g1) gs kp3 (.inr y), o4⟩
    exact ws.run σ2 _ H'' o3 _ (fun σ3 A3 H3 e3 q a w4 o4 => trn q a w4 o4) (rt.after kp2 w2) (nx.after o kp2 w2 o3) (fun σ3 A3 H3 e3 q a w4 o4 => trn q a w4 o4)
  · left
    have q : i = its.length := by omega
    subst q
    exact ⟨gv.stop H' _ hM (Nat.le_refl _), nx σ' A' H' e' (iz e' hI) kp w o'⟩⟩
theorem ws_while {sl : List Slo} {nn : Nat} (I : Nat → En → Prop) (h0 : ∃ m, I m ⟨sl, nn⟩) (h : ∀ m e1, I m e1 → Wt c tc e1 fun b n => (b = true → Ws c tb ⟨e1.sl, n⟩ ⟨fun e2 => ∃ m', m' < m ∧ I m' e2, P.rt, P.nx, fun e2 => ∃ m', m' < m ∧ I m' e2⟩) ∧ (b = false → P.nx ⟨e1.sl, n⟩)) : Ws c (tWhile tc tb) ⟨sl, nn⟩ P := ⟨fun σ A H o Dn nx rt bk ct => by
  obtain ⟨m0, i0⟩ := h0
  refine ⟨fun m σ' H' => ∃ A' e', I m e' ∧ Kp c σ ⟨sl, nn⟩ H H' ∧ (∀ a, ownA σ' e'.sl a → ownA σ sl a ∨ H a = none) ∧ Ok c A' H' σ' e', ⟨m0, A, ⟨sl, nn⟩, i0, Kept.refl, fun a z => .inl z, o⟩, ?_⟩
  rintro m σ' H' ⟨A', e', hI, kp, w, o'⟩
  refine (h m e' hI).run σ' A' H' o' _ fun b H1 n p e1 g1 => ?_
  have o1 := o'.keep e1 g1
  have kp1 : Kp c σ ⟨sl, nn⟩ H H1 := kp.trans w (Kp.ek e1)
  have nx1 := nx.after (σ1 := σ') (e1 := ⟨e'.sl, n⟩) o kp1 w o1
  have rt1 := rt.after (σ1 := σ') (e1 := ⟨e'.sl, n⟩) kp1 w
  cases b with
  | false => exact iteF (nx1 σ' A' H1 ⟨e'.sl, n⟩ (p.2 rfl) Kept.refl (fun a z => .inl z) o1)
  | true =>
    refine iteT ⟨fun σ2 H2 => ∃ m', m' < m ∧ ∃ A2 e2, I m' e2 ∧ Kp c σ ⟨sl, nn⟩ H H2 ∧ (∀ a, ownA σ2 e2.sl a → ownA σ sl a ∨ H a = none) ∧ Ok c A2 H2 σ2 e2, fun σ2 H2 ⟨m', l, q⟩ => ⟨m', l, q⟩, ?_⟩
    have back : ∀ (σ3 : St) (A3 : Addr → Prop) (H3 : Hp) (e3 : En), (∃ m', m' < m ∧ I m' e3) → Kp c σ' ⟨e'.sl, n⟩ H1 H3 → (∀ a, ownA σ3 e3.sl a → ownA σ' e'.sl a ∨ H1 a = none) → Ok c A3 H3 σ3 e3 →
        ∃ m', m' < m ∧ ∃ A2 e2, I m' e2 ∧ Kp c σ ⟨sl, nn⟩ H H3 ∧ (∀ a, ownA σ3 e2.sl a → ownA σ sl a ∨ H a = none) ∧ Ok c A2 H3 σ3 e2 := fun σ3 A3 H3 e3 ⟨m', l, q⟩ a w4 o4 =>
      ⟨m', l, A3, e3, q, kp1.trans w a, fun x z => (w4 x z).elim (w x) fun y => own_back (e1 := ⟨e'.sl, n⟩) o g1 kp1 (.inr y), o4⟩
    exact (p.1 rfl).run σ' A' H1 o1 _ back rt1 nx1 back⟩
end
/-! ## comprehensions -/
def wipeE (e : List Slo) : List Nat → List Slo
  | [] => e
  | v :: vs => (wipeE e vs).set v .emp
section
variable {c : Cy} {e : En} {A : Addr → Prop} {H : Hp} {σ : St}
theorem wipeE_len : ∀ {vs : List Nat}, (wipeE e.sl vs).length = e.sl.length
  | [] => rfl
  | v :: vs => by show ((wipeE e.sl vs).set v .emp).length = _; rw [List.length_set, wipeE_len]
theorem wipe_own : ∀ {vs : List Nat} {a : Addr}, ownA (wipe σ vs) (wipeE e.sl vs) a → ownA σ e.sl a
  | [], _, h => h
  | v :: vs, a, h => wipe_own (vs := vs) (own_emp (e := ⟨wipeE e.sl vs, 0⟩) h)
theorem Ok.wipes (o : Ok c A H σ e) : ∀ {vs : List Nat}, (∀ v ∈ vs, v < e.sl.length) → Ok c A H (wipe σ vs) ⟨wipeE e.sl vs, e.n⟩
  | [], _ => o
  | v :: vs, h => Ok.wipe1 (e := ⟨wipeE e.sl vs, e.n⟩) (Ok.wipes o fun x z => h x (List.mem_cons_of_mem _ z)) (by show v < (wipeE e.sl vs).length; rw [wipeE_len]; exact h v List.mem_cons_self)
theorem wipe_get : ∀ {vs : List Nat} {i : Nat}, (wipe σ vs)[i]? = if i ∈ vs ∧ i < σ.length then some none else σ[i]?
  | [], i => by simp [wipe]
  | v :: vs, i => by
    have lw : ∀ us : List Nat, (wipe σ us).length = σ.length := fun us => by
      induction us with
      | nil => rfl
      | cons u us ih => show ((wipe σ us).set u none).length = _; rw [List.length_set, ih]
    show ((wipe σ vs).set v none)[i]? = _
    rw [List.getElem?_set]
    by_cases q : v = i
    · subst q
      rw [if_pos rfl, lw]
      by_cases l : v < σ.length
      · rw [if_pos l, if_pos ⟨List.mem_cons_self, l⟩]
      · rw [if_neg l, if_neg fun z => l z.2, List.getElem?_eq_none (by omega)]
    · rw [if_neg q, wipe_get]
      simp [List.mem_cons, Ne.symm q]
theorem wipe_apt {σ2 : St} {vs : List Nat} (h : Apt vs (wipe σ vs) σ2) : wipe σ2 vs = wipe σ vs := by
  have lw : ∀ (τ : St) (us : List Nat), (wipe τ us).length = τ.length := fun τ us => by
    induction us with
    | nil => rfl
    | cons u us ih => show ((wipe τ us).set u none).length = _; rw [List.length_set, ih]
  have hl : σ2.length = σ.length := by rw [h.1, lw]
  refine List.ext_getElem? fun i => ?_
  rw [wipe_get, wipe_get]
  by_cases q : i ∈ vs ∧ i < σ.length
  · rw [if_pos q, if_pos (by rw [hl]; exact q)]
  · rw [if_neg q, if_neg (by rw [hl]; exact q)]
    by_cases z : i ∈ vs
    · have l : ¬ i < σ.length := fun l => q ⟨z, l⟩
      rw [List.getElem?_eq_none (by omega), List.getElem?_eq_none (by omega)]
    · rw [h.2 i z, wipe_get, if_neg q]
def Py1 (d : D) (k : PyData → Prop) : Prop := match d with
  | .py p => k p
  | _ => False
theorem wn_lc {sl : List Slo} {nn : Nat} {wi : TI} {g : TG} {tt : TT} {te : TE} {vs : List Nat} {Ψ : Ow → Nat → Prop} (hv : ∀ v ∈ vs, v < sl.length)
    (h : Wi c false wi ⟨sl, nn⟩ fun its n => ∃ I : Nat → List PyData → Nat → Prop, I 0 [] n ∧ its.length < 10000000 ∧
      (∀ i acc m d, its[i]? = some d → I i acc m → Wg c g vs d ⟨wipeE sl vs, m⟩ fun e2 => Wt c tt e2 fun b m2 => (b = true → Wp c te ⟨e2.sl, m2⟩ fun d' m3 => Py1 d' fun p => I (i + 1) (acc ++ [p]) m3) ∧ (b = false → I (i + 1) acc m2)) ∧
      ∀ acc m, I its.length acc m → Ψ (.lst acc) m) : Wn c (tLc wi g tt te vs) ⟨sl, nn⟩ Ψ := ⟨fun σ A H o Q k => by
  refine h.run σ A H o _ fun J H1 its n p e1 g1 gv D hD => ?_
  obtain ⟨I, i0, il, is, iz⟩ := p
  have o1 := o.keep e1 g1
  have oD : ∀ (m : Nat), Good c m H1 → Ok c (fun a => A a ∨ a = D) (upd H1 D (.lst [])) (wipe σ vs) ⟨wipeE sl vs, m⟩ := fun m gm => by
    have ow := (o1.keep (n := m) Ek.refl gm).wipes (vs := vs) hv
    refine ⟨ow.len, gm.new hD, fun a z => .inl (ow.sub a z), fun a z => ?_, fun i d z => ?_, fun i ds z => ?_, ow.sep⟩
    · by_cases q : a = D
      · rw [q, upd_same]; exact fun w => nomatch w
      · rw [upd_ne q]; exact ow.al a (z.elim id fun w => absurd w q)
    · obtain ⟨nm, v, h1, h2⟩ := ow.val i d z
      exact ⟨nm, v, h1, (h2.apart hD).keep (Ek.new hD) fun a w => .inl (o.k a w)⟩
    · obtain ⟨b, h1, h3, h4⟩ := ow.own i ds z
      exact ⟨b, h1, (h3.apart hD).keep (Ek.kept (Ek.new hD) fun a w => .inl (o.k a w)) fun u r => by rw [upd_ne (ne_of_none r hD)]; exact r, h4⟩
  refine ⟨fun i m H' => m = its.length - i ∧ i ≤ its.length ∧ ∃ acc xs nn, I i acc nn ∧ acc.length ≤ i ∧ H' D = some (.lst xs) ∧ DaL c.K (fun a => A a ∨ a = D) H' xs acc ∧ Ok c (fun a => A a ∨ a = D) H' (wipe σ vs) ⟨wipeE sl vs, nn⟩ ∧ Ek c H1 H' ∧ Good c nn H',
    ⟨its.length, rfl, Nat.zero_le _, [], [], n, i0, Nat.le_refl _, upd_same, .nil, oD n g1, Ek.new hD, g1.new hD⟩, ?_⟩
  rintro i m H' ⟨rfl, hi, acc, xs, nn, hI, hac, hDx, t, o', ek, gn⟩
  have hM : Kept (Mm c false σ ⟨sl, nn⟩) H1 H' := ek.mono fun a z => .inl z
  by_cases hl : i < its.length
  · right
    refine ⟨gv.go H' i hM hl, fun H2 => i + 1 ≤ its.length ∧ ∃ acc xs nn, I (i + 1) acc nn ∧ acc.length ≤ i + 1 ∧ H2 D = some (.lst xs) ∧ DaL c.K (fun a => A a ∨ a = D) H2 xs acc ∧ Ok c (fun a => A a ∨ a = D) H2 (wipe σ vs) ⟨wipeE sl vs, nn⟩ ∧ Ek c H1 H2 ∧ Good c nn H2,
      fun H2 ⟨q1, q2⟩ => ⟨its.length - (i + 1), by omega, rfl, q1, q2⟩, fun x H'' y => ?_⟩
    obtain ⟨d, hd, st, dx⟩ := gv.yld H' i x H'' hM hl y
    have ks : Ek c H' H'' := st.kept
    have gs : Good c nn H'' := st.good gn
    have o2 := o'.keep ks gs
    have dd := dx (fun a => A a ∨ a = D) (fun a z => z.elim .inl fun q => .inr (by rw [q]; exact hD)) o'.al fun a z => .inl (o.sub a (.inl z))
    refine (is i acc nn d hd hI).run _ _ H'' x o2 dd _ fun σ2 e2 wt o3 ap wo => ?_
    refine ⟨wipe_apt ap, wt.run σ2 _ H'' o3 _ fun b H3 m2 p2 e3 g3 => ?_⟩
    have o4 := o3.keep e3 g3
    have nD : c.k ≠ some D := fun z => o1.al D (o.k D z) hD
    have d3 : H3 D = some (.lst xs) := e3 D _ nD (ks D _ nD hDx)
    have back : ∀ {H4 : Hp} {m3 : Nat}, Ek c H'' H4 → Good c m3 H4 → Ok c (fun a => A a ∨ a = D) H4 (wipe σ vs) ⟨wipeE sl vs, m3⟩ := fun {H4 m3} ee gg => (o2.keep ee gg)
    cases b with
    | false =>
      refine iteF ⟨hl, acc, xs, m2, p2.2 rfl, by omega, d3, (t.keep (Ek.kept ks o'.k)).keep (Ek.kept e3 o'.k), back e3 g3, (ek.trans ks).trans e3, g3⟩
    | true =>
      refine iteT ((p2.1 rfl).run σ2 _ H3 o4 _ fun v H4 d' m3 p3 e4 g4 xv => ?_)
      match d', p3, xv with
      | .py pp, p3, xv =>
        have d4 : H4 D = some (.lst xs) := e4 D _ nD d3
        have tx : DaL c.K (fun a => A a ∨ a = D) H4 xs acc := ((t.keep (Ek.kept ks o'.k)).keep (Ek.kept e3 o'.k)).keep (Ek.kept e4 o'.k)
        have kA : Kept (fun a => A a ∨ a = D) H4 (upd H4 D (.lst (xs ++ [v]))) := fun a u nn q => by rw [upd_ne fun z => nn (.inr z)]; exact q
        have o5 := back (e3.trans e4) g4
        have g5 : Good c m3 (upd H4 D (.lst (xs ++ [v]))) := ⟨fun b z => by
          by_cases q : b = D
          · rw [q, upd_same]; exact fun w => nomatch w
          · rw [upd_ne q]; exact g4.al b z, fun b z => by
          rw [upd_ne fun q => nD (by rw [← q]; exact z)]; exact g4.kl b z⟩
        refine ⟨xs, d4, by rw [tx.len]; exact Nat.lt_of_le_of_lt hac (Nat.lt_of_lt_of_le (Nat.lt_trans hl il) (by decide)), hl, acc ++ [pp], xs ++ [v], m3, p3, by rw [List.length_append]; show acc.length + 1 ≤ i + 1; omega, upd_same, (tx.append (.cons xv .nil)).keep kA, ?_, ?_, g5⟩
        · refine ⟨o5.len, g5, o5.sub, fun a z => ?_, fun j w z => ?_, fun j es z => ?_, o5.sep⟩
          · by_cases q : a = D
            · rw [q, upd_same]; exact fun w => nomatch w
            · rw [upd_ne q]; exact o5.al a z
          · obtain ⟨nm, y, y1, y2⟩ := o5.val j w z
            refine ⟨nm, y, y1, ?_⟩
            cases w with
            | py p => exact Da.keep kA y2
            | mine ds => cases nm
            | dct es =>
              obtain ⟨b, kvs, w1, w2, w3, w4⟩ := y2
              exact ⟨b, kvs, w1, w2, kA b _ w2 w3, w4.keep kA⟩
            | dcl es =>
              obtain ⟨b, kvs, od, w1, w2, w3, w4⟩ := y2
              exact ⟨b, kvs, od, w1, w2, kA b _ w2 w3, w4.keep kA⟩
            | brw es =>
              obtain ⟨b, ys, w1, w2, w3, w4, w5⟩ := y2
              exact ⟨b, ys, w1, w2, w3, by rw [upd_ne fun z => o1.good.al b w3 (by rw [z]; exact hD)]; exact w4, w5.keep kA⟩
            | ins C fs =>
              obtain ⟨b, dx, vs, w1, w2, w3, w4⟩ := y2
              exact ⟨b, dx, vs, w1, w2, kA b _ w2 w3, w4.keep kA⟩
            | atom w => exact y2
            | kln => exact y2
            | lsx =>
              obtain ⟨b, ys, w1, w2, w3⟩ := y2
              exact ⟨b, ys, w1, w2, kA b _ w2 w3⟩
          · obtain ⟨b, y1, y3, y4⟩ := o5.own j es z
            have ob : ownA σ sl b := wipe_own (e := ⟨sl, nn⟩) ⟨j, es, z, y1⟩
            exact ⟨b, y1, y3.keep kA fun u r => by rw [upd_ne fun q => o1.al D (by rw [← q]; exact o.sub b (.inr ob)) hD]; exact r, y4⟩
        · refine fun a u nn q => ?_
          rw [upd_ne (ne_of_none q hD)]
          exact e4 a u nn (e3 a u nn (ks a u nn (ek a u nn q)))
  · left
    have q : i = its.length := by omega
    subst q
    exact ⟨gv.stop H' _ hM (Nat.le_refl _), k D H' _ nn (iz acc nn hI) (e1.trans ek) gn (fresh_of e1 g1 hD) ⟨xs, hDx, t⟩⟩⟩
end
/-! ## calls -/
def arg : D → D
  | .mine (.lst ds) => .brw ds
  | d => d
def argOk : D → Bool
  | .mine (.lst _) => true
  | .mine _ => false
  | _ => true
def SpF (K : PySem.W.Frag) (pre : List D → Nat → Prop) (post : List D → Nat → D → Nat → Prop) : Sp := fun vs H Q _ =>
  ∃ (c : Cy) (n : Nat) (ds : List D), c.K = K ∧ Good c n H ∧ DXs c c.S0 H vs ds ∧ pre ds n ∧ ∀ (v : V) (H' : Hp) (d : D) (m : Nat), post ds n d m → Ek c H H' → Good c m H' → DX c c.S0 H' v d → Q v H'
section
variable {c : Cy} {e : En} {Φ : D → Nat → Prop}
/-- a callee's context: what the caller keeps apart -/
def Cy.at_ (c : Cy) (A : Addr → Prop) (h : ∀ a, c.k = some a → A a) : Cy := ⟨c.K, c.k, A, h⟩
theorem dx_arg {A : Addr → Prop} {H : Hp} {n : Nat} (a : At c A n H) {v : V} {d : D} (ok : argOk d = true) (x : DX c A H v d) : DX (c.at_ A a.k) A H v (arg d) := by
  cases d with
  | mine w =>
    cases w with
    | lst ds => obtain ⟨b, rfl, nS, hA, xs, r, t⟩ := x; exact ⟨b, xs, rfl, fun z => nS (c.hk b z), hA, r, t⟩
    | _ => cases ok
  | dct ds => exact x
  | dcl ds => exact x
  | py p => exact x
  | brw ds => obtain ⟨b, xs, rfl, nk, hS, r, t⟩ := x; exact ⟨b, xs, rfl, nk, a.s b hS, r, t⟩
  | ins C fs => exact x
  | atom w => exact x
  | kln => exact x
  | lsx => exact x
theorem dxs_arg {A : Addr → Prop} {H : Hp} {n : Nat} (a : At c A n H) : ∀ {vs : List V} {ds : List D}, ds.all argOk = true → DXs c A H vs ds → DXs (c.at_ A a.k) A H vs (ds.map arg)
  | [], [], _, _ => True.intro
  | v :: vs, d :: ds, k, ⟨h, t⟩ => by
    rw [List.all_cons, Bool.and_eq_true] at k
    exact ⟨dx_arg a k.1 h, dxs_arg a k.2 t⟩
  | [], _ :: _, _, h => h.elim
  | _ :: _, [], _, h => h.elim
/-- results that a caller may have -/
def outD : D → Bool
  | .mine _ => false
  | .brw _ => false
  | _ => true
theorem dx_out {A : Addr → Prop} {H : Hp} {h : ∀ a, c.k = some a → A a} {v : V} {d : D} (o : outD d = true) (x : DX (c.at_ A h) A H v d) : DX c A H v d := by
  cases d with
  | mine ds => cases o
  | brw ds => cases o
  | dct ds => exact x
  | dcl ds => exact x
  | py p => exact x
  | ins C fs => exact x
  | atom w => exact x
  | kln => exact x
  | lsx => exact x
theorem sp_run {K : PySem.W.Frag} {pre : List D → Nat → Prop} {post : List D → Nat → D → Nat → Prop} {A : Addr → Prop} {H : Hp} {n : Nat} {vs : List V} {ds : List D} {E : XK} {Q : VK} (hK : K = c.K) (a : At c A n H) (x : DXs c A H vs ds) (ka : ds.all argOk = true) (hp : pre (ds.map arg) n)
    (hq : ∀ d m, post (ds.map arg) n d m → outD d = true ∧ Φ d m) (k : ∀ v H2 d m, Φ d m → Ek c H H2 → Good c m H2 → DX c A H2 v d → Q v H2) : SpF K pre post vs H Q E := by
  subst hK
  exact ⟨c.at_ A a.k, n, ds.map arg, rfl, ⟨a.al, a.good.kl⟩, dxs_arg a ka x, hp, fun v H' d m q ek g y => k v H' d m (hq d m q).2 ek ⟨fun b z => g.al b (a.s b z), g.kl⟩ (dx_out (hq d m q).1 y)⟩
end
/-! ## defs -/
def Slo.of : List D → List Slo := List.map Slo.val
theorem start_ok {c : Cy} {H : Hp} {n : Nat} {vs : List V} {ds : List D} {N : List Str} (g : Good c n H) (x : DXs c c.S0 H vs ds) (nm : ds.all D.nm = true) : Ok c c.S0 H (L2.start N vs) ⟨Slo.of ds ++ List.replicate (N.length - ds.length) .emp, n⟩ := by
  have hl := x.len
  have noown : ∀ (i : Nat) (es : Ow), (Slo.of ds ++ List.replicate (N.length - ds.length) Slo.emp)[i]? ≠ some (Slo.own es) := fun i es z => by
    by_cases hi : i < ds.length
    · rw [List.getElem?_append_left (by unfold Slo.of; rw [List.length_map]; exact hi)] at z
      unfold Slo.of at z
      rw [List.getElem?_map, List.getElem?_eq_getElem hi] at z
      cases z
    · rw [List.getElem?_append_right (by unfold Slo.of; rw [List.length_map]; omega), List.getElem?_replicate] at z
      split at z <;> cases z
  refine ⟨?_, g, fun a z => ?_, g.al, fun i d z => ?_, fun i es z => absurd z (noown i es), fun i j es fs a z => absurd z (noown i es)⟩
  · unfold L2.start Slo.of
    simp only [List.length_append, List.length_map, List.length_replicate]
    rw [hl]
  · rcases z with z | ⟨i, es, z, _⟩
    · exact z
    · exact absurd z (noown i es)
  · by_cases hi : i < ds.length
    · have z' : (Slo.of ds)[i]? = some (Slo.val d) := by
        rw [← z]
        exact (List.getElem?_append_left (by unfold Slo.of; rw [List.length_map]; exact hi)).symm
      unfold Slo.of at z'
      rw [List.getElem?_map] at z'
      have hd : ds[i]? = some d := by
        cases q : ds[i]? with
        | none => rw [q] at z'; cases z'
        | some u => rw [q] at z'; cases z'; rfl
      have get : ∀ {ws : List V} {us : List D} {i : Nat} {d : D}, DXs c c.S0 H ws us → us[i]? = some d → ∃ v, ws[i]? = some v ∧ DX c c.S0 H v d := by
        intro ws
        induction ws with
        | nil =>
          intro us i d h q
          cases us with
          | nil => simp at q
          | cons _ _ => exact h.elim
        | cons w ws ih =>
          intro us i d h q
          cases us with
          | nil => exact h.elim
          | cons u us =>
            cases i with
            | zero =>
              simp at q
              subst q
              exact ⟨w, rfl, h.1⟩
            | succ i =>
              obtain ⟨v, h1, h2⟩ := ih h.2 (show us[i]? = some d by simpa using q)
              exact ⟨v, by simpa using h1, h2⟩
      obtain ⟨v, h1, h2⟩ := get x hd
      have hm : d.nm = true := List.all_eq_true.mp nm d (List.mem_of_getElem? hd)
      refine ⟨hm, v, ?_, h2⟩
      unfold L2.start
      rw [List.getElem?_append_left (by rw [List.length_map, hl]; exact hi), List.getElem?_map, h1] <;> rfl
    · have z' : (Slo.of ds ++ List.replicate (N.length - ds.length) Slo.emp)[i]? = some (Slo.val d) := z
      rw [List.getElem?_append_right (by unfold Slo.of; rw [List.length_map]; omega), List.getElem?_replicate] at z'
      split at z' <;> cases z'
section
variable {P : Program} {w : World} {K : PySem.W.Frag} {mg : Str → Option Value} {base : Heap}
/-- the reading of a body, told by data -/
theorem body_ok {N : List Str} {pre : List D → Nat → Prop} {post : List D → Nat → D → Nat → Prop} {t : TS} (hnm : ∀ ds n, pre ds n → ds.all D.nm = true)
    (rd : ∀ (c : Cy) (n : Nat) (ds : List D), c.K = K → pre ds n → Ws c t ⟨Slo.of ds ++ List.replicate (N.length - ds.length) .emp, n⟩ ⟨fun e => post ds n (.py .none) e.n, fun d m => post ds n d m, fun _ => False, fun _ => False⟩)
    (vs : List V) (H : Hp) (Q : VK) (E : XK) (h : SpF K pre post vs H Q E) : t { nx := fun _ H' => Q .non H', rt := Q } (L2.start N vs) H := by
  obtain ⟨c, n, ds, hK, g, x, hp, k⟩ := h
  have o := start_ok (N := N) g x (hnm ds n hp)
  have noown : ∀ a, ¬ ownA (L2.start N vs) (Slo.of ds ++ List.replicate (N.length - ds.length) Slo.emp) a := fun a ⟨i, es, z, _⟩ => by
    by_cases hi : i < ds.length
    · rw [List.getElem?_append_left (by unfold Slo.of; rw [List.length_map]; exact hi)] at z
      unfold Slo.of at z
      rw [List.getElem?_map, List.getElem?_eq_getElem hi] at z
      cases z
    · rw [List.getElem?_append_right (by unfold Slo.of; rw [List.length_map]; omega), List.getElem?_replicate] at z
      split at z <;> cases z
  refine (rd c n ds hK hp).run _ _ H o _ (fun σ' A' H' e' q kp _ o' => ?_) (fun v H' d m q kp g' x' => ?_) (fun _ _ _ _ q _ _ _ => q.elim) (fun _ _ _ _ q _ _ _ => q.elim)
  · exact k .non H' _ _ q (fun a u nn z => kp a u (fun y => y.elim nn fun y => noown a y) z) o'.good .non
  · exact k v H' d m q (fun a u nn z => kp a u (fun y => y.elim nn fun y => noown a y) z) g' x'
theorem sp_len {pre : List D → Nat → Prop} {post : List D → Nat → D → Nat → Prop} {m : Nat} (hl : ∀ ds n, pre ds n → ds.length = m) (vs : List V) (H : Hp) (Q : VK) (E : XK) (h : SpF K pre post vs H Q E) : vs.length = m := by
  obtain ⟨c, n, ds, hK, g, x, hp, k⟩ := h
  rw [x.len, hl ds n hp]
end
end Wx

/-! ### part Wt -/
set_option Elab.async false
set_option linter.all false
set_option maxRecDepth 100000
set_option maxHeartbeats 1000000
set_option autoImplicit false
/-! Helpers of the derivations; the rules once more, in the shape that a tactic applies. -/
namespace Wx
open PySem L2
/-! ## a def that stands at a global -/
structure Std (P : Program) (w : World) (K : PySem.W.Frag) (mg : Str → Option Value) (base : Heap) (k : Nat) (x : Str) (ps : List Str) (sp : Sp) : Prop where
  ex : ∃ f fd, FnOk P w K mg base CX0 k f fd ps sp ∧ mg x = some (.ref f) ∧ PySem.W.keepIn K (.ref f) = true ∧ Binds K fd ps []
def GInt (mg : Str → Option Value) (x : Str) (i : Int) : Prop := ∃ t, mg x = some (.int i t)
section
variable {X : Cx} {k : Nat} {x : Str} {ps : List Str} {sp : Sp} {e : Expr} {es : List Expr} {p pos : Pos} {t : TA}
theorem pe_std (F : Std X.prog X.w X.K X.mg X.base k x ps sp) (hr : Room k X.A) (hg : Gl X x) (ha : PA X (e :: es) t) (hdb : (x == ("__debug__" : Str)) = false := by decide)
    (he : starEach (e :: es) X.env = (false, eval e X.env) :: starEach es X.env := by rfl) (hpl : (backTo pos (starEach es X.env)).any (·.1) = false := by rfl) : PE X (.Call (.Name x p) (e :: es) [] pos) (tCall sp [] E0 t) := by
  obtain ⟨f, fd, h1, h2, h3, h4⟩ := F.ex
  exact pe_call h1 hr hg h2 h3 h4 .nil pass0 ha hdb he hpl
theorem pe_gint {i : Int} (h : GInt X.mg x i) (hg : Gl X x) (hd : (x == ("__debug__" : Str)) = false := by decide) : PE X (.Name x pos) (tC (.int i)) := by
  obtain ⟨t, h⟩ := h
  exact pe_glob hg h ⟨t, rfl⟩ hd
theorem room65 {A : Around} (hr : Room k A) : A.units + 65 < cLine := by have := hr.un; omega
theorem room64 {A : Around} (hr : Room k A) : A.units + 64 < cLine := by have := hr.un; omega
def rPOW : R2 := rI (fun i j => 2 ≤ i ∧ 1 ≤ j ∧ i < 2 ^ 600 ∧ j ≤ 60) fun i j => .int (i ^ j.toNat)
theorem opPOW : OpR X (binaryOp .Pow) rPOW := opI fun i j a b s H E hc q => by
  obtain ⟨h1, h2, h3, h4⟩ := hc
  have q1 : ¬(j == 0) = true := by rw [beq_iff_eq]; omega
  have q2 : ¬(i == 0 || i == 1) = true := by rw [Bool.or_eq_true, beq_iff_eq, beq_iff_eq]; omega
  have q3 : ¬(i == -1) = true := by rw [beq_iff_eq]; omega
  have b0 : Builtin.Int.intBits i ≤ 600 := by
    unfold Builtin.Int.intBits
    split
    · omega
    · have : i.natAbs.log2 < 600 := PySem.Flt.log2_lt_of (by decide) (by omega)
      omega
  refine AutoIntOps.pow_4 (by omega) q1 q2 q3 (fun z => ?_) q
  unfold Builtin.Int.intTooBig at z
  have z2 := of_decide_eq_true z
  have e : bitsLine = 134217728 := by decide
  rw [e] at z2
  have m1 : ((Builtin.Int.intBits i : Nat) : Int) * j ≤ 600 * 60 := Int.mul_le_mul (by omega) h4 (by omega) (by omega)
  omega
end

def rISN : R2 := fun x y H Q => y = .non ∧ Q (.bl (decide (x = .non))) H
def rNTN : R2 := fun x y H Q => y = .non ∧ Q (.bl (!decide (x = .non))) H
section
variable {X : Cx}
theorem opISN : OpR X (compareOp .Is) rISN := op_isN
theorem opNTN : OpR X (compareOp .IsNot) rNTN := op_notN
end
/-! ## the rules, the written part told -/
section
variable {X : Cx} {K : PySem.W.Frag}
theorem ixK (h : X.K = K) : IxR X (rIx K) := h ▸ ix_seq
theorem slK (h : X.K = K) : SlR X (rSL K) := h ▸ slSL
theorem addK (h : X.K = K) : OpR X (binaryOp .Add) (rADD K) := h ▸ opADD
theorem inK (h : X.K = K) (hu : X.A.units + 65 < cLine) : OpR X (compareOp .In) (rIN K) := h ▸ opIN hu
theorem niK (h : X.K = K) (hu : X.A.units + 65 < cLine) : OpR X (compareOp .NotIn) (rNI K) := h ▸ opNI hu
theorem eqK (h : X.K = K) (hu : X.A.units + 64 < cLine) : OpR X (compareOp .Eq) (rEqD K) := h ▸ op_eqD hu
theorem neK (h : X.K = K) (hu : X.A.units + 64 < cLine) : OpR X (compareOp .NotEq) (rNeD K) := h ▸ op_neD hu
theorem lenK (h : X.K = K) : CallR X (.builtin "len") (rLEN K) := h ▸ callLEN
theorem isiK (h : X.K = K) : CallR X (.builtin "isinstance") (rIsi K) := h ▸ call_isi
theorem allK (h : X.K = K) (hc : X.calm = true) : CallR X (.builtin "all") (rAll K) := h ▸ cr_all hc
theorem tupK (h : X.K = K) : CallR X (.type "tuple") (rTUPOF K) := h ▸ callTUPOF
theorem truK {a : Expr} {ta : TE} (h : X.K = K) (ha : PE X a ta) (he : ∀ whole, isTrue a X.env whole = (do let v ← whole; standAt a.pos; holding [v] (truthy v))) : PT X a (fun σ H Q => ta σ H fun x H' => ∃ k, TruV K x H' k ∧ Q k H') := h ▸ pt_truth ha he
theorem gtupK {es : List Expr} {k : Nat} {t : TGs} {n : Nat} {pos : Pos} (e : X.K = K) (hc : X.calm = true) (h : PGs X es t) (hn : (assignEach es X.env).length = n := by rfl) (hst : (assignEach es X.env).findIdx? (·.1) = none := by rfl) : PG X (.Tuple es k pos) (gTup K n t) := e ▸ pg_tup hc h hn hst
theorem ilistK {tg l : Expr} {tl : TE} (h : X.K = K) (hl : PE X l tl) : PI X tg l (iList K tl) := h ▸ pi_list hl
theorem itupK {tg l : Expr} {tl : TE} (h : X.K = K) (hl : PE X l tl) : PI X tg l (iTup K tl) := h ▸ pi_tup hl
end
/-! ## marked stores -/
/-- x = a new object that is changed later -/
def tAsgO (te : TE) (g : TG) : TS := tAsg te g
section
variable {X : Cx}
theorem ps_setO {pos : Pos} {i : Nat} {x : Str} {e : Expr} {te : TE} {pos' : Pos} (hN : X.N.Nodup) (hi : X.N[i]? = some x) (hx : Loc X.env.scope x) (he : PE X e te) (hs : swapsWith e (some (.Name x pos')) pos.line X.env = pure false := by rfl) (hf : X.fn x = true ∨ X.env.scope.names.lookup x = some .local := by first | exact .inl rfl | exact .inr rfl | assumption) :
    PS X (.Assign [.Name x pos'] e pos) (tAsgO te (gName i)) := ps_set hN hi hx he hs hf
theorem ps_asO {st : Stmt} {te : TE} {g : TG} (h : PS X st (tAsg te g)) : PS X st (tAsgO te g) := h
end
section
variable {c : Cy} {e : En} {Φ : D → Nat → Prop} {Ψ : Ow → Nat → Prop} {ta tb te : TE} {n : Nat} {d1 d2 : D} {K : PySem.W.Frag} {P : Po}
theorem ws_setO {sl : List Slo} {nn : Nat} {i : Nat} (h : Wn c te ⟨sl, nn⟩ fun w n => P.nx ⟨sl.set i (.own w), n⟩) (hi : i < sl.length := by first | decide | (simp; done)) : Ws c (tAsgO te (gName i)) ⟨sl, nn⟩ P := ws_own h hi
/-! ## small steps -/
theorem wp_cI {sl : List Slo} {nn : Nat} {i : Int} (q : Φ (.py (.int i)) nn) : Wp c (tC (.int i)) ⟨sl, nn⟩ Φ := wp_c rfl q
theorem wp_cB {sl : List Slo} {nn : Nat} {b : Bool} (q : Φ (.py (.bool b)) nn) : Wp c (tC (.bl b)) ⟨sl, nn⟩ Φ := wp_c rfl q
theorem wp_cS {sl : List Slo} {nn : Nat} {x : Str} (q : Φ (.py (.str x)) nn) : Wp c (tC (.str x)) ⟨sl, nn⟩ Φ := wp_c rfl q
theorem wp_cN {sl : List Slo} {nn : Nat} (q : Φ (.py .none) nn) : Wp c (tC .non) ⟨sl, nn⟩ Φ := wp_c rfl q
theorem id1_mk {i : Int} {k : Int → Prop} (h : k i) : Id1 (.py (.int i)) k := h
theorem id2_mk {i j : Int} {k : Int → Int → Prop} (h : k i j) : Id2 (.py (.int i)) (.py (.int j)) k := h
theorem bd_mk {b : Bool} {k : Bool → Prop} (h : k b) : Bd (.py (.bool b)) k := h
theorem td_bool {b : Bool} {k : Bool → Prop} (h : k b) : Td (.py (.bool b)) k := h
theorem one_mk {d : D} {k : D → Prop} (h : k d) : One [d] k := h
theorem two_mk {d u : D} {k : D → D → Prop} (h : k d u) : Two [d, u] k := h
theorem tp_mk {ds : List PyData} {k : List PyData → Prop} (h : k ds) : Tp (.py (.tuple ds)) k := h
theorem ls_py {ds : List PyData} {k : List PyData → Prop} (h : k ds) : Ls (.py (.list ds)) k := h
theorem sq_tup {ds : List PyData} {k : List PyData → Prop} (h : k ds) : Sq (.py (.tuple ds)) k := h
theorem sq_py {ds : List PyData} {k : List PyData → Prop} (h : k ds) : Sq (.py (.list ds)) k := h
theorem sq_own {ds : List PyData} {k : List PyData → Prop} (h : k ds) : Sq (.mine (.lst ds)) k := h
theorem pd_py {p : PyData} {k : PyData → Prop} (h : k p) : Pd (.py p) k := h
theorem pd_own {ds : List PyData} {k : PyData → Prop} (h : k (.list ds)) : Pd (.mine (.lst ds)) k := h
theorem sqp_t {ds : List PyData} {k : List PyData → Prop} (h : k ds) : SqP (.tuple ds) k := h
theorem sqp_l {ds : List PyData} {k : List PyData → Prop} (h : k ds) : SqP (.list ds) k := h
theorem pys_nil {k : List PyData → Prop} (h : k []) : Pys [] k := h
theorem pys_cons {p : PyData} {r : List D} {k : List PyData → Prop} (h : Pys r fun ps => k (p :: ps)) : Pys (.py p :: r) k := h
theorem py1_mk {p : PyData} {k : PyData → Prop} (h : k p) : Py1 (.py p) k := h
theorem lend_tup {ds : List PyData} {k : Int → Prop} (h : k ds.length) : Lend (.py (.tuple ds)) k := h
theorem lend_py {ds : List PyData} {k : Int → Prop} (h : k ds.length) : Lend (.py (.list ds)) k := h
theorem lend_own {ds : List PyData} {k : Int → Prop} (h : k ds.length) : Lend (.mine (.lst ds)) k := h
theorem ixd_tup {ds : List PyData} {i : Int} {k : PyData → Prop} (h : ∃ d, atI ds i = some d ∧ k d) : Ixd (.py (.tuple ds)) (.py (.int i)) k := h
theorem ixd_py {ds : List PyData} {i : Int} {k : PyData → Prop} (h : ∃ d, atI ds i = some d ∧ k d) : Ixd (.py (.list ds)) (.py (.int i)) k := h
theorem ixd_own {ds : List PyData} {i : Int} {k : PyData → Prop} (h : ∃ d, atI ds i = some d ∧ k d) : Ixd (.mine (.lst ds)) (.py (.int i)) k := h
theorem sld_tup {ds : List PyData} {lo hi : Option Int} {k : PyData → Prop} (h : k (.tuple (cutD ds lo hi))) : Sld (.py (.tuple ds)) lo hi k := h
theorem sld_py {ds : List PyData} {lo hi : Option Int} {k : PyData → Prop} (h : k (.list (cutD ds lo hi))) : Sld (.py (.list ds)) lo hi k := h
theorem bint_b {b : Bool} {k : Int → Prop} (h : k (if b then 1 else 0)) : Bint (.py (.bool b)) k := h
theorem rw_subI {i j : Int} (h : Φ (.py (.int (i - j))) n) : Rw c (rI0 fun i j => .int (i - j)) (.py (.int i)) (.py (.int j)) n Φ := rw_i0 (h := h)
theorem rw_ltI {i j : Int} (h : Φ (.py (.bool (decide (i < j)))) n) : Rw c (rI0 fun i j => .bl (decide (i < j))) (.py (.int i)) (.py (.int j)) n Φ := rw_i0 (h := h)
theorem rw_leI {i j : Int} (h : Φ (.py (.bool (decide (i ≤ j)))) n) : Rw c (rI0 fun i j => .bl (decide (i ≤ j))) (.py (.int i)) (.py (.int j)) n Φ := rw_i0 (h := h)
theorem rw_gtI {i j : Int} (h : Φ (.py (.bool (decide (j < i)))) n) : Rw c (rI0 fun i j => .bl (decide (j < i))) (.py (.int i)) (.py (.int j)) n Φ := rw_i0 (h := h)
theorem rw_geI {i j : Int} (h : Φ (.py (.bool (decide (j ≤ i)))) n) : Rw c (rI0 fun i j => .bl (decide (j ≤ i))) (.py (.int i)) (.py (.int j)) n Φ := rw_i0 (h := h)
theorem rw_modI {i j : Int} (hc : j ≠ 0) (h : Φ (.py (.int (i.fmod j))) n) : Rw c (rI (fun _ j => j ≠ 0) fun i j => .int (i.fmod j)) (.py (.int i)) (.py (.int j)) n Φ := rw_i (h := ⟨hc, h⟩)
theorem rw_fdI {i j : Int} (hc : CDivW i j) (h : Φ (.py (.int (i / j))) n) : Rw c (rI CDivW fun i j => .int (i / j)) (.py (.int i)) (.py (.int j)) n Φ := rw_i (h := ⟨hc, h⟩)
theorem rw_powI {i j : Int} (hc : 2 ≤ i ∧ 1 ≤ j ∧ i < 2 ^ 600 ∧ j ≤ 60) (h : Φ (.py (.int (i ^ j.toNat))) n) : Rw c rPOW (.py (.int i)) (.py (.int j)) n Φ := rw_i (C := fun i j => 2 ≤ i ∧ 1 ≤ j ∧ i < 2 ^ 600 ∧ j ≤ 60) (g := fun i j => V.int (i ^ j.toNat)) (h := ⟨hc, h⟩)
theorem rw_aI {i j : Int} (h : Φ (.py (.int (i + j))) n) : Rw c (rADD K) (.py (.int i)) (.py (.int j)) n Φ := rw_addI h
theorem rw_mI {i j : Int} (hc : CMulW i j) (h : Φ (.py (.int (i * j))) n) : Rw c rMUL (.py (.int i)) (.py (.int j)) n Φ := rw_mulI ⟨hc, h⟩
theorem uw_neg {i : Int} (h : Φ (.py (.int (-i))) n) : Uw c (rU fun i => .int (-i)) (.py (.int i)) n Φ := uw_u (h := h)
theorem rw_ntNN (h : Φ (.py (.bool false)) n) : Rw c rNTN (.py .none) (.py .none) n Φ := ⟨fun A H v1 v2 a x1 x2 Q k => by
  cases Da.non_eq x1
  cases Da.non_eq x2
  exact ⟨rfl, k _ H _ n h Ek.refl a.good (.bl _)⟩⟩
def noN : PyData → Bool
  | .none => false
  | .dict _ => false
  | _ => true
theorem Da.nn {S : Addr → Prop} {H : Hp} {v : V} {p : PyData} (h : Da K S H v p) (q : noN p = true) : v ≠ .non := by
  cases h <;> first | (intro z; cases z; done) | cases q
theorem rw_isN {p : PyData} (q : noN p = true) (h : Φ (.py (.bool false)) n) : Rw c rISN (.py p) (.py .none) n Φ := ⟨fun A H v1 v2 a x1 x2 Q k => by
  cases Da.non_eq x2
  exact ⟨rfl, by rw [decide_eq_false (Da.nn x1 q)]; exact k _ H _ n h Ek.refl a.good (.bl _)⟩⟩
theorem rw_ntN {p : PyData} (q : noN p = true) (h : Φ (.py (.bool true)) n) : Rw c rNTN (.py p) (.py .none) n Φ := ⟨fun A H v1 v2 a x1 x2 Q k => by
  cases Da.non_eq x2
  exact ⟨rfl, by rw [decide_eq_false (Da.nn x1 q)]; exact k _ H _ n h Ek.refl a.good (.bl _)⟩⟩
/-! ## isinstance, a built-in class -/
def tyN : D → Option String
  | .py .none => some "NoneType"
  | .py (.bool _) => some "bool"
  | .py (.int _) => some "int"
  | .py (.str _) => some "str"
  | .py (.list _) => some "list"
  | .py (.tuple _) => some "tuple"
  | .mine (.lst _) => some "list"
  | .brw _ => some "list"
  | _ => none
theorem tyL {H : Hp} {a : Addr} {xs : List V} (h : SqL K H a xs) : TyX K H (.ref a) (.type "list") := by
  rcases h with (h | ⟨o, h⟩) | ⟨o, its, m, hk, hc, _⟩
  · exact .base (.lst h)
  · exact .base (.frz h)
  · exact .kList hk hc
theorem tyT {H : Hp} {a : Addr} {xs : List V} (h : SqT K H a xs) : TyX K H (.ref a) (.type "tuple") := by
  rcases h with (h | ⟨o, h⟩) | ⟨o, its, m, hk, hc, _⟩
  · exact .base (.tup h)
  · exact .fTuple h
  · exact .kTuple hk hc
theorem ty_of {A : Addr → Prop} {H : Hp} {v : V} {d : D} {s : String} (x : DX c A H v d) (h : tyN d = some s) : TyX c.K H v (.type s) := by
  match d, h, x with
  | .py .none, h, x => cases h; cases Da.non_eq x; exact .base .non
  | .py (.bool b), h, x => cases h; cases Da.bl_eq x; exact .base (.bl _)
  | .py (.int i), h, x => cases h; cases Da.int_eq x; exact .base (.int _)
  | .py (.str z), h, x => cases h; cases Da.str_eq x; exact .base (.str _)
  | .py (.list ds), h, x => cases h; obtain ⟨a, xs, rfl, hs, t⟩ := Da.list_at x; exact tyL hs
  | .py (.tuple ds), h, x => cases h; obtain ⟨a, xs, rfl, hs, t⟩ := Da.tuple_at x; exact tyT hs
  | .mine (.lst ds), h, x => cases h; obtain ⟨a, rfl, _, _, xs, hs, t⟩ := x; exact tyL (SqL.of hs)
  | .brw ds, h, x => cases h; obtain ⟨a, xs, rfl, _, _, hs, t⟩ := x; exact tyL (SqL.of hs)
theorem cw_isiB {d : D} {s b : String} {r : Bool} (hK : K = c.K) (h1 : tyN d = some s) (h2 : kitB s b = some r) (h : Φ (.py (.bool r)) n) : Cw c (rIsi K) [d, .atom (.ty b)] n Φ := ⟨fun A H vs a x Q k => by
  subst hK
  match vs, x with
  | [v, w], ⟨x1, x2, _⟩ =>
    have e : w = .ty b := x2
    subst e
    exact ⟨v, .ty b, .type s, .type b, r, rfl, .ty b, ty_of x1 h1, kit_ty h2, k _ H _ n h Ek.refl a.good (.bl _)⟩⟩
/-! ## promises with a ghost -/
def SpX {ι : Type} (K : PySem.W.Frag) (ar : ι → List D) (pre : ι → Nat → Prop) (post : ι → Nat → D → Nat → Prop) : Sp := fun vs H Q E =>
  ∃ x, SpF K (fun ds n => ds = ar x ∧ pre x n) (fun _ n d m => post x n d m) vs H Q E
theorem sx_len {ι : Type} {ar : ι → List D} {pre : ι → Nat → Prop} {post : ι → Nat → D → Nat → Prop} {m : Nat} (hl : ∀ x, (ar x).length = m) (vs : List V) (H : Hp) (Q : VK) (E : XK) (h : SpX K ar pre post vs H Q E) : vs.length = m := by
  obtain ⟨x, h⟩ := h
  exact sp_len (fun ds n q => by rw [q.1]; exact hl x) vs H Q E h
theorem body_x {ι : Type} {N : List Str} {ar : ι → List D} {pre : ι → Nat → Prop} {post : ι → Nat → D → Nat → Prop} {t : TS} (hnm : ∀ x, (ar x).all D.nm = true)
    (rd : ∀ (c : Cy) (n : Nat) (x : ι), c.K = K → pre x n → Ws c t ⟨Slo.of (ar x) ++ List.replicate (N.length - (ar x).length) .emp, n⟩ ⟨fun e => post x n (.py .none) e.n, fun d m => post x n d m, fun _ => False, fun _ => False⟩)
    (vs : List V) (H : Hp) (Q : VK) (E : XK) (h : SpX K ar pre post vs H Q E) : t { nx := fun _ H' => Q .non H', rt := Q } (L2.start N vs) H := by
  obtain ⟨x, h⟩ := h
  exact body_ok (K := K) (pre := fun ds n => ds = ar x ∧ pre x n) (post := fun _ n d m => post x n d m) (fun ds n q => by rw [q.1]; exact hnm x) (fun c n ds hK q => by obtain ⟨rfl, q⟩ := q; exact rd c n x hK q) vs H Q E h
theorem wp_cx {sl : List Slo} {nn : Nat} {ι : Type} {ar : ι → List D} {pre : ι → Nat → Prop} {post : ι → Nat → D → Nat → Prop} {E : XK} {ta : TA} (hK : K = c.K)
    (h : Wa c ta ⟨sl, nn⟩ fun ds n => ds.all argOk = true ∧ ∃ x, ds.map arg = ar x ∧ pre x n ∧ ∀ d m, post x n d m → outD d = true ∧ Φ d m) : Wp c (tCall (SpX K ar pre post) [] E ta) ⟨sl, nn⟩ Φ := ⟨fun σ A H o Q k => by
  refine h.run σ A H o _ fun vs H1 ds n p e1 g1 x => ?_
  have o1 := o.keep e1 g1
  obtain ⟨p1, z, p2, p3, p4⟩ := p
  rw [List.append_nil]
  exact ⟨z, sp_run (K := K) (pre := fun ds n => ds = ar z ∧ pre z n) (post := fun _ n d m => post z n d m) hK o1.at_ x p1 ⟨p2, p3⟩ p4 fun v H2 d m q e2 g2 y => k v H2 d m q (e1.trans e2) g2 y⟩⟩
end
end Wx

/-! ### part Vm -/
set_option Elab.async false
set_option linter.all false
set_option maxRecDepth 100000
set_option maxHeartbeats 1000000
set_option autoImplicit false
/-! The plain law's data: where a cell comes from; the cut. -/
namespace Wx
open PySem L2
inductive Src where
  | inp (p : Int)
  | lit (v : Int)
  deriving DecidableEq
def Src.py : Src → PyData
  | .inp p => .tuple [.str "in", .int p]
  | .lit v => .tuple [.str "lit", .int v]
def pys (l : List Src) : List PyData := l.map Src.py
abbrev srcs (l : List Src) : PyData := .tuple (pys l)
theorem eqv_int (i j : Int) : PyData.eqv (.int i) (.int j) = decide (i = j) := by
  rw [PyData.eqv, Bool.beq_eq_decide_eq]
theorem eqv_src (s t : Src) : PyData.eqv s.py t.py = decide (s = t) := by
  have h1 : ((Str.ofString "in") == (Str.ofString "in")) = true := by decide +kernel
  have h2 : ((Str.ofString "in") == (Str.ofString "lit")) = false := by decide +kernel
  have h3 : ((Str.ofString "lit") == (Str.ofString "in")) = false := by decide +kernel
  have h4 : ((Str.ofString "lit") == (Str.ofString "lit")) = true := by decide +kernel
  cases s <;> cases t <;> simp [Src.py, PyData.eqv, PyData.eqvAll, h1, h2, h3, h4, Bool.beq_eq_decide_eq]
theorem eqvAll_src : ∀ l m : List Src, PyData.eqvAll (pys l) (pys m) = decide (l = m)
  | [], [] => by simp [pys, PyData.eqvAll]
  | s :: l, t :: m => by
    have ih := eqvAll_src l m
    unfold pys at ih ⊢
    rw [List.map_cons, List.map_cons, PyData.eqvAll, ih, eqv_src]
    simp
  | [], _ :: _ => by simp [pys, PyData.eqvAll]
  | _ :: _, [] => by simp [pys, PyData.eqvAll]
theorem eqv_srcs (l m : List Src) : PyData.eqv (srcs l) (srcs m) = decide (l = m) := by rw [PyData.eqv]; exact eqvAll_src l m
theorem mem_src (s : Src) (l : List Src) : Mem s.py (pys l) = decide (s ∈ l) := by
  unfold Mem pys
  rw [List.any_map]
  induction l with
  | nil => simp
  | cons t l ih =>
    rw [List.any_cons, ih]
    simp only [Function.comp, eqv_src, List.mem_cons]
    by_cases h : s = t
    · subst h; simp
    · have h2 : ¬ t = s := fun z => h z.symm
      simp [h, h2]
theorem shp_src (s : Src) : SeqAt.shaped s.py = true := by
  have h1 : PyData.strOk (Str.ofString "in") = true := by decide +kernel
  have h2 : PyData.strOk (Str.ofString "lit") = true := by decide +kernel
  cases s <;> simp [Src.py, SeqAt.shaped, PyData.canLay0, PyData.canLayAll0, PyData.depth, PyData.depthAll, h1, h2]
theorem shpA : ∀ l : List Src, PyData.canLayAll0 (pys l) = true ∧ PyData.depthAll (pys l) ≤ 1
  | [] => ⟨rfl, by simp [pys, PyData.depthAll]⟩
  | s :: l => by
    obtain ⟨h1, h2⟩ := shpA l
    have h3 : s.py.canLay0 = true := SeqAt.canLay_of_shaped (shp_src s)
    have h4 : s.py.depth ≤ 1 := by cases s <;> simp [Src.py, PyData.depth, PyData.depthAll]
    unfold pys at h1 h2 ⊢
    refine ⟨by rw [List.map_cons, PyData.canLayAll0, h3, h1]; rfl, ?_⟩
    rw [List.map_cons, PyData.depthAll]
    omega
theorem shp_srcs (l : List Src) : SeqAt.shaped (srcs l) = true := by
  obtain ⟨h1, h2⟩ := shpA l
  unfold SeqAt.shaped
  rw [Bool.and_eq_true]
  exact ⟨by rw [PyData.canLay0]; exact h1, decide_eq_true (by rw [PyData.depth]; omega)⟩
theorem pys_len (l : List Src) : (pys l).length = l.length := List.length_map _
theorem pys_at {l : List Src} {i : Nat} {s : Src} (h : l[i]? = some s) : atI (pys l) (i : Int) = some s.py := atI_nat (by unfold pys; rw [List.getElem?_map, h] <;> rfl)
theorem pys_item {l : List Src} {i : Nat} {d : D} (h : ((pys l).map D.py)[i]? = some d) : ∃ s, l[i]? = some s ∧ s ∈ l ∧ d = .py s.py := by
  unfold pys at h
  rw [List.getElem?_map, List.getElem?_map] at h
  cases q : l[i]? with
  | none => rw [q] at h; cases h
  | some s => rw [q] at h; cases h; exact ⟨s, rfl, List.mem_of_getElem? q, rfl⟩
theorem pys_drop (l : List Src) (i : Nat) : (pys l).drop i = pys (l.drop i) := by unfold pys; rw [List.map_drop]
theorem pys_app (l m : List Src) : pys l ++ pys m = pys (l ++ m) := by unfold pys; rw [List.map_append]
theorem cut_from {α : Type} (xs : List α) (i : Nat) (h : i ≤ xs.length) : cutD xs (some (i : Int)) none = xs.drop i := by
  unfold cutD
  rw [HT.sIx_nat, HT.sIx_none, Nat.min_eq_left h]
  exact List.take_of_length_le (by rw [List.length_drop]; exact Nat.le_refl _)
def cut : Int → List Src → Int × List Src
  | t, [] => (t, [])
  | t, s :: r => if s = .inp (t - 1) ∧ s ∉ r then cut (t - 1) r else (t, s :: r)

theorem shp_int (i : Int) : SeqAt.shaped (.int i) = true := by simp [SeqAt.shaped, PyData.canLay0, PyData.depth]
theorem shp_nilL : SeqAt.shaped (.list []) = true := by simp [SeqAt.shaped, PyData.canLay0, PyData.canLayAll0, PyData.depth, PyData.depthAll]
theorem shp_str {x : Str} (h : PyData.strOk x = true) : SeqAt.shaped (.str x) = true := by simp [SeqAt.shaped, PyData.canLay0, PyData.depth, h]
theorem shp_inp (p : Int) : SeqAt.shaped (.tuple [.str "in", .int p]) = true := shp_src (.inp p)
theorem eqv_inp (s : Src) (p : Int) : PyData.eqv s.py (.tuple [.str "in", .int p]) = decide (s = .inp p) := eqv_src s (.inp p)
section
variable {c : Cy} {Φ : D → Nat → Prop} {n : Nat} {K : PySem.W.Frag}
theorem rw_eqI {i j : Int} (hK : K = c.K) (h : Φ (.py (.bool (decide (i = j)))) n) : Rw c (rEqD K) (.py (.int i)) (.py (.int j)) n Φ := rw_eq hK ⟨shp_int _, shp_int _, by rw [eqv_int]; exact h⟩
theorem rw_neI {i j : Int} (hK : K = c.K) (h : Φ (.py (.bool (!decide (i = j)))) n) : Rw c (rNeD K) (.py (.int i)) (.py (.int j)) n Φ := rw_ne hK ⟨shp_int _, shp_int _, by rw [eqv_int]; exact h⟩
theorem rw_eqSt {x y : Str} (hK : K = c.K) (hx : PyData.strOk x = true) (hy : PyData.strOk y = true) (hb : (x == y) = true) (h : Φ (.py (.bool true)) n) : Rw c (rEqD K) (.py (.str x)) (.py (.str y)) n Φ := rw_eq hK ⟨shp_str hx, shp_str hy, by rw [PyData.eqv, hb]; exact h⟩
theorem rw_eqSf {x y : Str} (hK : K = c.K) (hx : PyData.strOk x = true) (hy : PyData.strOk y = true) (hb : (x == y) = false) (h : Φ (.py (.bool false)) n) : Rw c (rEqD K) (.py (.str x)) (.py (.str y)) n Φ := rw_eq hK ⟨shp_str hx, shp_str hy, by rw [PyData.eqv, hb]; exact h⟩
end
end Wx

/-! ### part Vc -/
set_option Elab.async false
set_option linter.all false
set_option maxRecDepth 100000
set_option maxHeartbeats 1000000
set_option autoImplicit false
/-! Own classes in the calculus: attributes, making, properties, methods. -/
namespace Wx
open PySem L2
/-! ## a target o.f -/
def gAtt (K : PySem.W.Frag) (to : TE) (f : Str) : TG := fun v σ H Q => to σ H fun x H1 => ∃ a C dx fs, x = .ref a ∧ H1 a = some (.ins C dx fs) ∧ Cls K C ∧ NoAttr K C f ∧ fs.length < 1000 ∧ Q σ (upd H1 a (.ins C dx (putF f v fs)))
theorem pg_att {X : Cx} {o : Expr} {f : Str} {pos : Pos} {to : TE} (ho : PE X o to) : PG X (.Attribute o f pos) (gAtt X.K to f) := by
  refine ⟨fun pins s σ H v u Q I r h => ?_⟩
  rw [arm_assign_Attribute]
  refine wpAny_bind (wpAny_holding (thn (ho.run pins s σ H _ I h) fun ov s1 ⟨x, H1, I1, r1, a, C, dx, fs, ex, ea, c, n, l, q⟩ => ?_))
  subst ex
  obtain rfl : ov = Value.ref a := r1
  exact wpAny_bind (wpAny_standAt (wpAny_bind (wpAny_holding (setattr_ok I1 ea c n l r fun s3 I3 => wpAny_release ⟨σ, _, I3, q⟩))))
/-! ## making -/
abbrev Cy.ext (c : Cy) (A : Addr → Prop) (x : Addr) (h : ∀ a, c.k = some a → A a) : Cy := ⟨c.K, c.k, fun a => A a ∨ a = x, fun a q => .inl (h a q)⟩
def SpI {ι : Type} (K : PySem.W.Frag) (C : Addr) (ar : ι → List D) (pre : ι → Nat → Prop) (fs : ι → List (Str × PyData)) : Sp := fun vs H Q _ =>
  ∃ (z : ι) (c : Cy) (n : Nat) (x dx : Addr) (args : List V), vs = .ref x :: args ∧ c.K = K ∧ Good c n H ∧ c.S0 x ∧ c.k ≠ some x ∧ H x = some (.ins C dx []) ∧ DXs c c.S0 H args (ar z) ∧ pre z n ∧
    ∀ (H' : Hp) (ws : List (Str × V)), H' x = some (.ins C dx ws) → FsR K c.S0 H' ws (fs z) → (∀ a o, c.k ≠ some a → a ≠ x → H a = some o → H' a = some o) → Good c n H' → Q .non H'
theorem si_len {ι : Type} {K : PySem.W.Frag} {C : Addr} {ar : ι → List D} {pre : ι → Nat → Prop} {fs : ι → List (Str × PyData)} {m : Nat} (hl : ∀ x, (ar x).length = m) (vs : List V) (H : Hp) (Q : VK) (E : XK) (h : SpI K C ar pre fs vs H Q E) : vs.length = m + 1 := by
  obtain ⟨z, c, n, x, dx, args, rfl, _, _, _, _, _, xs, _⟩ := h
  rw [List.length_cons, xs.len, hl z]
/-- code of an __init__: from x without attributes to x with fs -/
structure Wz (c : Cy) (t : TS) (e : En) (x C dx : Addr) (n : Nat) (fs : List (Str × PyData)) : Prop where
  run : ∀ (σ : St) (A : Addr → Prop) (H : Hp), Ok c A H σ e → (∀ a, ¬ ownA σ e.sl a) → H x = some (.ins C dx []) → ∀ Dn : Ends, (∀ (σ' : St) (H' : Hp) (ws : List (Str × V)), H' x = some (.ins C dx ws) → FsR c.K c.S0 H' ws fs → (∀ a o, c.k ≠ some a → a ≠ x → H a = some o → H' a = some o) → Good c n H' → Dn.nx σ' H') → t Dn σ H
section
variable {c : Cy} {sl : List Slo} {nn n : Nat} {x C dx : Addr} {fs : List (Str × PyData)} {t u : TS} {te : TE}
def noOwn (sl : List Slo) : Bool := sl.all fun s => match s with
  | .own _ => false
  | _ => true
theorem no_own {σ : St} {sl : List Slo} (h : noOwn sl = true) (a : Addr) : ¬ ownA σ sl a := fun ⟨i, w, z, _⟩ => by
  have := List.all_eq_true.mp h _ (List.mem_of_getElem? z)
  cases this
theorem wz_seq (hk : c.k ≠ some x) (hx : c.S0 x) (h : Ws c t ⟨sl, nn⟩ ⟨fun e1 => noOwn e1.sl = true ∧ Wz c u e1 x C dx n fs, fun _ _ => False, fun _ => False, fun _ => False⟩) : Wz c (tSeq t u) ⟨sl, nn⟩ x C dx n fs :=
  ⟨fun σ A H o no hH Dn fin => h.run σ A H o { Dn with nx := u Dn } (fun σ1 A1 H1 e1 q kp w o1 => q.2.run σ1 A1 H1 o1 (no_own q.1) (kp x _ (fun z => z.elim hk (no x)) hH) Dn fun σ2 H2 ws r1 r2 r3 r4 => fin σ2 H2 ws r1 r2 (fun a u n1 n2 z => r3 a u n1 n2 (kp a u (fun y => y.elim n1 (no a)) z)) r4)
    (fun _ _ _ _ z _ _ _ => z.elim) (fun _ _ _ _ z _ _ _ => z.elim) (fun _ _ _ _ z _ _ _ => z.elim)⟩
theorem wz_att2 {K : PySem.W.Frag} {f1 f2 : Str} {p q : PyData} (hK : K = c.K) (hk : c.k ≠ some x) (hx : c.S0 x) (h0 : sl[0]? = some (.val (.atom (.ref x)))) (cl : Cls c.K C) (n1 : NoAttr c.K C f1) (n2 : NoAttr c.K C f2) (hne : ∀ v w : V, putF f2 w (putF f1 v []) = [(f1, v), (f2, w)])
    (h : Wp c te ⟨sl, nn⟩ fun d m => d = .py (.tuple [p, q]) ∧ m = n) : Wz c (tAsg te (gTup K 2 (gCons (gAtt K (tVar 0) f1) (gCons (gAtt K (tVar 0) f2) gNil)))) ⟨sl, nn⟩ x C dx n [(f1, p), (f2, q)] := ⟨fun σ A H o no hH Dn fin => by
  subst hK
  obtain ⟨_, v0, s0, e0⟩ := o.val 0 _ h0
  have e0' : v0 = .ref x := e0
  subst e0'
  refine h.run σ A H o _ fun v H1 d m pr e1 g1 xd => ?_
  obtain ⟨rfl, rfl⟩ := pr
  obtain ⟨a, xs, rfl, hs, tl⟩ := Da.tuple_at xd
  cases tl with
  | cons y1 tl =>
    cases tl with
    | cons y2 tl =>
      cases tl
      rename_i v1 v2
      have hx1 : H1 x = some (.ins C dx []) := e1 x _ hk hH
      have xA : A x := o.sub x (.inl hx)
      have pl : (putF f1 v1 ([] : List (Str × V))).length < 1000 := by
        have := length_putF f1 v1 ([] : List (Str × V))
        simp at this
        omega
      refine ⟨a, _, rfl, hs, rfl, v1, [v2], rfl, .ref x, s0, x, C, dx, [], rfl, hx1, cl, n1, by decide, v2, [], rfl, .ref x, s0, x, C, dx, _, rfl, upd_same, cl, n2, pl, rfl, ?_⟩
      rw [hne]
      have kA : Kept A H1 (upd (upd H1 x (.ins C dx (putF f1 v1 []))) x (.ins C dx [(f1, v1), (f2, v2)])) := fun b u nb z => by rw [upd_ne fun w => nb (by rw [w]; exact xA), upd_ne fun w => nb (by rw [w]; exact xA)]; exact z
      refine fin σ _ _ upd_same ⟨rfl, (y1.keep kA).less fun b z => o.sub b (.inl z), rfl, (y2.keep kA).less fun b z => o.sub b (.inl z), True.intro⟩ (fun b u q1 q2 z => ?_) ⟨fun b z => ?_, fun b z => ?_⟩
      · rw [upd_ne q2, upd_ne q2]; exact e1 b u q1 z
      · by_cases w : b = x
        · rw [w, upd_same]; exact fun y => nomatch y
        · rw [upd_ne w, upd_ne w]; exact g1.al b z
      · have w : b ≠ x := fun w => hk (by rw [← w]; exact z)
        rw [upd_ne w, upd_ne w]; exact g1.kl b z⟩
/-- the reading of an __init__ -/
theorem body_i {ι : Type} {K : PySem.W.Frag} {N : List Str} {ar : ι → List D} {pre : ι → Nat → Prop} {fsz : ι → List (Str × PyData)} {t : TS} (hnm : ∀ x, (ar x).all D.nm = true)
    (rd : ∀ (c : Cy) (n : Nat) (z : ι) (x dx : Addr), c.K = K → c.k ≠ some x → c.S0 x → pre z n → Wz c t ⟨Slo.of (.atom (.ref x) :: ar z) ++ List.replicate (N.length - (D.atom (.ref x) :: ar z).length) .emp, n⟩ x C dx n (fsz z))
    (vs : List V) (H : Hp) (Q : VK) (E : XK) (h : SpI K C ar pre fsz vs H Q E) : t { nx := fun _ H' => Q .non H', rt := Q } (L2.start N vs) H := by
  obtain ⟨z, c, n, x, dx, args, rfl, hK, g, hx, hk, hH, xs, hp, k⟩ := h
  have o := start_ok (N := N) (ds := .atom (.ref x) :: ar z) g (vs := .ref x :: args) ⟨rfl, xs⟩ (by rw [List.all_cons, hnm z]; rfl)
  have no : ∀ a, ¬ ownA (L2.start N (.ref x :: args)) (Slo.of (D.atom (.ref x) :: ar z) ++ List.replicate (N.length - (D.atom (.ref x) :: ar z).length) Slo.emp) a := no_own (by
    unfold noOwn
    rw [List.all_append, Bool.and_eq_true]
    constructor
    · unfold Slo.of; rw [List.all_map]; exact List.all_eq_true.mpr fun _ _ => rfl
    · exact List.all_eq_true.mpr fun s hs => by rw [List.eq_of_mem_replicate hs])
  exact (rd c n z x dx hK hk hx hp).run _ _ H o no hH _ fun σ' H' ws r1 r2 r3 r4 => k H' ws r1 (by rw [← hK]; exact r2) r3 r4
theorem wp_make {ι : Type} {K : PySem.W.Frag} {ar : ι → List D} {pre : ι → Nat → Prop} {fsz : ι → List (Str × PyData)} {E : XK} {ta : TA} {Φ : D → Nat → Prop} (hK : K = c.K)
    (h : Wa c ta ⟨sl, nn⟩ fun ds n => ds.all argOk = true ∧ ∃ z, ds.map arg = ar z ∧ pre z n ∧ Φ (.ins C (fsz z)) n) : Wp c (tMake C (SpI K C ar pre fsz) [] E ta) ⟨sl, nn⟩ Φ := ⟨fun σ A H o Q k => by
  subst hK
  refine h.run σ A H o _ fun vs H1 ds n p e1 g1 xs => ?_
  have o1 := o.keep e1 g1
  obtain ⟨p1, z, p2, p3, p4⟩ := p
  intro x dx hx hdx hne
  rw [List.append_nil]
  have e2 : Ek c H1 (upd H1 dx (.own x)) := Ek.new hdx
  have hx2 : (upd H1 dx (.own x)) x = none := by rw [upd_ne (Ne.symm hne)]; exact hx
  have e3 : Ek c (upd H1 dx (.own x)) (upd (upd H1 dx (.own x)) x (.ins C dx [])) := Ek.new hx2
  have g3 : Good c n (upd (upd H1 dx (.own x)) x (.ins C dx [])) := (g1.new hdx).new hx2
  have a1 := o1.at_
  have nAx : ¬ A x := o1.fresh hx
  have kx : c.k ≠ some x := fun q => nAx (a1.k x q)
  have ys := dxs_arg a1 p1 xs
  have apart : ∀ {v : V} {d : D}, DX (c.at_ A a1.k) A H1 v d → DX (c.ext A x a1.k) (fun a => A a ∨ a = x) (upd (upd H1 dx (.own x)) x (.ins C dx [])) v d := fun {v d} y => by
    have kk : Kept A H1 (upd (upd H1 dx (.own x)) x (.ins C dx [])) := fun b u nb q => by rw [upd_ne (ne_of_none q hx), upd_ne (ne_of_none q hdx)]; exact q
    cases d with
    | py p => exact Da.keep (fun b u nb q => kk b u (fun z => nb (.inl z)) q) (Da.apart hx y)
    | mine w => obtain ⟨b, _, n1, n2, _⟩ := y; exact (n1 n2).elim
    | dct ds =>
      obtain ⟨b, kvs, q, m, r, t⟩ := y
      have nb : ¬ (A b ∨ b = x) := fun z => z.elim m fun w => by rw [w, hx] at r; cases r
      exact ⟨b, kvs, q, nb, kk b _ m r, (t.apart hx).keep fun b u nb q => kk b u (fun z => nb (.inl z)) q⟩
    | dcl ds =>
      obtain ⟨b, kvs, od, q, m, r, t⟩ := y
      have nb : ¬ (A b ∨ b = x) := fun z => z.elim m fun w => by rw [w, hx] at r; cases r
      exact ⟨b, kvs, od, q, nb, kk b _ m r, (t.apart hx).keep fun b u nb q => kk b u (fun z => nb (.inl z)) q⟩
    | brw ds => obtain ⟨b, ws, q, m, s, r, t⟩ := y; exact ⟨b, ws, q, m, .inl s, by rw [upd_ne (ne_of_none r hx), upd_ne (ne_of_none r hdx)]; exact r, (DaL.apart hx t).keep fun b u nb q => kk b u (fun z => nb (.inl z)) q⟩
    | ins C fs =>
      obtain ⟨b, dy, ws, q, m, r, t⟩ := y
      have nb : ¬ (A b ∨ b = x) := fun z => z.elim m fun w => by rw [w, hx] at r; cases r
      exact ⟨b, dy, ws, q, nb, kk b _ m r, (t.apart hx).keep fun b u nb q => kk b u (fun z => nb (.inl z)) q⟩
    | atom w => exact y
    | kln => exact y
    | lsx =>
      obtain ⟨b, ws, q, m, r⟩ := y
      have nb : ¬ (A b ∨ b = x) := fun z => z.elim m fun w => by rw [w, hx] at r; cases r
      exact ⟨b, ws, q, nb, kk b _ m r⟩
  have all : ∀ {vs : List V} {ds : List D}, DXs (c.at_ A a1.k) A H1 vs ds → DXs (c.ext A x a1.k) (fun a => A a ∨ a = x) (upd (upd H1 dx (.own x)) x (.ins C dx [])) vs ds := by
    intro vs
    induction vs with
    | nil =>
      intro ds h
      cases ds with
      | nil => exact True.intro
      | cons _ _ => exact h.elim
    | cons v vs ih =>
      intro ds h
      cases ds with
      | nil => exact h.elim
      | cons d ds => exact ⟨apart h.1, ih h.2⟩
  refine ⟨z, c.ext A x a1.k, n, x, dx, vs, rfl, rfl, ⟨fun a q => ?_, g3.kl⟩, .inr rfl, kx, upd_same, by rw [← p2]; exact all ys, p3, fun H' ws r1 r2 r3 r4 => ⟨rfl, ?_⟩⟩
  · rcases q with q | q
    · have := a1.al a q
      cases w : H1 a with
      | none => exact absurd w this
      | some u => rw [upd_ne (ne_of_none w hx), upd_ne (ne_of_none w hdx), w]; exact fun y => nomatch y
    · rw [q, upd_same]; exact fun y => nomatch y
  · have ek : Ek c H1 H' := fun b u nb q => r3 b u nb (ne_of_none q hx) (by rw [upd_ne (ne_of_none q hx), upd_ne (ne_of_none q hdx)]; exact q)
    exact k (.ref x) H' _ n p4 (e1.trans ek) ⟨fun b q => r4.al b (.inl (a1.s b q)), r4.kl⟩ ⟨x, dx, ws, rfl, nAx, r1, r2.less fun b q => .inl q⟩⟩
end
end Wx

/-! ### part Vd -/
set_option Elab.async false
set_option linter.all false
set_option maxRecDepth 100000
set_option maxHeartbeats 1000000
set_option autoImplicit false
/-! Own classes: special methods of the text behind len, == and !=; reading, calling. -/
namespace Wx
open PySem L2 PyProof.Rows
/-! ## the operators' rules -/
section
variable {X : Cx} {k : Nat} {C f : Addr} {fd : FuncData} {ps : List Str} {sp : Sp}
/-- o == y, the class's own __eq__ -/
def rEQO (K : PySem.W.Frag) (C : Addr) (ng : Bool) (sp : Sp) : R2 := fun x y H Q => ∃ a dx fs t, x = .ref a ∧ H a = some (.ins C dx fs) ∧ TyX K H y t ∧ PySem.W.notFirst K C t = true ∧ sp [.ref a, y] H (fun v H' => ∃ b : Bool, v = .bl b ∧ Q (.bl (if ng then !b else b)) H') E0
/-- what both ask: the own __eq__ run at the two -/
theorem eq_run {pins : List (Addr × Obj)} {s : Shared} {σ : L2.St} {H : Hp} {a : Addr} {y : V} {u : Value} {Q : Bool → Hp → Prop} {A : Around} (F : FnOk X.prog X.w X.K X.mg X.base CX0 k f fd ps sp) (hb : Binds X.K fd ps []) (hr : Room k A) (hA : A.frames = X.A.frames)
    (I : Inv X pins σ H s) (ry : RelV y u) (h : sp [.ref a, y] H (fun v H' => ∃ b : Bool, v = .bl b ∧ Q b H') E0) {E : Value → Shared → Prop} :
    wpAny (model X.prog X.w) A (call (.ref f) [.ref a, u]) (fun v s' => ∃ (b : Bool) (H' : Hp), v = .bool b ∧ Inv X pins σ H' s' ∧ Q b H') E s := by
  have hl := F.len _ _ _ _ h
  have e0 := I.env0
  refine wpAny_call (codeAny_mono (F.run A X.stack s H ⟨[.ref a, u], []⟩ [.ref a, u] [.ref a, y] _ E0 hr ⟨by rw [hA]; exact e0.frames, e0.mod, e0.bs, e0.bsz, e0.funs, e0.frf, e0.hok, e0.bare⟩ (by
    have := hb s [.ref a, u] I.kIn (by simpa using hl)
    simpa using this) (.cons rfl (.cons ry .nil)) h) fun res s' hq => ?_)
  cases res with
  | error er => exact False.elim hq
  | ok fl =>
    cases fl with
    | next => exact False.elim hq
    | brk => exact False.elim hq
    | cont => exact False.elim hq
    | ret w =>
      obtain ⟨v, H', I', rv, b, rfl, q⟩ := I.after hq
      cases rv
      exact ⟨b, H', rfl, I', q⟩
theorem opEQO (F : FnOk X.prog X.w X.K X.mg X.base CX0 k f fd ps sp) (hs : PySem.W.findIn X.K (.ref C) "__eq__" = some (some (.ref f))) (hf : PySem.W.isFn X.K (.ref f) = true) (hb : Binds X.K fd ps []) (hr : Room k X.A) : OpR X (compareOp .Eq) (rEQO X.K C false sp) := by
  intro pins s σ H x y v u Q I rx ry h
  obtain ⟨a, dx, fs, t, rfl, ha, ty, nf, hsp⟩ := h
  cases rx
  obtain ⟨mA, O, _⟩ := ins_get I.hok ha
  obtain ⟨od, J, _⟩ := O.look
  obtain ⟨m, hF⟩ := I.fr
  obtain ⟨Pk, Z, pk, _⟩ := kit_of I ry ty
  refine PySem.W.cmp_K (op := .Eq) (tb := t) hr.units0 hF I.ok.mod.kin J (Z.ty _ _ I.kIn pk) nf hs hf (wpAny_mono (eq_run (Q := fun b H' => Q (.bl b) H') F hb hr rfl I ry hsp) (fun v' s' z => ?_) fun _ _ z => z)
  obtain ⟨b, H', rfl, I', q⟩ := z
  exact ⟨.bl b, H', I', rfl, q⟩
end

/-! ## the calculus -/
section
variable {c : Cy} {sl : List Slo} {nn n : Nat} {C : Addr} {fs : List (Str × PyData)} {te : TE} {Φ : D → Nat → Prop} {K : PySem.W.Frag} {d d2 : D}
theorem wp_fld {f : Str} (hK : K = c.K) (h : Wp c te ⟨sl, nn⟩ fun d n => ∃ C fs p, d = .ins C fs ∧ Cls c.K C ∧ NoAttr c.K C f ∧ fs.lookup f = some p ∧ Φ (.py p) n) : Wp c (tFld K te f) ⟨sl, nn⟩ Φ := ⟨fun σ A H o Q k => by
  subst hK
  refine h.run σ A H o _ fun v H1 d n p e1 g1 x => ?_
  obtain ⟨C, fs, q, rfl, cl, na, lk, hq⟩ := p
  obtain ⟨a, dx, ws, rfl, nA, r, t⟩ := x
  obtain ⟨v, lv, y⟩ := t.look lk
  exact ⟨a, C, dx, ws, v, rfl, r, cl, na, lv, k v H1 _ n hq e1 g1 y⟩⟩
/-- a promise at an object and arguments -/
theorem sx_at {ι : Type} {ar : ι → List D} {pre : ι → Nat → Prop} {post : ι → Nat → D → Nat → Prop} {A : Addr → Prop} {H : Hp} {vs : List V} {ds : List D} {E : XK} {Q : VK} (hK : K = c.K) (a : At c A n H) (x : DXs c A H vs ds) (ka : ds.all argOk = true) (z : ι) (p2 : ds.map arg = ar z) (p3 : pre z n)
    (p4 : ∀ d m, post z n d m → outD d = true ∧ Φ d m) (k : ∀ v H2 d m, Φ d m → Ek c H H2 → Good c m H2 → DX c A H2 v d → Q v H2) : SpX K ar pre post vs H Q E :=
  ⟨z, sp_run (K := K) (pre := fun ds n => ds = ar z ∧ pre z n) (post := fun _ n d m => post z n d m) hK a x ka ⟨p2, p3⟩ p4 k⟩
theorem wp_prop {ι : Type} {ar : ι → List D} {pre : ι → Nat → Prop} {post : ι → Nat → D → Nat → Prop} {E : XK} (hK : K = c.K) (h : Wp c te ⟨sl, nn⟩ fun d n => ∃ fs, d = .ins C fs ∧ ∃ z, [D.ins C fs] = ar z ∧ pre z n ∧ ∀ d m, post z n d m → outD d = true ∧ Φ d m) : Wp c (tProp C (SpX K ar pre post) [] E te) ⟨sl, nn⟩ Φ := ⟨fun σ A H o Q k => by
  refine h.run σ A H o _ fun v H1 d n p e1 g1 x => ?_
  obtain ⟨fs, rfl, z, p2, p3, p4⟩ := p
  have o1 := o.keep e1 g1
  have x' := x
  obtain ⟨a, dx, ws, rfl, nA, r, t⟩ := x'
  exact ⟨a, dx, ws, rfl, r, sx_at (ds := [.ins C fs]) hK o1.at_ ⟨x, True.intro⟩ rfl z p2 p3 p4 fun v H2 d m q e2 g2 y => k v H2 d m q (e1.trans e2) g2 y⟩⟩
def Ty2 (c : Cy) (d : D) (t : Value) : Prop := ∀ (A : Addr → Prop) (H : Hp) (v : V), DX c A H v d → TyX c.K H v t
theorem ty2_b {s : String} (h : tyN d = some s) : Ty2 c d (.type s) := fun A H v x => ty_of x h
theorem ty2_l : Ty2 c .lsx (.type "list") := fun A H v x => by
  obtain ⟨a, xs, rfl, _, r⟩ := x
  exact .base (.lst r)
/-- what a class must have for isinstance -/
structure KitC (K : PySem.W.Frag) (C : Addr) : Prop where
  cl : Cls K C
  ha : PySem.W.findIn K (.ref C) "__class__" = some (some (.builtin "object.__class__"))
  hn : PySem.W.specialIn K (.builtin "object.__class__") "__get__" = some (some (.builtin "getset_descriptor.__get__"))
  ht : PySem.W.takesIn K (.builtin "object.__class__") = some true
  ob : PySem.W.mroIn K C (.type "object") = some true
  me : PySem.W.kitOne K (.ref C) (.ref C) = some true
  no : ∀ s ∈ ["NoneType", "bool", "int", "str", "list", "tuple"], PySem.W.kitOne K (.type s) (.ref C) = some false ∧ PySem.W.notFirst K C (.type s) = true
theorem ty2_i (k : KitC c.K C) : Ty2 c (.ins C fs) (.ref C) := fun A H v x => by
  obtain ⟨a, dx, ws, rfl, _, r, _⟩ := x
  exact .base (.ins r k.cl k.ha k.hn k.ht k.ob)
theorem nf_me {K : PySem.W.Frag} : PySem.W.notFirst K C (.ref C) = true := by simp [PySem.W.notFirst]
theorem cw_isiC {t : Value} {b : Bool} (hK : K = c.K) (h1 : Ty2 c d t) (h2 : PySem.W.kitOne c.K t (.ref C) = some b) (h : Φ (.py (.bool b)) n) : Cw c (rIsi K) [d, .atom (.ref C)] n Φ := ⟨fun A H vs a x Q k => by
  subst hK
  match vs, x with
  | [v, w], ⟨x1, x2, _⟩ =>
    have e : w = .ref C := x2
    subst e
    exact ⟨v, .ref C, t, .ref C, b, rfl, .own C, h1 A H v x1, h2, k _ H _ n h Ek.refl a.good (.bl _)⟩⟩
theorem rw_eqO {ι : Type} {ar : ι → List D} {pre : ι → Nat → Prop} {post : ι → Nat → D → Nat → Prop} {t : Value} {ng : Bool} (hK : K = c.K) (ht : Ty2 c d2 t) (nf : PySem.W.notFirst c.K C t = true) (ok : argOk d2 = true)
    (h : ∃ z, [D.ins C fs, arg d2] = ar z ∧ pre z n ∧ ∀ d m, post z n d m → ∃ b : Bool, d = .py (.bool b) ∧ Φ (.py (.bool (if ng then !b else b))) m) : Rw c (rEQO K C ng (SpX K ar pre post)) (.ins C fs) d2 n Φ := ⟨fun A H v1 v2 a x1 x2 Q k => by
  subst hK
  obtain ⟨z, p2, p3, p4⟩ := h
  have x' := x1
  obtain ⟨b, dx, ws, rfl, nA, r, _⟩ := x'
  refine ⟨b, dx, ws, t, rfl, r, ht A H v2 x2, nf, sx_at (ds := [.ins C fs, d2]) (Φ := fun d m => ∃ b : Bool, d = .py (.bool b) ∧ Φ (.py (.bool (if ng then !b else b))) m) rfl a ⟨x1, x2, True.intro⟩ (by rw [List.all_cons, List.all_cons, ok]; rfl) z p2 p3 (fun d m q => ?_) fun v H2 d m q e2 g2 y => ?_⟩
  · obtain ⟨i, rfl, q'⟩ := p4 d m q
    exact ⟨rfl, i, rfl, q'⟩
  · obtain ⟨i, rfl, q⟩ := q
    exact ⟨i, Da.bl_eq y, k _ H2 _ m q e2 g2 (.bl _)⟩⟩
end
/-! ## the derivations -/
structure StdP (P : Program) (w : World) (K : PySem.W.Frag) (mg : Str → Option Value) (base : Heap) (k : Nat) (C : Addr) (f : Str) (sp : Sp) : Prop where
  ex : ∃ p g fd ps, PropOf K C f p g ∧ FnOk P w K mg base CX0 k g fd ps sp ∧ Binds K fd ps []
structure StdM (P : Program) (w : World) (K : PySem.W.Frag) (mg : Str → Option Value) (base : Heap) (k : Nat) (C : Addr) (m : Str) (sp : Sp) : Prop where
  ex : ∃ g fd ps, Meth K C m g ∧ FnOk P w K mg base CX0 k g fd ps sp ∧ Binds K fd ps []
structure StdI (P : Program) (w : World) (K : PySem.W.Frag) (mg : Str → Option Value) (base : Heap) (k : Nat) (C : Addr) (sp : Sp) : Prop where
  ex : ∃ f fd ps, Mk K C f ∧ FnOk P w K mg base CX0 k f fd ps sp ∧ Binds K fd ps []
section
variable {X : Cx} {k : Nat} {C : Addr} {sp : Sp} {e o : Expr} {es : List Expr} {pos apos p : Pos} {ta : TE} {t : TA} {x f m : Str}
theorem pe_propS (F : StdP X.prog X.w X.K X.mg X.base k C f sp) (c : Cls X.K C) (hr : Room (k + 1) X.A) (he : PE X e ta) (hab : attributeBase e f X.env (eval e X.env) = eval e X.env) : PE X (.Attribute e f pos) (tProp C sp [] E0 ta) := by
  obtain ⟨p, g, fd, ps, h1, h2, h3⟩ := F.ex
  exact pe_prop he c h1 h2 hr h3 .nil pass0 hab
theorem pe_makeS (F : StdI X.prog X.w X.K X.mg X.base k C sp) (hm : X.mg x = some (.ref C)) (hr : Room (k + 1) X.A) (hg : Gl X x) (ha : PA X (e :: es) t) (hdb : (x == ("__debug__" : Str)) = false := by decide)
    (he : starEach (e :: es) X.env = (false, eval e X.env) :: starEach es X.env := by rfl) (hpl : (backTo pos (starEach es X.env)).any (·.1) = false := by rfl) : PE X (.Call (.Name x p) (e :: es) [] pos) (tMake C sp [] E0 t) := by
  obtain ⟨f, fd, ps, h1, h2, h3⟩ := F.ex
  exact pe_make h1 h2 hr hg hm h3 .nil pass0 ha hdb he hpl
theorem eqS {K : PySem.W.Frag} (hK : X.K = K) (F : StdM X.prog X.w X.K X.mg X.base k C "__eq__" sp) (hr : Room k X.A) : OpR X (compareOp .Eq) (rEQO K C false sp) := by
  subst hK
  obtain ⟨g, fd, ps, h1, h2, h3⟩ := F.ex
  exact opEQO h2 h1.at_ h1.fn h3 hr
end
end Wx

/-! ### part Ve -/
set_option Elab.async false
set_option linter.all false
set_option maxRecDepth 100000
set_option maxHeartbeats 1000000
set_option autoImplicit false
/-! Own classes: + by an own __add__, calls by an own __call__. -/
namespace Wx
open PySem L2 PyProof.Rows
section
variable {X : Cx} {k : Nat} {C f : Addr} {fd : FuncData} {ps : List Str} {sp : Sp}
def rADDO (C : Addr) (sp : Sp) : R2 := fun x y H Q => ∃ a b dx dy fs gs, x = .ref a ∧ y = .ref b ∧ H a = some (.ins C dx fs) ∧ H b = some (.ins C dy gs) ∧ sp [.ref a, .ref b] H Q E0
theorem back_of {pins : List (Addr × Obj)} {σ : L2.St} {Q : VK} {u : Value} {s : Shared} (h : EP X pins σ Q u s) : PySem.W.CmpBack (EP X pins σ Q) u s := by
  cases u <;> first | exact h | (obtain ⟨v, H', _, r, _⟩ := h; have z := r.abs; cases z)
theorem opADDO (F : FnOk X.prog X.w X.K X.mg X.base CX0 k f fd ps sp) (hs : PySem.W.findIn X.K (.ref C) "__add__" = some (some (.ref f))) (hf : PySem.W.isFn X.K (.ref f) = true) (hc : PySem.W.selfFirst X.K C = true) (hb : Binds X.K fd ps []) (hr : Room k X.A) : OpR X (binaryOp .Add) (rADDO C sp) := by
  intro pins s σ H x y v u Q I rx ry h
  obtain ⟨a, b, dx, dy, fs, gs, rfl, rfl, ha, hb', hsp⟩ := h
  cases rx
  cases ry
  obtain ⟨mA, O, _⟩ := ins_get I.hok ha
  obtain ⟨od, J, _⟩ := O.look
  obtain ⟨mB, O', _⟩ := ins_get I.hok hb'
  obtain ⟨od', J', _⟩ := O'.look
  obtain ⟨m, hF⟩ := I.fr
  refine PySem.W.binop_K (op := .Add) hF I.ok.mod.kin J J'.type hc hs hf (wpAny_mono (run_fn (us := [.ref a, .ref b]) (vs := [.ref a, .ref b]) (dvs := []) (Q := Q) F hr hb .nil pass0 I (.cons rfl (.cons rfl .nil)) hsp) (fun v' s' z => back_of z) fun _ _ z => z)
/-- o(..), o an instance of C -/
def tCALL (C : Addr) (sp : Sp) (tf : TE) (t : TA) : TE := fun σ H Q => tf σ H fun y H1 => ∃ a, y = V.ref a ∧ t σ H1 fun vs H2 => (∃ dx fs, H2 a = some (.ins C dx fs)) ∧ sp (V.ref a :: vs) H2 Q E0
theorem pe_callX {fe e : Expr} {es : List Expr} {pos : Pos} {tf : TE} {t : TA} (hf : PE X fe tf) (c : StX.CallO X.K C f) (F : FnOk X.prog X.w X.K X.mg X.base CX0 k f fd ps sp) (hb : Binds X.K fd ps []) (hr : Room k X.A) (ha : PA X (e :: es) t)
    (ht : eval (.Call fe (e :: es) [] pos) X.env = (do callWith pos (← eval fe X.env) [] (backTo pos (starEach (e :: es) X.env)) (backToKw pos (keywordEach [] X.env))) := by rfl)
    (he : starEach (e :: es) X.env = (false, eval e X.env) :: starEach es X.env := by rfl) (hpl : (backTo pos (starEach es X.env)).any (·.1) = false := by rfl) : PE X (.Call fe (e :: es) [] pos) (tCALL C sp tf t) := by
  have R : FnR X.prog X.w X.K X.mg X.base CX0 k f sp := fun A outer s H us vs Q E r e0 rv hs => by
    have inK : X.K.In s.heap := e0.mod.kin.keeps fun b o z => (e0.bs b o z).1
    have z := hb s us inK (by rw [List.append_nil, ← rv.length]; exact F.len _ _ _ _ hs)
    rw [List.append_nil] at z
    exact F.run A outer s H ⟨us, []⟩ us vs Q E r e0 z rv hs
  constructor
  intro pins s σ H Q I h
  refine Call_ (thn (hf.run pins s σ H _ I h) fun u s1 q => ?_) ht
  obtain ⟨y, H1, I1, ry, a, rfl, q⟩ := q
  cases ry
  refine StX.callO_with (thn (ha.run pos pins s1 σ H1 _ I1 q) fun us s2 q2 => ?_) he hpl
  obtain ⟨vs, H2, I2, r, ⟨dx, fs, hi⟩, q3⟩ := q2
  obtain ⟨ox, od, J, hd⟩ := StX.insC_at I2 (.inr ⟨dx, fs, hi⟩)
  exact ⟨⟨C, ox, od, J, hd⟩, StX.run_callO c R hr pass0 I2 (.inr ⟨dx, fs, hi⟩) r q3⟩
end
section
variable {c : Cy} {sl : List Slo} {nn n : Nat} {C : Addr} {fs gs : List (Str × PyData)} {te : TE} {ta : TA} {Φ : D → Nat → Prop} {K : PySem.W.Frag}
theorem rw_addO {ι : Type} {ar : ι → List D} {pre : ι → Nat → Prop} {post : ι → Nat → D → Nat → Prop} (hK : K = c.K) (h : ∃ z, [D.ins C fs, .ins C gs] = ar z ∧ pre z n ∧ ∀ d m, post z n d m → outD d = true ∧ Φ d m) : Rw c (rADDO C (SpX K ar pre post)) (.ins C fs) (.ins C gs) n Φ := ⟨fun A H v1 v2 a x1 x2 Q k => by
  obtain ⟨z, p2, p3, p4⟩ := h
  have y1 := x1
  have y2 := x2
  obtain ⟨b, dx, ws, rfl, nA, r, _⟩ := y1
  obtain ⟨b', dx', ws', rfl, nA', r', _⟩ := y2
  exact ⟨b, b', dx, dx', ws, ws', rfl, rfl, r, r', sx_at (ds := [.ins C fs, .ins C gs]) hK a ⟨x1, x2, True.intro⟩ rfl z p2 p3 p4 k⟩⟩
theorem wp_callX {ι : Type} {ar : ι → List D} {pre : ι → Nat → Prop} {post : ι → Nat → D → Nat → Prop} (hK : K = c.K) (h : Wp c te ⟨sl, nn⟩ fun d n => ∃ fs, d = .ins C fs ∧ Wa c ta ⟨sl, n⟩ fun ds n => ds.all argOk = true ∧ ∃ z, (D.ins C fs :: ds.map arg) = ar z ∧ pre z n ∧ ∀ d m, post z n d m → outD d = true ∧ Φ d m) :
    Wp c (tCALL C (SpX K ar pre post) te ta) ⟨sl, nn⟩ Φ := ⟨fun σ A H o Q k => by
  refine h.run σ A H o _ fun v H1 d n p e1 g1 x => ?_
  obtain ⟨fs, rfl, p⟩ := p
  have o1 := o.keep e1 g1
  have y := x
  obtain ⟨a, dx, ws, rfl, nA, r, t⟩ := y
  refine ⟨a, rfl, p.run σ A H1 o1 _ fun vs H2 ds n2 p e2 g2 ys => ?_⟩
  obtain ⟨p1, z, p2, p3, p4⟩ := p
  refine ⟨⟨dx, ws, e2 a _ (fun q => nA (o.k a q)) r⟩, ?_⟩
  exact sx_at (ds := .ins C fs :: ds) hK (o1.keep e2 g2).at_ ⟨x.keep e2 o.k, ys⟩ (by rw [List.all_cons, p1]; rfl) z p2 p3 p4 fun v H2 d m q e3 g3 y => k v H2 d m q ((e1.trans e2).trans e3) g3 y⟩
end

theorem starK {X : Cx} {K : PySem.W.Frag} {e : Expr} {es : List Expr} {te : TE} {t : TA} {p : Pos} (h : X.K = K) (he : PE X e te) (ht : PA X es t) : PA X (.Starred e p :: es) (StX.tStar K te t) := h ▸ StX.pa_star he ht

section
variable {c : Cy} {sl : List Slo} {nn n : Nat} {te : TE} {t : TA} {K : PySem.W.Frag}
theorem dxs_py {A : Addr → Prop} {H : Hp} : ∀ {xs : List V} {ps : List PyData}, DaL c.K A H xs ps → DXs c A H xs (ps.map D.py)
  | _, _, .nil => True.intro
  | _, _, .cons h t => ⟨h, dxs_py t⟩
theorem DXs.app {A : Addr → Prop} {H : Hp} : ∀ {xs ys : List V} {ds es : List D}, DXs c A H xs ds → DXs c A H ys es → DXs c A H (xs ++ ys) (ds ++ es)
  | [], _, [], _, _, h => h
  | _ :: _, _, _ :: _, _, ⟨h, t⟩, u => ⟨h, DXs.app t u⟩
  | [], _, _ :: _, _, h, _ => h.elim
  | _ :: _, _, [], _, h, _ => h.elim
/-- *e among the items -/
theorem wa_star {Φ : List D → Nat → Prop} (hK : K = c.K) (h : Wp c te ⟨sl, nn⟩ fun d n => Sq d fun ps => Wa c t ⟨sl, n⟩ fun ds m => Φ (ps.map D.py ++ ds) m) : Wa c (StX.tStar K te t) ⟨sl, nn⟩ Φ := ⟨fun σ A H o Q k => by
  subst hK
  refine h.run σ A H o _ fun v H1 d n p e1 g1 x => ?_
  have o1 := o.keep e1 g1
  obtain ⟨a, xs, ps, rfl, hs, tl, p⟩ := sq_of p x
  refine ⟨a, xs, rfl, hs.symm, p.run σ A H1 o1 _ fun vs H2 ds m q e2 g2 ys => ?_⟩
  exact k (xs ++ vs) H2 _ m q (e1.trans e2) g2 ((dxs_py (tl.keep (e2.kept o.k))).app ys)⟩
theorem pys_py {ps : List PyData} {r : List D} {k : List PyData → Prop} (h : Pys r fun qs => k (ps ++ qs)) : Pys (ps.map D.py ++ r) k := by
  induction ps generalizing k with
  | nil => exact h
  | cons p ps ih => exact ih (k := fun qs => k (p :: qs)) h
end

section
variable {c : Cy} {sl : List Slo} {nn : Nat} {te : TE} {K : PySem.W.Frag} {P : Po}
def Tp2 (d : D) (k : PyData → PyData → Prop) : Prop := match d with
  | .py (.tuple [p, q]) => k p q
  | _ => False
theorem tp2_mk {p q : PyData} {k : PyData → PyData → Prop} (h : k p q) : Tp2 (.py (.tuple [p, q])) k := h
theorem ws_pair2 {i j : Nat} (hK : K = c.K) (h : Wp c te ⟨sl, nn⟩ fun d n => Tp2 d fun p q => P.nx ⟨(sl.set i (.val (.py p))).set j (.val (.py q)), n⟩) (hi : i < sl.length) (hj : j < sl.length) : Ws c (tAsg te (gTup K 2 (gCons (gName i) (gCons (gName j) gNil)))) ⟨sl, nn⟩ P := by
  refine ws_asg [i, j] (h.mono fun d n x => ?_)
  match d, x with
  | .py (.tuple [p, q]), x => exact wg_pair hK ⟨p, q, rfl, wg_name ⟨rfl, wg_name ⟨rfl, x⟩ (by show j < (sl.set i _).length; rw [List.length_set]; exact hj) (by simp)⟩ hi (by simp)⟩
end
end Wx

/-! ### part V1 -/
set_option Elab.async false
set_option linter.all false
set_option maxRecDepth 100000
set_option maxHeartbeats 1000000
set_option autoImplicit false
namespace Wx
open PySem L2

abbrev FnP (K : PySem.W.Frag) (x qual : Str) (st : Stmt) (f : Addr) (fd : FuncData) : Prop := FunD K x qual (defArgs st) (defBody st) (defScope st) [] [] f fd
theorem bt_int : bootBuiltins "int" = some (.type "int") := by decide +kernel
theorem bt_bool : bootBuiltins "bool" = some (.type "bool") := by decide +kernel
theorem bt_str : bootBuiltins "str" = some (.type "str") := by decide +kernel
theorem bt_tuple : bootBuiltins "tuple" = some (.type "tuple") := by decide +kernel
theorem bt_isinstance : bootBuiltins "isinstance" = some (.builtin "isinstance") := by decide +kernel
theorem bt_max : bootBuiltins "max" = some (.builtin "max") := by decide +kernel
theorem bt_min : bootBuiltins "min" = some (.builtin "min") := by decide +kernel
theorem bt_all : bootBuiltins "all" = some (.builtin "all") := by decide +kernel
section
variable {P : Program} {w : World} {K : PySem.W.Frag} {mg : Str → Option Value} {base : Heap} {f : Addr} {fd : FuncData}
/-! ## is_int -/
abbrev sp_is_int (K : PySem.W.Frag) : Sp := SpX (ι := Int) K (fun i => [.py (.int i)]) (fun _ _ => True) fun _ n d m => d = .py (.bool true) ∧ m = n
theorem ln_is_int (i : Int) : [D.py (.int i)].length = 1 := rfl
theorem nm_is_int (i : Int) : [D.py (.int i)].all D.nm = true := rfl
theorem sc_is_int : FnScope ["value"] ["value"] (defScope (top 22)) := ⟨rfl, rfl, rfl, by decide +kernel, rfl, by decide +kernel, by decide +kernel⟩
theorem ok_is_int (F : FnP K "is_int" "is_int" (top 22) f fd) (g_isinstance : mg "isinstance" = none) (g_int : mg "int" = none) (g_bool : mg "bool" = none) : FnOk P w K mg base CX0 1 f fd ["value"] (sp_is_int K) := by
  refine F.ok sc_is_int (sx_len ln_is_int) (fun cdv A outer s H vs Q E hr h => ?_)
  have nd := sc_is_int.nd
  refine ⟨_, PSs.nox (pss_one (ps_ret (pe_and (pe_callB (isiK (K := K) rfl) rfl g_isinstance bt_isinstance (pa_cons (pv 0) (pa_cons (pe_bltn (v := .ty "int") rfl g_int bt_int rfl) pa_nil))) (pe_one (pe_not (pe_callB (isiK (K := K) rfl) rfl g_isinstance bt_isinstance (pa_cons (pv 0) (pa_cons (pe_bltn (v := .ty "bool") rfl g_bool bt_bool rfl) pa_nil)))))))), ?_⟩
  refine body_x nm_is_int ?_ vs H Q E h
  clear h hr
  intro c n x hK hp
  (subst hK)
  try clear g_isinstance g_int g_bool F
  walk_at "WK"
  refine ⟨fun _ => ?_, fun h => nomatch h⟩
  walk_at "WK"
  trivial
/-! ## in_range -/
abbrev sp_in_range (K : PySem.W.Frag) : Sp := SpX (ι := Int × Int × Int) K (fun x => [.py (.int x.1), .py (.int x.2.1), .py (.int x.2.2)]) (fun _ _ => True) fun x n d m => d = .py (.bool (decide (x.2.1 ≤ x.1 ∧ x.1 ≤ x.2.2))) ∧ m = n
theorem ln_in_range (x : Int × Int × Int) : [D.py (.int x.1), .py (.int x.2.1), .py (.int x.2.2)].length = 3 := rfl
theorem nm_in_range (x : Int × Int × Int) : [D.py (.int x.1), .py (.int x.2.1), .py (.int x.2.2)].all D.nm = true := rfl
theorem sc_in_range : FnScope ["value", "low", "high"] ["value", "low", "high"] (defScope (top 23)) := ⟨rfl, rfl, rfl, by decide +kernel, rfl, by decide +kernel, by decide +kernel⟩
theorem ok_in_range (F : FnP K "in_range" "in_range" (top 23) f fd) (S_is_int : Std P w K mg base 1 "is_int" ["value"] (sp_is_int K)) : FnOk P w K mg base CX0 2 f fd ["value", "low", "high"] (sp_in_range K) := by
  refine F.ok sc_in_range (sx_len ln_in_range) (fun cdv A outer s H vs Q E hr h => ?_)
  have nd := sc_in_range.nd
  refine ⟨_, PSs.nox (pss_one (ps_ret (pe_and (pe_std S_is_int hr rfl (pa_cons (pv 0) (pa_nil))) (pe_one (pe_chain op_le op_le (pv 1) (pv 0) (pv 2)))))), ?_⟩
  refine body_x nm_in_range ?_ vs H Q E h
  clear h hr
  intro c n x hK hp
  (subst hK)
  try clear S_is_int F
  walk_at "WK"
  refine ⟨x.1, rfl, trivial, ?_⟩
  rintro d m ⟨rfl, rfl⟩
  refine ⟨rfl, ?_⟩
  walk_at "WK"
  refine ⟨fun _ => ?_, fun h => nomatch h⟩
  walk_at "WK"
  refine ⟨fun h1 => ?_, fun h1 => ?_⟩
  · walk_at "WK"
    have h2 := of_decide_eq_true h1
    exact ⟨by simp [frz, h2], rfl⟩
  · have h2 := of_decide_eq_false h1
    exact ⟨by simp [frz, h2], rfl⟩
/-! ## is_constant -/
abbrev sp_is_constant (K : PySem.W.Frag) : Sp := SpX (ι := Int) K (fun x => [.py (.int x)]) (fun _ _ => True) fun x n d m => d = .py (.bool (decide (-(10 ^ 30) ≤ x ∧ x ≤ 10 ^ 30))) ∧ m = n
theorem ln_is_constant (x : Int) : [D.py (.int x)].length = 1 := rfl
theorem nm_is_constant (x : Int) : [D.py (.int x)].all D.nm = true := rfl
theorem sc_is_constant : FnScope ["value"] ["value"] (defScope (top 24)) := ⟨rfl, rfl, rfl, by decide +kernel, rfl, by decide +kernel, by decide +kernel⟩
theorem ok_is_constant (F : FnP K "is_constant" "is_constant" (top 24) f fd) (S_in_range : Std P w K mg base 2 "in_range" ["value", "low", "high"] (sp_in_range K)) (i_GREATEST : GInt mg "GREATEST" (10 ^ 30)) : FnOk P w K mg base CX0 3 f fd ["value"] (sp_is_constant K) := by
  refine F.ok sc_is_constant (sx_len ln_is_constant) (fun cdv A outer s H vs Q E hr h => ?_)
  have nd := sc_is_constant.nd
  refine ⟨_, PSs.nox (pss_one (ps_ret (pe_std S_in_range hr rfl (pa_cons (pv 0) (pa_cons (pe_un un_neg (pe_gint i_GREATEST rfl)) (pa_cons (pe_gint i_GREATEST rfl) (pa_nil))))))), ?_⟩
  refine body_x nm_is_constant ?_ vs H Q E h
  clear h hr
  intro c n x hK hp
  (subst hK)
  try clear S_in_range i_GREATEST F
  walk_at "WK"
  refine ⟨(x, -(10 ^ 30), 10 ^ 30), rfl, trivial, ?_⟩
  rintro d m ⟨rfl, rfl⟩
  exact ⟨rfl, rfl, rfl⟩
/-! ## cut_pair -/
abbrev sp_cut_pair (K : PySem.W.Frag) : Sp := SpX (ι := Int × List Src) K (fun x => [.py (.int x.1), .py (srcs x.2)]) (fun _ _ => True) fun x n d m => d = .py (.tuple [.int (cut x.1 x.2).1, srcs (cut x.1 x.2).2]) ∧ m = n
theorem ln_cut_pair (x : Int × List Src) : [D.py (.int x.1), .py (srcs x.2)].length = 2 := rfl
theorem nm_cut_pair (x : Int × List Src) : [D.py (.int x.1), .py (srcs x.2)].all D.nm = true := rfl
theorem sc_cut_pair : FnScope ["taken", "left", "lowest"] ["taken", "left"] (defScope (top 52)) := ⟨rfl, rfl, rfl, by decide +kernel, rfl, by decide +kernel, by decide +kernel⟩
theorem ok_cut_pair (F : FnP K "cut_pair" "cut_pair" (top 52) f fd) (g_len : mg "len" = none) : FnOk P w K mg base CX0 1 f fd ["taken", "left"] (sp_cut_pair K) := by
  refine F.ok sc_cut_pair (sx_len ln_cut_pair) (fun cdv A outer s H vs Q E hr h => ?_)
  have nd := sc_cut_pair.nd
  refine ⟨_, PSs.nox (pss_cons (ps_set (i := 2) nd rfl (Or.inl rfl) (pe_int))
 (pss_cons (ps_while PassesOwn.never (PW.pt (pw_and (pt_cmpR op_lt (pv 2) (pe_callB (lenK (K := K) rfl) rfl g_len PySem.boot_len (pa_cons (pv 1) (pa_nil))) (nomark _)) (pw_and (pt_cmpR (eqK (K := K) rfl (room64 hr)) (pe_ix (ixK (K := K) rfl) (pv 1) (pv 2) (fun _ _ => rfl)) (pe_tup (pa_cons (pe_str) (pa_cons (pe_op op_sub (pv 0) (pe_int)) (pa_nil)))) (nomark _)) (pw_and1 (pt_cmpR (niK (K := K) rfl (room65 hr)) (pe_ix (ixK (K := K) rfl) (pv 1) (pv 2) (fun _ _ => rfl)) (pe_slice (slK (K := K) rfl) (pv 1) (po_some (pe_op (addK (K := K) rfl) (pv 2) (pe_int))) po_none) (by rfl)))))) (pss_one (ps_par (i := 2) (j := 0) rfl nd rfl rfl (by decide) rfl rfl (pa_cons (pe_op (addK (K := K) rfl) (pv 2) (pe_int)) (pa_cons (pe_op op_sub (pv 0) (pe_int)) (pa_nil))) rfl)))
 (pss_one (ps_ret (pe_tup (pa_cons (pv 0) (pa_cons (pe_slice (slK (K := K) rfl) (pv 1) (po_some (pv 2)) po_none) (pa_nil)))))))), ?_⟩
  refine body_x nm_cut_pair ?_ vs H Q E h
  clear h hr
  intro c n x hK hp
  (subst hK)
  try clear g_len F
  obtain ⟨t, l⟩ := x
  walk_at "WK"
  refine ws_while (fun m e1 => ∃ (ti : Int) (lo : Nat), lo ≤ l.length ∧ m = l.length - lo ∧ cut t l = cut ti (l.drop lo) ∧ e1 = ⟨[.val (.py (.int ti)), .val (.py (srcs l)), .val (.py (.int lo))], n⟩) ⟨_, t, 0, Nat.zero_le _, rfl, rfl, rfl⟩ ?_
  rintro m e1 ⟨ti, lo, hlo, rfl, hc, rfl⟩
  have fin : cut ti (l.drop lo) = (ti, l.drop lo) → Ws c (tRet (tTup (tCons (tVar 0) (tCons (tSl (rSL c.K) (tVar 1) (tPart (tVar 2)) tNoPart) tNil)))) ⟨[.val (.py (.int ti)), .val (.py (srcs l)), .val (.py (.int lo))], n⟩ ⟨fun e => D.py .none = .py (.tuple [.int (cut t l).1, srcs (cut t l).2]) ∧ e.n = n, fun d m => d = .py (.tuple [.int (cut t l).1, srcs (cut t l).2]) ∧ m = n, fun _ => False, fun _ => False⟩ := fun q => by
    walk_at "WK"
    refine ⟨?_, rfl⟩
    rw [cut_from _ _ (by rw [pys_len]; exact hlo), hc, q, pys_drop]
    rfl
  walk_at "WK"
  rw [pys_len]
  refine ⟨fun h1 => ?_, fun h1 => ?_⟩
  · have h1' : lo < l.length := by have := of_decide_eq_true h1; omega
    have hd : l.drop lo = l[lo] :: l.drop (lo + 1) := List.drop_eq_getElem_cons h1'
    walk_at "WK"
    refine ⟨l[lo].py, pys_at (by simp [h1']), ?_⟩
    walk_at "WK"
    rw [eqv_inp]
    walk_at "WK"
    refine ⟨fun h2 => ?_, fun h2 => ?_⟩
    · walk_at "WK"
      refine ⟨l[lo].py, pys_at (by simp [h1']), ?_⟩
      walk_at "WK"
      rw [show ((lo : Int) + 1) = ((lo + 1 : Nat) : Int) by omega, cut_from _ _ (by rw [pys_len]; exact h1'), pys_drop]
      refine ⟨shp_srcs _, ?_⟩
      rw [mem_src]
      walk_at "WK"
      have h2' := of_decide_eq_true h2
      refine ⟨fun h3 => ?_, fun h3 => ?_⟩
      · have h3' : ¬ l[lo] ∈ l.drop (lo + 1) := by simpa using h3
        walk_at "WK"
        refine ⟨l.length - (lo + 1), by omega, ti - 1, lo + 1, h1', rfl, ?_, ?_⟩
        · rw [hc, hd, cut, if_pos ⟨h2', h3'⟩]
        · rw [show ((lo : Int) + 1) = ((lo + 1 : Nat) : Int) by omega]; rfl
      · have h3' : l[lo] ∈ l.drop (lo + 1) := by simpa using h3
        exact fin (by rw [hd, cut, if_neg fun z => z.2 h3'])
    · have h2' := of_decide_eq_false h2
      exact ⟨fun z => (nomatch z), fun _ => fin (by rw [hd, cut, if_neg fun z => h2' z.1])⟩
  · have h1' : ¬ lo < l.length := by have := of_decide_eq_false h1; omega
    exact ⟨fun z => (nomatch z), fun _ => fin (by rw [List.drop_of_length_le (by omega), cut])⟩
end
end Wx

/-! ### part V2 -/
set_option Elab.async false
set_option linter.all false
set_option maxRecDepth 100000
set_option maxHeartbeats 1000000
set_option autoImplicit false
namespace Wx
open PySem L2

section
variable {P : Program} {w : World} {K : PySem.W.Frag} {mg : Str → Option Value} {base : Heap} {f : Addr} {fd : FuncData}
/-! ## the source at a depth -/
def srcAt (t : Int) (l : List Src) (d : Int) : Src := if d < l.length then (l[((l.length : Int) - 1 - d).toNat]?).getD (.inp 0) else .inp (d + t - l.length)
theorem srcAt_py {t d : Int} {l : List Src} (h0 : 0 ≤ d) (h : d < l.length) : atI (pys l) ((l.length : Int) - 1 - d) = some (srcAt t l d).py := by
  have h2 : ((l.length : Int) - 1 - d).toNat < l.length := by omega
  have h3 : ((l.length : Int) - 1 - d) = ((((l.length : Int) - 1 - d).toNat : Nat) : Int) := by omega
  rw [h3]
  unfold srcAt
  rw [if_pos h, List.getElem?_eq_getElem h2, Option.getD_some]
  exact pys_at (by rw [List.getElem?_eq_getElem h2])
abbrev sp_source_in (K : PySem.W.Frag) : Sp := SpX (ι := Int × List Src × Int) K (fun x => [.py (.tuple [.int x.1, srcs x.2.1]), .py (.int x.2.2)]) (fun x _ => 0 ≤ x.2.2) fun x n d m => d = .py (srcAt x.1 x.2.1 x.2.2).py ∧ m = n
theorem ln_source_in (x : Int × List Src × Int) : [D.py (.tuple [.int x.1, srcs x.2.1]), .py (.int x.2.2)].length = 2 := rfl
theorem nm_source_in (x : Int × List Src × Int) : [D.py (.tuple [.int x.1, srcs x.2.1]), .py (.int x.2.2)].all D.nm = true := rfl
theorem sc_source_in : FnScope ["pair", "depth", "taken", "left"] ["pair", "depth"] (defScope (top 53)) := ⟨rfl, rfl, rfl, by decide +kernel, rfl, by decide +kernel, by decide +kernel⟩
theorem ok_source_in (F : FnP K "source_in" "source_in" (top 53) f fd) (g_len : mg "len" = none) : FnOk P w K mg base CX0 1 f fd ["pair", "depth"] (sp_source_in K) := by
  refine F.ok sc_source_in (sx_len ln_source_in) (fun cdv A outer s H vs Q E hr h => ?_)
  have nd := sc_source_in.nd
  refine ⟨_, PSs.nox (pss_cons (ps_asg (pv 0) (gtupK (K := K) (n := 2) rfl rfl (pgs_cons (pg_name (i := 2) nd rfl (Or.inl rfl)) (pgs_cons (pg_name (i := 3) nd rfl (Or.inl rfl)) (pgs_nil)))))
 (pss_one (ps_ret (pe_ifExp (pt_cmpR op_lt (pv 1) (pe_callB (lenK (K := K) rfl) rfl g_len PySem.boot_len (pa_cons (pv 3) (pa_nil))) (nomark _)) (pe_ix (ixK (K := K) rfl) (pv 3) (pe_op op_sub (pe_op op_sub (pe_callB (lenK (K := K) rfl) rfl g_len PySem.boot_len (pa_cons (pv 3) (pa_nil))) (pe_int)) (pv 1)) (fun _ _ => rfl)) (pe_tup (pa_cons (pe_str) (pa_cons (pe_op op_sub (pe_op (addK (K := K) rfl) (pv 1) (pv 2)) (pe_callB (lenK (K := K) rfl) rfl g_len PySem.boot_len (pa_cons (pv 3) (pa_nil)))) (pa_nil)))))))), ?_⟩
  refine body_x nm_source_in ?_ vs H Q E h
  clear h hr
  intro c n x hK hp
  (subst hK)
  try clear g_len F
  obtain ⟨t, l, d⟩ := x
  have hp' : 0 ≤ d := hp
  walk_at "WK"
  walk_at "WK"
  rw [pys_len]
  refine ⟨fun h1 => ?_, fun h1 => ?_⟩
  · have h2 := of_decide_eq_true h1
    walk_at "WK"
    rw [pys_len]
    exact ⟨_, srcAt_py hp' h2, rfl, rfl⟩
  · have h2 := of_decide_eq_false h1
    walk_at "WK"
    rw [pys_len]
    refine ⟨?_, rfl⟩
    unfold srcAt
    rw [if_neg h2]
    rfl
/-! ## the law's own -/
end
end Wx

/-! ### part V3 -/
set_option Elab.async false
set_option linter.all false
set_option maxRecDepth 100000
set_option maxHeartbeats 1000000
set_option autoImplicit false
namespace Wx
open PySem L2

/-! ## the draws -/
def Vl (te : TE) (σ : St) (H : Hp) (v : V) : Prop := ∀ Q : VK, Q v H → te σ H Q
theorem vl_c {σ : St} {H : Hp} {v : V} : Vl (tC v) σ H v := fun _ q => q
theorem vl_v {σ : St} {H : Hp} {i : Nat} {v : V} (h : σ[i]? = some (some v)) : Vl (tVar i) σ H v := fun _ q => ⟨v, h, q⟩
theorem vl_op {σ : St} {H : Hp} {r : R2} {ta tb : TE} {x y z : V} (a : Vl ta σ H x) (b : Vl tb σ H y) (h : ∀ Q : VK, Q z H → r x y H Q) : Vl (tOp r ta tb) σ H z := fun Q q => a _ (b _ (h Q q))
theorem vl_i0 {σ : St} {H : Hp} {g : Int → Int → V} {ta tb : TE} {i j : Int} (a : Vl ta σ H (.int i)) (b : Vl tb σ H (.int j)) : Vl (tOp (rI0 g) ta tb) σ H (g i j) := vl_op a b fun Q q => ⟨i, j, rfl, rfl, q⟩
theorem vl_i {σ : St} {H : Hp} {C : Int → Int → Prop} {g : Int → Int → V} {ta tb : TE} {i j : Int} (a : Vl ta σ H (.int i)) (b : Vl tb σ H (.int j)) (c : C i j) : Vl (tOp (rI C g) ta tb) σ H (g i j) := vl_op a b fun Q q => ⟨i, j, rfl, rfl, c, q⟩
theorem vl_add {K : PySem.W.Frag} {σ : St} {H : Hp} {ta tb : TE} {i j : Int} (a : Vl ta σ H (.int i)) (b : Vl tb σ H (.int j)) : Vl (tOp (rADD K) ta tb) σ H (.int (i + j)) := vl_op a b fun Q q => .inl ⟨i, j, rfl, rfl, q⟩
theorem vl_mul {σ : St} {H : Hp} {ta tb : TE} {i j : Int} (a : Vl ta σ H (.int i)) (b : Vl tb σ H (.int j)) (c : CMulW i j) : Vl (tOp rMUL ta tb) σ H (.int (i * j)) := vl_op a b fun Q q => .inl ⟨i, j, rfl, rfl, c, q⟩
theorem vl_pow {σ : St} {H : Hp} {ta tb : TE} {i j : Int} (a : Vl ta σ H (.int i)) (b : Vl tb σ H (.int j)) (c : 2 ≤ i ∧ 1 ≤ j ∧ i < 2 ^ 600 ∧ j ≤ 60) : Vl (tOp rPOW ta tb) σ H (.int (i ^ j.toNat)) := vl_i (g := fun i j => .int (i ^ j.toNat)) a b c
theorem vl_ix {K : PySem.W.Frag} {σ : St} {H : Hp} {ta tb : TE} {p : Addr} {xs : List V} {i : Int} {v : V} (a : Vl ta σ H (.ref p)) (b : Vl tb σ H (.int i)) (h : H p = some (.lst xs)) (g : atI xs i = some v) : Vl (tOp (rIx K) ta tb) σ H v := vl_op a b fun Q q => .inl ⟨p, xs, i, v, rfl, rfl, SqL.of h, g, q⟩
theorem ts_set {σ : St} {H : Hp} {te : TE} {i : Nat} {v : V} {Dn : Ends} (a : Vl te σ H v) (h : Dn.nx (σ.set i (some v)) H) : tAsg te (gName i) Dn σ H := a _ h
theorem ts_sub {σ : St} {H : Hp} {te to ti : TE} {v : V} {p : Addr} {xs : List V} {k : Int} {j : Nat} {Dn : Ends} (a : Vl te σ H v) (b : Vl to σ H (.ref p)) (d : Vl ti σ H (.int k)) (h : H p = some (.lst xs)) (hj : ixN xs.length k = some j) (q : Dn.nx σ (upd H p (.lst (xs.set j v)))) : tAsg te (gSub to ti rSetL) Dn σ H :=
  a _ (b _ (d _ ⟨p, xs, k, j, rfl, rfl, h, hj, q⟩))
theorem ts_seq {σ : St} {H : Hp} {t u : TS} {Dn : Ends} (h : t { Dn with nx := u Dn } σ H) : tSeq t u Dn σ H := h
theorem ts_if {σ : St} {H : Hp} {te : TE} {b : Bool} {t u : TS} {Dn : Ends} (a : Vl te σ H (.bl b)) (h1 : b = true → t Dn σ H) (h2 : b = false → u Dn σ H) : tIfS (tTest te) t u Dn σ H := a _ ⟨b, rfl, by
  cases b with
  | true => exact iteT (h1 rfl)
  | false => exact iteF (h2 rfl)⟩
theorem ts_ret {σ : St} {H : Hp} {te : TE} {v : V} {Dn : Ends} (a : Vl te σ H v) (h : Dn.rt v H) : tRet te Dn σ H := a _ h
theorem ts_next {σ : St} {H : Hp} {Dn : Ends} (h : Dn.nx σ H) : tNext Dn σ H := h
theorem upd_upd {H : Hp} {p : Addr} {o u : HO} : upd (upd H p o) p u = upd H p u := by
  funext a
  by_cases q : a = p
  · rw [q, upd_same, upd_same]
  · rw [upd_ne q, upd_ne q, upd_ne q]
theorem pos_fmod {i j : Int} (h : 0 < j) : 0 ≤ i.fmod j ∧ i.fmod j < j := by
  rw [Int.fmod_eq_emod_of_nonneg i (by omega)]
  exact ⟨Int.emod_nonneg i (by omega), Int.emod_lt_of_pos i h⟩
section
variable {P : Program} {w : World} {K : PySem.W.Frag} {mg : Str → Option Value} {base : Heap} {f : Addr} {fd : FuncData}
abbrev sp__law_pick (K : PySem.W.Frag) : Sp := SpX (ι := Int) K (fun b => [.kln, .py (.int b)]) (fun b n => 0 < b ∧ b < 2 ^ 200 ∧ n < 2 ^ 100) fun b n d m => ∃ r : Int, d = .py (.int r) ∧ 0 ≤ r ∧ r < b ∧ m = n + 1
theorem ln__law_pick (b : Int) : [D.kln, .py (.int b)].length = 2 := rfl
theorem nm__law_pick (b : Int) : [D.kln, .py (.int b)].all D.nm = true := rfl
theorem sc__law_pick : FnScope ["bag", "many", "first", "second", "told"] ["bag", "many"] (defScope (top 75)) := ⟨rfl, rfl, rfl, by decide +kernel, rfl, by decide +kernel, by decide +kernel⟩
theorem ok__law_pick (F : FnP K "_law_pick" "_law_pick" (top 75) f fd)  : FnOk P w K mg base CX0 1 f fd ["bag", "many"] (sp__law_pick K) := by
  refine F.ok sc__law_pick (sx_len ln__law_pick) (fun cdv A outer s H vs Q E hr h => ?_)
  have nd := sc__law_pick.nd
  refine ⟨_, PSs.nox (pss_cons (ps_asg (pe_op (addK (K := K) rfl) (pe_ix (ixK (K := K) rfl) (pv 0) (pe_int) (fun _ _ => rfl)) (pe_int)) (pg_sub (pv 0) (pe_int) set_list))
 (pss_cons (ps_if (pt_cmpR op_gt (pe_ix (ixK (K := K) rfl) (pv 0) (pe_int) (fun _ _ => rfl)) (pe_int) (nomark _)) (pss_cons (ps_set (i := 4) nd rfl (Or.inl rfl) (pe_op op_modN (pe_ix (ixK (K := K) rfl) (pv 0) (pe_int) (fun _ _ => rfl)) (pv 1)))
 (pss_cons (ps_asg (pe_op op_fdivW (pe_ix (ixK (K := K) rfl) (pv 0) (pe_int) (fun _ _ => rfl)) (pv 1)) (pg_sub (pv 0) (pe_int) set_list))
 (pss_one (ps_ret (pv 4))))) (pss_nil))
 (pss_cons (ps_set (i := 2) nd rfl (Or.inl rfl) (pe_op op_modN (pe_op (addK (K := K) rfl) (pe_op (addK (K := K) rfl) (pe_op opMUL (pe_op op_modN (pe_ix (ixK (K := K) rfl) (pv 0) (pe_int) (fun _ _ => rfl)) (pe_int)) (pe_int)) (pe_op opMUL (pe_ix (ixK (K := K) rfl) (pv 0) (pe_int) (fun _ _ => rfl)) (pe_int))) (pe_int)) (pe_int)))
 (pss_cons (ps_set (i := 3) nd rfl (Or.inl rfl) (pe_op op_modN (pe_op (addK (K := K) rfl) (pe_op opMUL (pv 2) (pv 2)) (pe_op opMUL (pe_ix (ixK (K := K) rfl) (pv 0) (pe_int) (fun _ _ => rfl)) (pe_int))) (pe_int)))
 (pss_one (ps_ret (pe_op op_modN (pe_op op_fdivW (pe_op (addK (K := K) rfl) (pe_op opMUL (pv 2) (pe_int)) (pv 3)) (pe_int)) (pv 1)))))))), ?_⟩
  refine body_x nm__law_pick ?_ vs H Q E h
  clear h hr
  intro c n x hK hp
  (subst hK)
  try clear F
  refine ⟨fun σ A H o Dn nx rt _ _ => ?_⟩
  obtain ⟨_, v0, s0, p, rfl, hk⟩ := o.val 0 .kln rfl
  obtain ⟨_, v1, s1, x1⟩ := o.val 1 (.py (.int x)) rfl
  cases Da.int_eq x1
  obtain ⟨a, b, m, hq, ha, _, _, hm, hmn⟩ := o.good.kl p hk
  obtain ⟨b0, b1, nb⟩ := hp
  have len : σ.length = 5 := o.len
  have hmn' : m ≤ (n : Int) := hmn
  have g2 : ∀ {y : Option V}, (σ.set 4 y)[0]? = some (some (V.ref p)) ∧ (σ.set 4 y)[1]? = some (some (V.int x)) ∧ (σ.set 4 y)[4]? = some y := fun {y} =>
    ⟨by rw [List.getElem?_set_ne (by decide)]; exact s0, by rw [List.getElem?_set_ne (by decide)]; exact s1, List.getElem?_set_self (by omega)⟩
  have fin : ∀ (a' m' r : Int), 0 ≤ a' → 0 ≤ m' → m' ≤ (n : Int) + 1 → 0 ≤ r → r < x → Dn.rt (.int r) (upd H p (.lst [.int a', .int b, .int m'])) := fun a' m' r q1 q2 q3 q4 q5 => by
    refine rt (.int r) _ (.py (.int r)) (n + 1) ⟨r, rfl, q4, q5, rfl⟩ (fun z u nn e => by rw [upd_ne (fun q => nn (.inl (by rw [q]; exact hk)))]; exact e) ⟨fun z s => ?_, fun z e => ?_⟩ (.int r)
    · by_cases q : z = p
      · rw [q, upd_same]; exact fun w => nomatch w
      · rw [upd_ne q]; exact o.good.al z s
    · have q : z = p := by rw [hk] at e; exact (Option.some.inj e).symm
      rw [q]
      exact ⟨a', b, m', upd_same, q1, trivial, trivial, q2, by show m' ≤ ((n + 1 : Nat) : Int); omega⟩
  have q0 : (upd H p (.lst [V.int a, .int b, .int (m + 1)])) p = some (.lst [V.int a, .int b, .int (m + 1)]) := upd_same
  refine ts_seq (ts_sub (vl_add (vl_ix (vl_v s0) vl_c hq rfl) vl_c) (vl_v s0) vl_c hq (j := 2) rfl ?_)
  refine ts_seq (ts_if (b := decide (0 < a)) (vl_i0 (g := fun i j => V.bl (decide (j < i))) (vl_ix (vl_v s0) vl_c q0 rfl) vl_c) (fun h1 => ?_) (fun h1 => ?_))
  · have h1' := of_decide_eq_true h1
    refine ts_seq (ts_set (vl_i (g := fun i j => V.int (i.fmod j)) (vl_ix (vl_v s0) vl_c q0 rfl) (vl_v s1) (by omega)) ?_)
    obtain ⟨w0, w1, w3⟩ := @g2 (some (V.int (a.fmod x)))
    refine ts_seq (ts_sub (vl_i (g := fun i j => V.int (i / j)) (vl_ix (vl_v w0) vl_c q0 rfl) (vl_v w1) (wide_div (b := 200) b0 (by omega) (by decide) (by decide))) (vl_v w0) vl_c q0 (j := 0) rfl ?_)
    rw [upd_upd]
    exact ts_ret (vl_v w3) (fin (a / x) (m + 1) (a.fmod x) (Int.ediv_nonneg ha (by omega)) (by omega) (by omega) (pos_fmod b0).1 (pos_fmod b0).2)
  · refine ts_next ?_
    have n1 : m + 1 < 2 ^ 101 := by omega
    have z0 := pos_fmod (i := b) (j := 2147483629) (by decide)
    refine ts_seq (ts_set (vl_i (g := fun i j => V.int (i.fmod j)) (vl_add (vl_add (vl_mul (vl_i (g := fun i j => V.int (i.fmod j)) (vl_ix (vl_v s0) vl_c q0 rfl) vl_c (by decide)) vl_c (wide_mul (a := 32) (b := 17) (by omega) (by decide) (by decide) (by decide) (by decide))) (vl_mul (vl_ix (vl_v s0) vl_c q0 rfl) vl_c (wide_mul (a := 101) (b := 18) (by omega) (by decide) (by decide) (by decide) (by decide)))) vl_c) vl_c (by decide)) ?_)
    generalize hz : (b.fmod 2147483629 * 48271 + (m + 1) * 69621 + 12345).fmod 2147483647 = z
    have z1 := pos_fmod (i := b.fmod 2147483629 * 48271 + (m + 1) * 69621 + 12345) (j := 2147483647) (by decide)
    rw [hz] at z1
    have s0' : (σ.set 2 (some (V.int z)))[0]? = some (some (V.ref p)) := by rw [List.getElem?_set_ne (by decide)]; exact s0
    have s3' : (σ.set 2 (some (V.int z)))[2]? = some (some (V.int z)) := List.getElem?_set_self (by omega)
    refine ts_seq (ts_set (vl_i (g := fun i j => V.int (i.fmod j)) (vl_add (vl_mul (vl_v s3') (vl_v s3') (wide_mul (a := 32) (b := 32) (by omega) (by omega) (by omega) (by omega) (by decide))) (vl_mul (vl_ix (vl_v s0') vl_c q0 rfl) vl_c (wide_mul (a := 101) (b := 16) (by omega) (by decide) (by decide) (by decide) (by decide)))) vl_c (by decide)) ?_)
    generalize hy : (z * z + (m + 1) * 40692).fmod 2147483587 = y
    have y1 := pos_fmod (i := z * z + (m + 1) * 40692) (j := 2147483587) (by decide)
    rw [hy] at y1
    have e1 : ((σ.set 2 (some (V.int z))).set 3 (some (V.int y)))[1]? = some (some (V.int x)) := by rw [List.getElem?_set_ne (by decide), List.getElem?_set_ne (by decide)]; exact s1
    have e3 : ((σ.set 2 (some (V.int z))).set 3 (some (V.int y)))[2]? = some (some (V.int z)) := by rw [List.getElem?_set_ne (by decide)]; exact s3'
    have e4 : ((σ.set 2 (some (V.int z))).set 3 (some (V.int y)))[3]? = some (some (V.int y)) := List.getElem?_set_self (by rw [List.length_set]; omega)
    refine ts_ret (vl_i (g := fun i j => V.int (i.fmod j)) (vl_i (g := fun i j => V.int (i / j)) (vl_add (vl_mul (vl_v e3) vl_c (wide_mul (a := 32) (b := 32) (by omega) (by decide) (by omega) (by decide) (by decide))) (vl_v e4)) vl_c (wide_div (b := 200) (by decide) (by decide) (by decide) (by decide))) (vl_v e1) (by omega)) ?_
    exact fin a (m + 1) _ ha (by omega) (by omega) (pos_fmod b0).1 (pos_fmod b0).2
end
end Wx

/-! ### part V4 -/
set_option Elab.async false
set_option linter.all false
set_option maxRecDepth 100000
set_option maxHeartbeats 1000000
set_option autoImplicit false
namespace Wx
open PySem L2
section
variable {c : Cy} {Φ : D → Nat → Prop}
theorem wp_scoop {sl : List Slo} {nn : Nat} {tb : TE} {i : Nat} {K : PySem.W.Frag} (hK : K = c.K) (h0 : sl[i]? = some (.val .kln)) (h : Wp c tb ⟨sl, nn⟩ fun d n => ∃ b, d = .py (.int b) ∧ 0 < b ∧ b < 2 ^ 200 ∧ n < 2 ^ 100 ∧ ∀ r, 0 ≤ r → r < b → Φ (.py (.int r)) (n + 1)) :
    Wp c (tCall (sp__law_pick K) [] E0 (tCons (tVar i) (tCons tb tNil))) ⟨sl, nn⟩ Φ := by
  refine wp_cx hK (wa_cons (wp_var h0 (wa_cons (h.mono fun d n q => wa_nil ?_))))
  obtain ⟨b, rfl, h1, h2, h3, h4⟩ := q
  refine ⟨rfl, b, rfl, ⟨h1, h2, h3⟩, ?_⟩
  rintro d m ⟨r, rfl, r0, r1, rfl⟩
  exact ⟨rfl, h4 r r0 r1⟩
/-- the places from the top down -/
def downS (t : Int) (k : Nat) : List Src := (List.range k).map fun (j : Nat) => Src.inp (t - 1 + (j : Int) * -1)
theorem downS_succ (t : Int) (k : Nat) : downS t (k + 1) = downS t k ++ [.inp (t - 1 + (k : Int) * -1)] := by
  unfold downS
  rw [List.range_succ, List.map_append]
  rfl
theorem downS_len (t : Int) (k : Nat) : (downS t k).length = k := by unfold downS; rw [List.length_map, List.length_range]
theorem downS_mem {t : Int} {k : Nat} {s : Src} (h : s ∈ downS t k) : ∃ j : Nat, j < k ∧ s = .inp (t - 1 - j) := by
  unfold downS at h
  obtain ⟨j, h1, h2⟩ := List.mem_map.mp h
  exact ⟨j, List.mem_range.mp h1, by rw [← h2]; congr 1; omega⟩
theorem ws_mid {e : En} {t : TS} {P : Po} (J : En → Prop) (h : Ws c t e ⟨J, P.rt, P.bk, P.ct⟩) (k : ∀ e1, J e1 → P.nx e1) : Ws c t e P :=
  ⟨fun σ A H o Dn nx rt bk ct => h.run σ A H o Dn (fun σ' A' H' e' j kp w o' => nx σ' A' H' e' (k e' j) kp w o') rt bk ct⟩
theorem wt_mono {e : En} {t : TT} {Ψ Θ : Bool → Nat → Prop} (h : Wt c t e Θ) (w : ∀ b n, Θ b n → Ψ b n) : Wt c t e Ψ := ⟨fun σ A H o Q k => h.run σ A H o Q fun b H2 n p => k b H2 n (w b n p)⟩
theorem wt_yes {e : En} {Ψ : Bool → Nat → Prop} (h : Ψ true e.n) : Wt c tYes e Ψ := ⟨fun σ A H o Q k => k true H e.n h Ek.refl o.good⟩
theorem at3 {i j k r : Int} (p : Int → Prop) (hi : p i) (hj : p j) (hk : p k) (h0 : 0 ≤ r) (h1 : r < 3) : ∃ v, atI [PyData.int i, .int j, .int k] r = some (.int v) ∧ p v := by
  have q : r = 0 ∨ r = 1 ∨ r = 2 := by omega
  rcases q with rfl | rfl | rfl
  · exact ⟨i, rfl, hi⟩
  · exact ⟨j, rfl, hj⟩
  · exact ⟨k, rfl, hk⟩
theorem at2 {i j r : Int} (p : Int → Prop) (hi : p i) (hj : p j) (h0 : 0 ≤ r) (h1 : r < 2) : ∃ v, atI [PyData.int i, .int j] r = some (.int v) ∧ p v := by
  have q : r = 0 ∨ r = 1 := by omega
  rcases q with rfl | rfl
  · exact ⟨i, rfl, hi⟩
  · exact ⟨j, rfl, hj⟩
end

section
variable {P : Program} {w : World} {K : PySem.W.Frag} {mg : Str → Option Value} {base : Heap} {f : Addr} {fd : FuncData}
def okS (t : Int) : Src → Prop
  | .inp p => 0 ≤ p ∧ p < t
  | .lit v => -(10 ^ 30) ≤ v ∧ v ≤ 10 ^ 30
end
end Wx

/-! ### part V5 -/
set_option Elab.async false
set_option linter.all false
set_option maxRecDepth 100000
set_option maxHeartbeats 1000000
set_option autoImplicit false
namespace Wx
open PySem L2

section
variable {P : Program} {w : World} {K : PySem.W.Frag} {mg : Str → Option Value} {base : Heap} {f C : Addr} {fd : FuncData}
/-! ## is_source -/
def isS : Src → Prop
  | .inp p => 0 ≤ p
  | .lit v => -(10 ^ 30) ≤ v ∧ v ≤ 10 ^ 30
abbrev sp_is_source (K : PySem.W.Frag) : Sp := SpX (ι := Src) K (fun s => [.py s.py]) (fun s _ => isS s) fun _ n d m => d = .py (.bool true) ∧ m = n
theorem ln_is_source (s : Src) : [D.py s.py].length = 1 := rfl
theorem nm_is_source (s : Src) : [D.py s.py].all D.nm = true := rfl
theorem sc_is_source : FnScope ["value"] ["value"] (defScope (top 48)) := ⟨rfl, rfl, rfl, by decide +kernel, rfl, by decide +kernel, by decide +kernel⟩
theorem ok_is_source (F : FnP K "is_source" "is_source" (top 48) f fd) (g_isinstance : mg "isinstance" = none) (g_tuple : mg "tuple" = none) (g_len : mg "len" = none) (g_str : mg "str" = none) (S_is_int : Std P w K mg base 1 "is_int" ["value"] (sp_is_int K)) (S_is_constant : Std P w K mg base 3 "is_constant" ["value"] (sp_is_constant K)) : FnOk P w K mg base CX0 4 f fd ["value"] (sp_is_source K) := by
  refine F.ok sc_is_source (sx_len ln_is_source) (fun cdv A outer s H vs Q E hr h => ?_)
  have nd := sc_is_source.nd
  refine ⟨_, PSs.nox (pss_cons (ps_if (PW.pt (pw_or (pt_not (truK (K := K) rfl (pe_callB (isiK (K := K) rfl) rfl g_isinstance bt_isinstance (pa_cons (pv 0) (pa_cons (pe_bltn (v := .ty "tuple") rfl g_tuple bt_tuple rfl) pa_nil))) (by intro _; rfl))) (pw_or (pt_cmpR (neK (K := K) rfl (room64 hr)) (pe_callB (lenK (K := K) rfl) rfl g_len PySem.boot_len (pa_cons (pv 0) (pa_nil))) (pe_int) (nomark _)) (pw_or1 (pt_not (truK (K := K) rfl (pe_callB (isiK (K := K) rfl) rfl g_isinstance bt_isinstance (pa_cons (pe_ix (ixK (K := K) rfl) (pv 0) (pe_int) (fun _ _ => rfl)) (pa_cons (pe_bltn (v := .ty "str") rfl g_str bt_str rfl) pa_nil))) (by intro _; rfl))))))) (pss_one (ps_ret (pe_bl))) (pss_nil))
 (pss_cons (ps_if (pt_cmpR (eqK (K := K) rfl (room64 hr)) (pe_ix (ixK (K := K) rfl) (pv 0) (pe_int) (fun _ _ => rfl)) (pe_str) (nomark _)) (pss_one (ps_ret (pe_and (pe_std S_is_int (hr.mono (by decide)) rfl (pa_cons (pe_ix (ixK (K := K) rfl) (pv 0) (pe_int) (fun _ _ => rfl)) (pa_nil))) (pe_one (pe_cmpR op_ge (pe_ix (ixK (K := K) rfl) (pv 0) (pe_int) (fun _ _ => rfl)) (pe_int) (nomark _)))))) (pss_nil))
 (pss_one (ps_ret (pe_and (pe_cmpR (eqK (K := K) rfl (room64 hr)) (pe_ix (ixK (K := K) rfl) (pv 0) (pe_int) (fun _ _ => rfl)) (pe_str) (nomark _)) (pe_one (pe_std S_is_constant hr rfl (pa_cons (pe_ix (ixK (K := K) rfl) (pv 0) (pe_int) (fun _ _ => rfl)) (pa_nil))))))))), ?_⟩
  refine body_x nm_is_source ?_ vs H Q E h
  clear h hr
  intro c n x hK hp
  (subst hK)
  try clear g_isinstance g_tuple g_len g_str S_is_int S_is_constant F
  cases x with
  | inp p =>
    have hp' : 0 ≤ p := hp
    show Ws c _ ⟨[.val (.py (.tuple [.str "in", .int p]))], n⟩ _
    walk_at "WK"
    refine ⟨fun _ => ?_, fun z => nomatch z⟩
    walk_at "WK"
    refine ⟨fun _ => ?_, fun z => by simp at z⟩
    walk_at "WK"
    refine ⟨_, rfl, ?_⟩
    walk_at "WK"
    refine ⟨fun z => (nomatch z), fun _ => ?_⟩
    walk_at "WK"
    refine ⟨_, rfl, ?_⟩
    walk_at "WK"
    refine ⟨fun _ => ?_, fun z => nomatch z⟩
    walk_at "WK"
    refine ⟨_, rfl, ?_⟩
    walk_at "WK"
    refine ⟨p, rfl, trivial, ?_⟩
    rintro d m ⟨rfl, rfl⟩
    refine ⟨rfl, ?_⟩
    walk_at "WK"
    refine ⟨fun _ => ?_, fun z => nomatch z⟩
    walk_at "WK"
    refine ⟨_, rfl, ?_⟩
    walk_at "WK"
    exact ⟨by simp [frz, hp'], rfl⟩
  | lit v =>
    have hp' : -(10 ^ 30) ≤ v ∧ v ≤ 10 ^ 30 := hp
    show Ws c _ ⟨[.val (.py (.tuple [.str "lit", .int v]))], n⟩ _
    walk_at "WK"
    refine ⟨fun _ => ?_, fun z => nomatch z⟩
    walk_at "WK"
    refine ⟨fun _ => ?_, fun z => by simp at z⟩
    walk_at "WK"
    refine ⟨_, rfl, ?_⟩
    walk_at "WK"
    refine ⟨fun z => (nomatch z), fun _ => ?_⟩
    walk_at "WK"
    refine ⟨_, rfl, ?_⟩
    walk_at "WK"
    refine ⟨fun z => (nomatch z), fun _ => ?_⟩
    walk_at "WK"
    refine ⟨_, rfl, ?_⟩
    walk_at "WK"
    refine ⟨fun _ => ?_, fun z => nomatch z⟩
    walk_at "WK"
    refine ⟨_, rfl, ?_⟩
    walk_at "WK"
    refine ⟨v, rfl, trivial, ?_⟩
    rintro d m ⟨rfl, rfl⟩
    exact ⟨rfl, by rw [decide_eq_true hp']; rfl, rfl⟩
/-! ## Effect.__init__ -/
def effF (t : Int) (l : List Src) : List (Str × PyData) := [("kept_taken", .int t), ("kept_left", srcs l)]
abbrev effD (C : Addr) (t : Int) (l : List Src) : D := .ins C (effF t l)
def okE (t : Int) (l : List Src) : Prop := 0 ≤ t ∧ t ≤ 100 ∧ (l.length : Int) ≤ 100 ∧ ∀ s ∈ l, okS t s
abbrev si_Effect___init__ (K : PySem.W.Frag) (C : Addr) : Sp := SpI (ι := Int × List Src) K C (fun x => [.py (.int x.1), .py (srcs x.2)]) (fun x _ => okE x.1 x.2) fun x => effF (cut x.1 x.2).1 (cut x.1 x.2).2
theorem ln_Effect___init__ (x : Int × List Src) : [D.py (.int x.1), .py (srcs x.2)].length = 2 := rfl
theorem nm_Effect___init__ (x : Int × List Src) : [D.py (.int x.1), .py (srcs x.2)].all D.nm = true := rfl
theorem sc_Effect___init__ : FnScope ["self", "taken", "left", "source"] ["self", "taken", "left"] (defScope (meth 65 0)) := ⟨rfl, rfl, rfl, by decide +kernel, rfl, by decide +kernel, by decide +kernel⟩
theorem ok_Effect___init__ (F : FnP K "__init__" "Effect.__init__" (meth 65 0) f fd) (i_MOST_HIGH : GInt mg "MOST_HIGH" 100) (S_in_range : Std P w K mg base 2 "in_range" ["value", "low", "high"] (sp_in_range K)) (g_isinstance : mg "isinstance" = none) (g_tuple : mg "tuple" = none) (g_len : mg "len" = none) (g_all : mg "all" = none) (S_is_source : Std P w K mg base 4 "is_source" ["value"] (sp_is_source K)) (S_cut_pair : Std P w K mg base 1 "cut_pair" ["taken", "left"] (sp_cut_pair K)) (cl : Cls K C) (a1 : NoAttr K C "kept_taken") (a2 : NoAttr K C "kept_left") : FnOk P w K mg base CX0 5 f fd ["self", "taken", "left"] (si_Effect___init__ K C) := by
  refine F.ok sc_Effect___init__ (si_len ln_Effect___init__) (fun cdv A outer s H vs Q E hr h => ?_)
  have nd := sc_Effect___init__.nd
  refine ⟨_, PSs.nox (pss_cons (ps_if (PW.pt (pw_or (pt_not (truK (K := K) rfl (pe_std S_in_range (hr.mono (by decide)) rfl (pa_cons (pv 1) (pa_cons (pe_int) (pa_cons (pe_gint i_MOST_HIGH rfl) (pa_nil))))) (by intro _; rfl))) (pw_or (pt_not (truK (K := K) rfl (pe_callB (isiK (K := K) rfl) rfl g_isinstance bt_isinstance (pa_cons (pv 2) (pa_cons (pe_bltn (v := .ty "tuple") rfl g_tuple bt_tuple rfl) pa_nil))) (by intro _; rfl))) (pw_or1 (pt_cmpR op_gt (pe_callB (lenK (K := K) rfl) rfl g_len PySem.boot_len (pa_cons (pv 2) (pa_nil))) (pe_gint i_MOST_HIGH rfl) (nomark _)))))) (pss_one (ps_never)) (pss_nil))
 (pss_cons (ps_if (pt_not (truK (K := K) rfl (pe_callB (allK (K := K) rfl rfl) rfl g_all bt_all (pa_cons (pe_lc (own := [("source", 3)]) rfl nd (itupK (K := K) rfl (pv 2)) (blkOk_by (N := ["self", "taken", "left", "source"]) (sc := (defScope (meth 65 0))) (by decide +kernel)) (fun _ _ _ _ _ => pg_name (i := 3) nd rfl (Or.inl rfl) (.inr rfl)) (fun _ _ _ _ _ => pts_nil) (fun _ _ _ _ _ => pe_and (pe_std S_is_source hr rfl (pa_cons (pv 3) (pa_nil))) (pe_one (pe_or (pe_cmpR (eqK (K := K) rfl (room64 hr)) (pe_ix (ixK (K := K) rfl) (pv 3) (pe_int) (fun _ _ => rfl)) (pe_str) (nomark _)) (pe_one (pe_cmpR op_lt (pe_ix (ixK (K := K) rfl) (pv 3) (pe_int) (fun _ _ => rfl)) (pv 1) (nomark _))))))) (pa_nil))) (by intro _; rfl))) (pss_one (ps_never)) (pss_nil))
 (pss_one (ps_asg (pe_std S_cut_pair (hr.mono (by decide)) rfl (pa_cons (pv 1) (pa_cons (pv 2) (pa_nil)))) (gtupK (K := K) (n := 2) rfl rfl (pgs_cons (pg_att (pv 0)) (pgs_cons (pg_att (pv 0)) (pgs_nil)))))))), ?_⟩
  refine body_i nm_Effect___init__ ?_ vs H Q E h
  clear h hr
  intro c n z x dx hK hk hx hp
  (subst hK)
  try clear i_MOST_HIGH S_in_range g_isinstance g_tuple g_len g_all S_is_source S_cut_pair F
  obtain ⟨t, l⟩ := z
  dsimp only
  have hp' : okE t l := hp
  obtain ⟨t0, t1, l1, ls⟩ := hp'
  refine wz_seq hk hx ?_
  walk_at "WK"
  refine ⟨(t, 0, 100), rfl, trivial, ?_⟩
  rintro d m ⟨rfl, rfl⟩
  refine ⟨rfl, ?_⟩
  rw [decide_eq_true (show (0 : Int) ≤ t ∧ t ≤ 100 from ⟨t0, t1⟩)]
  walk_at "WK"
  refine ⟨fun _ => ?_, fun z => nomatch z⟩
  walk_at "WK"
  refine ⟨fun _ => ?_, fun z => nomatch z⟩
  walk_at "WK"
  rw [pys_len, decide_eq_false (show ¬ (100 : Int) < l.length by omega)]
  refine ⟨fun z => (nomatch z), fun _ => ?_⟩
  walk_at "WK"
  refine wz_seq hk hx ?_
  walk_at "WK"
  refine wp_new (wn_lc (fun v hv => ?_) (wi_tup rfl ?_))
  · have : v = 3 := by simpa using hv
    subst this
    exact Nat.le_of_ble_eq_true rfl
  · walk_at "WK"
    refine ⟨fun i acc m' => m' = m ∧ acc = (List.replicate i true).map PyData.bool, ⟨rfl, rfl⟩, by rw [List.length_map, pys_len]; omega, ?_, ?_⟩
    · rintro i acc m' d hd ⟨rfl, rfl⟩
      obtain ⟨s, _, hs, rfl⟩ := pys_item hd
      have hs' := ls s hs
      have fin : (List.replicate i true).map PyData.bool ++ [.bool true] = (List.replicate (i + 1) true).map PyData.bool := by
        rw [List.replicate_succ', List.map_append]
        rfl
      cases s with
      | inp p =>
        have hs2 : 0 ≤ p ∧ p < t := hs'
        rw [show (Src.inp p).py = .tuple [.str "in", .int p] from rfl]
        refine wg_name ⟨rfl, ?_⟩ (Nat.le_of_ble_eq_true rfl) (by decide)
        refine wt_yes ⟨fun _ => ?_, fun z => nomatch z⟩
        walk_at "WK"
        refine ⟨.inp p, rfl, hs2.1, ?_⟩
        rintro d m ⟨rfl, rfl⟩
        refine ⟨rfl, ?_⟩
        walk_at "WK"
        refine ⟨fun _ => ?_, fun z => nomatch z⟩
        walk_at "WK"
        refine ⟨_, rfl, ?_⟩
        walk_at "WK"
        refine ⟨fun _ => ?_, fun z => nomatch z⟩
        walk_at "WK"
        refine ⟨_, rfl, ?_⟩
        walk_at "WK"
        rw [decide_eq_true (show p < t from hs2.2)]
        exact fin
      | lit v =>
        rw [show (Src.lit v).py = .tuple [.str "lit", .int v] from rfl]
        refine wg_name ⟨rfl, ?_⟩ (Nat.le_of_ble_eq_true rfl) (by decide)
        refine wt_yes ⟨fun _ => ?_, fun z => nomatch z⟩
        walk_at "WK"
        refine ⟨.lit v, rfl, hs', ?_⟩
        rintro d m ⟨rfl, rfl⟩
        refine ⟨rfl, ?_⟩
        walk_at "WK"
        refine ⟨fun _ => ?_, fun z => nomatch z⟩
        walk_at "WK"
        refine ⟨_, rfl, ?_⟩
        walk_at "WK"
        refine ⟨fun z => (nomatch z), fun _ => ?_⟩
        walk_at "WK"
        exact fin
    · rintro acc m' ⟨rfl, rfl⟩
      walk_at "WK"
      refine cw_all rfl (one_mk (ls_py ⟨_, rfl, ?_⟩))
      have e : (List.replicate ((pys l).map D.py).length true).all id = true := List.all_eq_true.mpr fun b hb => by rw [List.eq_of_mem_replicate hb]; rfl
      dsimp only
      rw [e]
      walk_at "WK"
      refine ⟨fun z => (nomatch z), fun _ => ?_⟩
      walk_at "WK"
      refine wz_att2 (K := c.K) rfl hk hx rfl cl a1 a2 (fun v w => ?_) ?_
      · rw [putF, putF, if_neg (by decide +kernel), putF]
      · walk_at "WK"
        refine ⟨(t, l), rfl, trivial, ?_⟩
        rintro d m ⟨rfl, rfl⟩
        exact ⟨rfl, rfl, rfl⟩
/-! ## its readers -/
end
end Wx

/-! ### part Vg -/
set_option Elab.async false
set_option linter.all false
set_option maxRecDepth 100000
set_option maxHeartbeats 1000000
set_option autoImplicit false
/-! Defs that run where nothing is being shown (no repr under way): repr of data is what it shows. -/
namespace Wx
open PySem L2 PyProof.Rows
structure FnG (P : Program) (w : World) (K : PySem.W.Frag) (mg : Str → Option Value) (base : Heap) (k : Nat) (f : Addr) (fd : FuncData) (ps : List Str) (sp : Sp) : Prop where
  len : ∀ vs H Q E, sp vs H Q E → vs.length = ps.length
  go : ∀ (A : Around) (outer : List Env) (s : Shared) (H : Hp) (args : Args) (us : List Value) (vs : List V) (Q : VK) (E : XK), Room k A → A.guards = some [] → Env0 P w K mg base A outer s H → BindsTo s fd args (ps.zip us) →
    Vals vs us → sp vs H Q E → codeAny (model P w) A (.call (.ref f) args) (CR CX0 outer P w H s Q E) s
section
variable {P : Program} {w : World} {K : PySem.W.Frag} {mg : Str → Option Value} {base : Heap} {k : Nat} {f : Addr} {fd : FuncData} {N ps : List Str} {sp : Sp} {x qual : Str} {params : Arguments} {body : List Stmt} {scope : Scope} {kws : List (Str × V)} {dvs : List V}
theorem fng_of (F : FunD K x qual params body scope dvs kws f fd) (S : FnScope N ps scope) (len : ∀ vs H Q E, sp vs H Q E → vs.length = ps.length)
    (rd : ∀ (cdv : Value) (A : Around) (outer : List Env) (s : Shared) (H : Hp) (vs : List V) (Q : VK) (E : XK), Room k (A.deeper (envOfC qual scope s.heap.objs.size f cdv)) → A.guards = some [] → sp vs H Q E →
      ∃ t, PSs (cxOf CX0 P w K mg base N qual scope f cdv A outer s H E) body t ∧ t { nx := fun _ H' => Q .non H', rt := Q } (L2.start N vs) H) : FnG P w K mg base (k + 1) f fd ps sp := by
  obtain ⟨oc, od, dV, kV, doc, pm, an, cdv, ct, osl, rfl, lk, hcd, _, _⟩ := F.ex
  constructor
  · exact len
  intro A outer s H args us vs Q E room gd e0 bt rv hsp
  have inK : K.In s.heap := e0.mod.kin.keeps fun b o z => (e0.bs b o z).1
  have nolim : s.heap.NoLimit := e0.mod.nolimit.keeps fun b o z => (e0.bs b o z).1
  have kinds : ∀ y ∈ ps.zip us, scope.names.lookup y.1 = some .local ∨ (scope.names.lookup y.1 = some .cell ∧ ((cellsFrom (s.heap.objs.size + 1) scope.names []).lookup y.1).isSome = true) := by
    rintro ⟨y, u⟩ hy
    rcases S.par y (List.of_mem_zip hy).1 with z | z
    · left; exact z
    · right; exact ⟨z, PySem.W.cellsFrom_some _ _ _ (.inl z)⟩
  refine codeAny_call_function room.depth (inK _ _ lk) rfl S.co S.gen rfl (PySem.W.codeRec_of inK hcd) (bt _ _ _ _ ?_)
  refine wpAny_newFunctionEnv_cells S.kind kinds fun env' eqE s2 started => ?_
  subst eqE
  refine ⟨nolim.keeps started.toInCall.keep, codeAny_func ?_⟩
  obtain ⟨t, dv, ht⟩ := rd cdv A outer s H vs Q E (room.deeper _) gd hsp
  have J0 : Inv (cxOf CX0 P w K mg base N qual scope f cdv A outer s H E) [] (L2.start N vs) H s2 := inv_start S room.hd e0 (len _ _ _ _ hsp) rv started
  refine wpAny_mono (dv.run [] s2 _ H _ J0 ht) (fun fl s3 post => ?_) fun _ _ z => z
  have leave : ∀ {τ : L2.St} {G : Hp} {v : V} {u : Value}, Inv (cxOf CX0 P w K mg base N qual scope f cdv A outer s H E) [] τ G s3 → RelV v u → Q v G → CE outer P w H s Q u s3 := fun {τ G v u} J r q =>
    ⟨v, G, J.os, J.bare, J.base, J.hok, r, q⟩
  cases fl with
  | next =>
    obtain ⟨τ, G, J, q⟩ := post
    exact leave (v := .non) (u := Value.none) J rfl q
  | ret u =>
    obtain ⟨v, τ, G, J, r, q⟩ := post
    exact leave J r q
  | brk => exact (post.choose_spec.choose_spec.2).elim
  | cont => exact (post.choose_spec.choose_spec.2).elim
end
structure StdG (P : Program) (w : World) (K : PySem.W.Frag) (mg : Str → Option Value) (base : Heap) (k : Nat) (x : Str) (ps : List Str) (sp : Sp) : Prop where
  ex : ∃ f fd, FnG P w K mg base k f fd ps sp ∧ mg x = some (.ref f) ∧ PySem.W.keepIn K (.ref f) = true ∧ Binds K fd ps []
/-! ## the head -/
section
variable {P : Program} {w : World} {K : PySem.W.Frag} {mg mb : Str → Option Value} {k : Nat} {fa a : Addr} {fd : FuncData} {x : Str} {sp : Sp} {s1 : Shared} {vs : List Value} {ns : List Int}
/-- one abstract heap that holds at most the script -/
structure Stage (K : PySem.W.Frag) (P : Program) (w : World) (h : Heap) (a : Addr) (ns : List Int) (H : Hp) : Prop where
  only : Only H
  seq : SqL K H a (ns.map V.int)
  ok : HOk P w H h
  at_ : ∀ b, H b ≠ none → b = a
  out : H a ≠ none → K.lookup a = none
theorem stage (KX : K.In s1.heap) (ha : s1.heap.get? a = some { cls := .type "list", data := .seq vs.toArray }) (hi : IntsAre vs ns) (hl : ns.length ≤ sizeLine) : ∃ H, Stage K P w s1.heap a ns H := by
  have rv := vals_ints hi
  cases q : K.lookup a with
  | some o =>
    have e := KX a o q
    rw [ha] at e
    cases e
    refine ⟨fun _ => none, fun _ => .inl rfl, .inr ⟨_, vs.toArray, _, q, rfl, rfl, rfl, ?_, by simpa using rv⟩, fun b u z => (nomatch z), fun b z => absurd rfl z, fun z => absurd rfl z⟩
    rw [List.size_toArray, hi.length]
    exact hl
  | none =>
    refine ⟨upd (fun _ => none) a (.frz { cls := .type "list", data := .seq vs.toArray } (.lst (ns.map V.int))), fun b => ?_, .inl (.inr ⟨_, upd_same⟩), fun b u z => ?_, fun b z => ?_, fun _ => q⟩
    · by_cases e : b = a
      · subst e
        exact .inr ⟨_, _, upd_same⟩
      · exact .inl (upd_ne e)
    · by_cases e : b = a
      · subst e
        rw [upd_same] at z
        cases z
        exact ⟨ha, by rw [List.length_map]; exact hl, vs, _, rv, ha⟩
      · rw [upd_ne e] at z
        cases z
    · by_cases e : b = a
      · exact e
      · exact absurd (upd_ne e) z
theorem law_go (KX : K.In s1.heap) (hns : s1.heap.Ns mainGlobals mg) (hb : s1.heap.Ns builtinsNs mb) (hbb : ∀ x : Str, x ≠ "__name__" → mb x = bootBuiltins x) (hlim : s1.heap.NoLimit) (hg : s1.gens = #[])
    (ha : s1.heap.get? a = some { cls := .type "list", data := .seq vs.toArray }) (hi : IntsAre vs ns) (hl : ns.length ≤ sizeLine) (room : Room k callerA)
    (F : ∀ base : Heap, K.In base → base.Ns mainGlobals mg → FnG P w K mg base k fa fd [x] sp) (bt : ∀ (s : Shared) (u : Value), BindsTo s fd ⟨[u], []⟩ [(x, u)])
    (pr : ∀ H : Hp, Only H → SqL K H a (ns.map V.int) → sp [.ref a] H (fun v _ => v = .bl true) E0) :
    codeAny (model P w) callerA (.call (.ref fa) ⟨[.ref a], []⟩) (fun r s' => r = .ok (.ret (.bool true)) ∧ OldK s1.heap s'.heap ∧ s'.os = s1.os ∧ AllBare s'.gens) s1 := by
  obtain ⟨H, st⟩ := stage (P := P) (w := w) KX ha hi hl
  have free : ∀ {b : Addr} {o : Obj}, s1.heap.get? b = some o → (b = a → False) → H b = none := fun {b o} _ ne => Classical.byContradiction fun z => ne (st.at_ b z)
  have dicts : ∀ {b : Addr} {m : Str → Option Value}, s1.heap.Ns b m → (hidT s1.heap H).Ns b m := fun {b m} z => by
    obtain ⟨o, es, ep, e, d, r⟩ := z
    refine ⟨o, es, ep, hidT_get e (free e fun q => ?_), d, r⟩
    subst q
    rw [ha] at e
    cases e
    exact nomatch d
  have part : K.In (hidT s1.heap H) := fun b o e => hidT_get (KX b o e) (by
    by_cases z : H b = none
    · exact z
    · have q := st.at_ b z
      subst q
      rw [st.out z] at e
      cases e)
  obtain ⟨mc, c1, c2⟩ := hlim
  have env : Env0 P w K mg (hidT s1.heap H) callerA [] s1 H :=
    { frames := rfl, mod := { kin := part, glob := dicts hns, blt := ⟨mb, dicts hb, hbb⟩, nolimit := ⟨mc, dicts c1, c2⟩ }, bs := fun b o e => of_hidT e, bsz := Nat.le_of_eq (hidT_size _ _), funs := trivial, frf := fun b z => (nomatch z), hok := st.ok, bare := .of_eq hg }
  have G := F _ part (dicts hns)
  refine codeAny_mono (G.go callerA [] s1 H ⟨[.ref a], []⟩ [.ref a] [.ref a] (fun v _ => v = .bl true) E0 room rfl env (bt s1 (.ref a)) (.cons rfl .nil) (pr H st.only st.seq)) fun res s2 z => ?_
  cases res with
  | error er => exact False.elim z
  | ok fl =>
    cases fl with
    | next => exact False.elim z
    | brk => exact False.elim z
    | cont => exact False.elim z
    | ret u =>
      obtain ⟨v, G', eos, bare, un, gok, rv, ev⟩ := z
      have ev' : v = .bl true := ev
      subst ev'
      cases rv
      refine ⟨rfl, OldK.of_keep fun b o e => ?_, eos, bare⟩
      rcases st.only b with q | ⟨ob, xs, q⟩
      · exact un.keep b o e q (fun y => nomatch y) (fun y => nomatch y)
      · have q2 := un.frzs b ob _ q
        have e1 := (st.ok b _ q).1
        rw [e] at e1
        cases e1
        exact (gok b _ q2).1
theorem walk_go {l : PySem.W.OpenLaw} {n : Nat} {q : Program} {loose : List Str} {XP : (Str → Option Value) → Heap → Prop} {YP : World → Heap → Prop} {d : DefRec} (hn : l.most = some n) (hn2 : n ≤ sizeLine) (hd : d.params.defaults = []) (room : Room k callerA)
    (F : ∀ (w : World) (mg : Str → Option Value) (fa : Addr) (h : Heap), YP w h → h.Ns mainGlobals mg → mg d.name = some (.ref fa) →
      ∃ (K : PySem.W.Frag) (fd : FuncData) (sp : Sp), K.In h ∧ (∀ (s : Shared) (u : Value), BindsTo s fd ⟨[u], []⟩ [(x, u)]) ∧ (∀ (H : Hp) (a : Addr) (ns : List Int), ns.length ≤ n → Only H → SqL K H a (ns.map V.int) → sp [.ref a] H (fun v _ => v = .bl true) E0) ∧
        ∀ base : Heap, K.In base → base.Ns mainGlobals mg → FnG l.prog w K mg base k fa fd [x] sp) : PySem.W.WalkO q loose XP YP l.row.toRowW d [] (fun f vs => PySem.call f vs) := by
  apply Att.attach_call hn hd
  intro w s0 s1 mg mb fa o pm cd doc a vs ns G Y ho hdd hcd hmg hobj hints hlen hg
  obtain ⟨K, fd, sp, KX, bt, pr, hF⟩ := F w mg fa _ Y G.T.g hmg
  exact law_go KX G.T.g G.T.b G.T.builtins G.T.nolimit hg hobj hints (Nat.le_trans hlen hn2) room hF bt fun H hO hS => pr H a ns hlen hO hS
end
end Wx

/-! ### part Vr -/
set_option Elab.async false
set_option linter.all false
set_option maxRecDepth 100000
set_option maxHeartbeats 1000000
set_option autoImplicit false
/-! What can be shown, and how long it is. -/
namespace Wx
open PySem L2
structure Sh (k W : Nat) (d : PyData) : Prop where
  sh : d.showable = true
  nd : d.hasDict = false
  lv : d.leavesShort 80 = true
  dp : d.depth ≤ k
  wt : d.weight ≤ W
structure ShL (k W : Nat) (ds : List PyData) : Prop where
  sh : PyData.showableAll ds = true
  nd : PyData.hasDictAll ds = false
  lv : PyData.leavesShortAll 80 ds = true
  dp : PyData.depthAll ds ≤ k
  wt : PyData.weightAll ds ≤ W
theorem Sh.len {k W : Nat} {d : PyData} (h : Sh k W d) (hW : W ≤ 200000) : d.shown.length ≤ sizeLine := by
  have h1 := PyData.shown_le 80 (by decide) d h.lv
  have h2 := h.wt
  have e : sizeLine = 16777216 := by decide
  rw [e]
  have h3 : (80 + 2) * d.weight ≤ 82 * 200000 := Nat.mul_le_mul_left 82 (Nat.le_trans h2 hW)
  omega
/-! ## the rules -/
section
variable {c : Cy} {Φ : D → Nat → Prop} {n : Nat} {K : PySem.W.Frag}
end
end Wx

/-! ### part Vs -/
set_option Elab.async false
set_option linter.all false
set_option maxRecDepth 100000
set_option maxHeartbeats 1000000
set_option autoImplicit false
/-! More rules: sums of lists, ranges as lists, a written list that is walked, a new draws' list. -/
namespace Wx
open PySem L2
section
variable {c : Cy} {sl : List Slo} {nn : Nat} {ta tb : TE} {Φ : D → Nat → Prop} {Ψ : Ow → Nat → Prop} {K : PySem.W.Frag}
theorem lsi_py {ds : List PyData} {m : Bool} {k : List PyData → Prop} (h : k ds) : LsI m (.py (.list ds)) k := h
theorem sq_out {ds : List PyData} {k : List PyData → Prop} (h : k ds) : Sq (outO (.lst ds)) k := h
theorem pd_out {ds : List PyData} {k : PyData → Prop} (h : k (.list ds)) : Pd (outO (.lst ds)) k := h
def wlk : D → Bool
  | .py _ => true
  | .ins _ _ => true
  | .lsx => true
  | .atom _ => true
  | _ => false
theorem FsR.to {K : PySem.W.Frag} {A B : Addr → Prop} {H H' : Hp} (k : Kept A H H') (w : ∀ a, B a → A a ∨ H a = none) : ∀ {vs : List (Str × V)} {fs : List (Str × PyData)}, FsR K A H vs fs → FsR K B H' vs fs
  | [], [], _ => True.intro
  | (x, v) :: r, (y, d) :: s, ⟨e, h, t⟩ => ⟨e, Da.to k w h, FsR.to k w t⟩
  | [], _ :: _, h => h.elim
  | _ :: _, [], h => h.elim
theorem DX.to {A B : Addr → Prop} {H H' : Hp} {v : V} {d : D} (k : Kept A H H') (w : ∀ a, B a → A a ∨ H a = none) (hd : wlk d = true) (x : DX c A H v d) : DX c B H' v d := by
  cases d with
  | py p => exact Da.to k w x
  | ins C fs =>
    obtain ⟨b, dx, ws, q, n, r, t⟩ := x
    exact ⟨b, dx, ws, q, fun z => (w b z).elim n (fun y => by rw [r] at y; cases y), k b _ n r, t.to k w⟩
  | lsx =>
    obtain ⟨b, ws, q, n, r⟩ := x
    exact ⟨b, ws, q, fun z => (w b z).elim n (fun y => by rw [r] at y; cases y), k b _ n r⟩
  | atom w => exact x
  | _ => cases hd
theorem DXs.at_ {A : Addr → Prop} {H : Hp} : ∀ {vs : List V} {ds : List D} {i : Nat} {v : V}, DXs c A H vs ds → vs[i]? = some v → ∃ d, ds[i]? = some d ∧ DX c A H v d
  | [], [], i, v, _, e => by simp at e
  | v :: vs, d :: ds, 0, u, ⟨h, t⟩, e => by simp at e; subst e; exact ⟨d, rfl, h⟩
  | v :: vs, d :: ds, i + 1, u, ⟨h, t⟩, e => by
    obtain ⟨d', h1, h2⟩ := DXs.at_ (i := i) t (by simpa using e)
    exact ⟨d', by simpa using h1, h2⟩
  | [], _ :: _, _, _, h, _ => h.elim
  | _ :: _, [], _, _, h, _ => h.elim
/-- kiln = a new draws' list -/
abbrev spKiln (_K : PySem.W.Frag) : Sp := fun vs H Q _ => ∃ k, vs = [.int k] ∧ ∀ x y p, 0 ≤ x → H p = none → Q (.ref p) (upd H p (.lst [.int x, .int y, .int 0]))
def noK (sl : List Slo) : Bool := sl.all fun s => match s with
  | .val .kln => false
  | _ => true
theorem noK_at {sl : List Slo} (h : noK sl = true) {i : Nat} (z : sl[i]? = some (.val .kln)) : False := by
  have := List.all_eq_true.mp h _ (List.mem_of_getElem? z)
  cases this
theorem own_emp2 {σ : L2.St} {i : Nat} {a : Addr} (h : ownA σ (sl.set i .emp) a) : ownA σ sl a := by
  obtain ⟨j, ds, h1, h2⟩ := h
  by_cases q : i = j
  · subst q
    rw [List.getElem?_set] at h1
    split at h1
    · split at h1 <;> cases h1
    · rename_i z; exact absurd rfl z
  · rw [List.getElem?_set_ne q] at h1
    exact ⟨j, ds, h1, h2⟩
theorem ws_kln {K : PySem.W.Frag} {i ik : Nat} {k : Int} {u : TS} {P : Po} (hK : K = c.K) (hn : c.k = none) (h2 : sl[ik]? = some (.val (.py (.int k)))) (hi : i < sl.length) (hnk : noK sl = true)
    (h : ∀ c' : Cy, c'.K = c.K → Ws c' u ⟨sl.set i (.val .kln), 0⟩ ⟨fun e' => noK (e'.sl.set i .emp) = true ∧ i < e'.sl.length ∧ P.nx ⟨e'.sl.set i .emp, nn⟩, fun d _ => (∃ p, d = .py p) ∧ P.rt d nn, fun e' => noK (e'.sl.set i .emp) = true ∧ i < e'.sl.length ∧ P.bk ⟨e'.sl.set i .emp, nn⟩, fun e' => noK (e'.sl.set i .emp) = true ∧ i < e'.sl.length ∧ P.ct ⟨e'.sl.set i .emp, nn⟩⟩) :
    Ws c (tSeq (tAsg (tCall (spKiln K) [] E0 (tCons (tVar ik) tNil)) (gName i)) u) ⟨sl, nn⟩ P := ⟨fun σ A H o Dn nx rt bk ct => by
  subst hK
  obtain ⟨_, v2, s2, x2⟩ := o.val ik _ h2
  cases Da.int_eq x2
  refine ⟨.int k, s2, k, rfl, fun x y p hx hp => ?_⟩
  have nA : ¬ A p := fun z => o.al p z hp
  have nS : ¬ c.S0 p := fun z => nA (o.sub p (.inl z))
  let c' : Cy := ⟨c.K, some p, fun b => c.S0 b ∨ b = p, fun b z => .inr (Option.some.inj z).symm⟩
  have e1 : Ek c H (upd H p (.lst [.int x, .int y, .int 0])) := Ek.new hp
  have kA : Kept A H (upd H p (.lst [.int x, .int y, .int 0])) := fun b u nb q => by rw [upd_ne (ne_of_none q hp)]; exact q
  have oc : ∀ {b : Addr}, ownA (σ.set i (some (.ref p))) (sl.set i (.val .kln)) b → ownA σ sl b := fun {b} z => own_set (e := ⟨sl, nn⟩) z
  have o2 : Ok c' (fun b => A b ∨ b = p) (upd H p (.lst [.int x, .int y, .int 0])) (σ.set i (some (.ref p))) ⟨sl.set i (.val .kln), 0⟩ := by
    refine ⟨by rw [List.length_set, List.length_set]; exact o.len, ⟨fun b z => ?_, fun b z => ?_⟩, fun b z => ?_, fun b z => ?_, fun j d z => ?_, fun j w z => ?_, fun j l w w' b q1 q2 q3 q4 => ?_⟩
    · rcases z with z | z
      · exact (o.good.new hp).al b z
      · rw [z, upd_same]; exact fun q => nomatch q
    · have q : p = b := Option.some.inj z
      rw [← q]
      exact ⟨x, y, 0, upd_same, hx, trivial, trivial, Int.le_refl _, Int.le_refl _⟩
    · rcases z with z | z
      · rcases z with z | z
        · exact .inl (o.sub b (.inl z))
        · exact .inr z
      · exact .inl (o.sub b (.inr (oc z)))
    · rcases z with z | z
      · cases q : H b with
        | none => exact absurd q (o.al b z)
        | some u => rw [upd_ne (ne_of_none q hp), q]; exact fun q => nomatch q
      · rw [z, upd_same]; exact fun q => nomatch q
    · by_cases q : i = j
      · subst q
        have z' : (sl.set i (Slo.val .kln))[i]? = some (Slo.val d) := z
        rw [List.getElem?_set_self hi] at z'
        cases z'
        exact ⟨rfl, .ref p, by rw [List.getElem?_set_self (by rw [o.len]; exact hi)], p, rfl, rfl⟩
      · have z' : sl[j]? = some (Slo.val d) := by rw [← List.getElem?_set_ne q]; exact z
        obtain ⟨nm, v, q1, q2⟩ := o.val j d z'
        refine ⟨nm, v, by rw [List.getElem?_set_ne q]; exact q1, ?_⟩
        have kp : Kept (fun b => A b ∨ b = p) H (upd H p (.lst [.int x, .int y, .int 0])) := fun b u nb z => kA b u (fun y => nb (.inl y)) z
        cases d with
        | py r => exact Da.keep kp (Da.apart hp q2)
        | mine r => cases nm
        | dct ds =>
          obtain ⟨b, kvs, w1, w2, w3, w4⟩ := q2
          have nb : ¬ (A b ∨ b = p) := fun z => z.elim w2 fun y => by rw [y, hp] at w3; cases w3
          exact ⟨b, kvs, w1, nb, kA b _ w2 w3, (w4.apart hp).keep kp⟩
        | dcl ds =>
          obtain ⟨b, kvs, od, w1, w2, w3, w4⟩ := q2
          have nb : ¬ (A b ∨ b = p) := fun z => z.elim w2 fun y => by rw [y, hp] at w3; cases w3
          exact ⟨b, kvs, od, w1, nb, kA b _ w2 w3, (w4.apart hp).keep kp⟩
        | brw ds =>
          obtain ⟨b, ys, w1, w2, w3, w4, w5⟩ := q2
          exact ⟨b, ys, w1, fun z => nS (by rw [Option.some.inj z]; exact w3), .inl w3, by rw [upd_ne (ne_of_none w4 hp)]; exact w4, (w5.apart hp).keep kp⟩
        | ins C fs =>
          obtain ⟨b, dx, ws, w1, w2, w3, w4⟩ := q2
          have nb : ¬ (A b ∨ b = p) := fun z => z.elim w2 fun y => by rw [y, hp] at w3; cases w3
          exact ⟨b, dx, ws, w1, nb, kA b _ w2 w3, (w4.apart hp).keep kp⟩
        | atom w => exact q2
        | kln => exact (noK_at hnk z').elim
        | lsx =>
          obtain ⟨b, ws, w1, w2, w3⟩ := q2
          have nb : ¬ (A b ∨ b = p) := fun z => z.elim w2 fun y => by rw [y, hp] at w3; cases w3
          exact ⟨b, ws, w1, nb, kA b _ w2 w3⟩
    · have q : i ≠ j := fun q => by
        subst q
        have z' : (sl.set i (Slo.val .kln))[i]? = some (Slo.own w) := z
        rw [List.getElem?_set_self hi] at z'
        cases z'
      have z' : sl[j]? = some (Slo.own w) := by rw [← List.getElem?_set_ne q]; exact z
      obtain ⟨b, q1, q2, q3⟩ := o.own j w z'
      have bp : b ≠ p := fun y => by rw [y] at q2; exact q2.al hp
      refine ⟨b, by rw [List.getElem?_set_ne q]; exact q1, (q2.apart hp).keep (fun b u nb z => kA b u (fun y => nb (.inl y)) z) fun u r => by rw [upd_ne bp]; exact r, fun z => z.elim q3 bp⟩
    · have f : ∀ {m : Nat} {g : Ow}, (sl.set i (Slo.val .kln))[m]? = some (Slo.own g) → i ≠ m := fun {m g} z q => by
        subst q
        rw [List.getElem?_set_self hi] at z
        cases z
      have e1 := f q1
      have e2 := f q2
      have q1' : sl[j]? = some (Slo.own w) := by rw [← List.getElem?_set_ne e1]; exact q1
      have q2' : sl[l]? = some (Slo.own w') := by rw [← List.getElem?_set_ne e2]; exact q2
      rw [List.getElem?_set_ne e1] at q3
      rw [List.getElem?_set_ne e2] at q4
      exact o.sep j l w w' b q1' q2' q3 q4
  have kpb : ∀ {H' : Hp}, Kp c' (σ.set i (some (.ref p))) ⟨sl.set i (.val .kln), 0⟩ (upd H p (.lst [.int x, .int y, .int 0])) H' → Kp c σ ⟨sl, nn⟩ H H' := fun {H'} kp b u nb z =>
    kp b u (fun w => w.elim (fun w => ne_of_none z hp (Option.some.inj w).symm) fun w => nb (.inr (oc w))) (by rw [upd_ne (ne_of_none z hp)]; exact z)
  have okb : ∀ {σ' : L2.St} {A' : Addr → Prop} {H' : Hp} {e' : En}, noK (e'.sl.set i .emp) = true → Ok c' A' H' σ' e' → Ok c A' H' σ' ⟨e'.sl.set i .emp, nn⟩ := fun {σ' A' H' e'} hno o' => by
    refine ⟨by rw [List.length_set]; exact o'.len, ⟨fun b z => o'.good.al b (.inl z), fun b z => by rw [hn] at z; cases z⟩, fun b z => ?_, o'.al, fun j d z => ?_, fun j w z => ?_, fun j l w w' b q1 q2 q3 q4 => ?_⟩
    · rcases z with z | z
      · exact o'.sub b (.inl (.inl z))
      · exact o'.sub b (.inr (own_emp2 z))
    · have q : i ≠ j := fun q => by
        subst q
        have z' : (e'.sl.set i Slo.emp)[i]? = some (Slo.val d) := z
        rw [List.getElem?_set] at z'
        rw [if_pos rfl] at z'
        split at z' <;> cases z'
      have z0 : (e'.sl.set i Slo.emp)[j]? = some (Slo.val d) := z
      have z' : e'.sl[j]? = some (Slo.val d) := by rw [← List.getElem?_set_ne q]; exact z
      obtain ⟨nm, v, q1, q2⟩ := o'.val j d z'
      refine ⟨nm, v, q1, ?_⟩
      cases d with
      | py r => exact q2
      | mine r => cases nm
      | dct ds => exact q2
      | dcl ds => exact q2
      | brw ds =>
        obtain ⟨b, ys, w1, w2, w3, w4, w5⟩ := q2
        have w3' : c.S0 b := w3.resolve_right fun y => w2 (by rw [y])
        exact ⟨b, ys, w1, (fun y => by rw [hn] at y; cases y), w3', w4, w5⟩
      | ins C fs => exact q2
      | atom w => exact q2
      | kln => exact (noK_at hno z0).elim
      | lsx => exact q2
    · have q : i ≠ j := fun q => by
        subst q
        have z' : (e'.sl.set i Slo.emp)[i]? = some (Slo.own w) := z
        rw [List.getElem?_set] at z'
        rw [if_pos rfl] at z'
        split at z' <;> cases z'
      have z' : e'.sl[j]? = some (Slo.own w) := by rw [← List.getElem?_set_ne q]; exact z
      obtain ⟨b, q1, q2, q3⟩ := o'.own j w z'
      exact ⟨b, q1, q2, fun z => q3 (.inl z)⟩
    · have f : ∀ {m : Nat} {g : Ow}, (e'.sl.set i Slo.emp)[m]? = some (Slo.own g) → e'.sl[m]? = some (Slo.own g) := fun {m g} z => by
        by_cases q : i = m
        · subst q
          rw [List.getElem?_set, if_pos rfl] at z
          split at z <;> cases z
        · rw [← List.getElem?_set_ne q]; exact z
      exact o'.sep j l w w' b (f q1) (f q2) q3 q4
  have back : ∀ {kk : En → Prop} {F : L2.St → Hp → Prop}, Gx c σ H ⟨sl, nn⟩ kk F → Gx c' (σ.set i (some (.ref p))) (upd H p (.lst [.int x, .int y, .int 0])) ⟨sl.set i (.val .kln), 0⟩ (fun e' => noK (e'.sl.set i .emp) = true ∧ i < e'.sl.length ∧ kk ⟨e'.sl.set i .emp, nn⟩) F := fun {kk F} G σ' A' H' e' q kp w o' =>
    G σ' A' H' ⟨e'.sl.set i .emp, nn⟩ q.2.2 (kpb kp) (fun b z => (w b (own_emp2 z)).elim (fun y => .inl (oc y)) fun y => .inr (by
      by_cases e : b = p
      · rw [e]; exact hp
      · rw [upd_ne e] at y; exact y)) (okb q.1 o')
  exact (h c' rfl).run _ _ _ o2 Dn (back nx) (fun v H' d m q kp g' x' => by
    obtain ⟨⟨r, rfl⟩, q⟩ := q
    exact rt v H' (.py r) nn q (kpb kp) ⟨fun b z => g'.al b (.inl z), fun b z => by rw [hn] at z; cases z⟩ (Da.less (fun b z => .inl z) x')) (back bk) (back ct)⟩
end
end Wx

/-! ### part V6 -/
set_option Elab.async false
set_option linter.all false
set_option maxRecDepth 100000
set_option maxHeartbeats 1000000
set_option autoImplicit false
namespace Wx
open PySem L2

section
variable {P : Program} {w : World} {K : PySem.W.Frag} {mg : Str → Option Value} {base : Heap} {f C : Addr} {fd : FuncData}
/-- the other of a comparison: an effect, data, some list -/
def oD (C : Addr) : (Int × List Src) ⊕ Option PyData → D
  | .inl x => effD C x.1 x.2
  | .inr (some p) => .py p
  | .inr none => .lsx
def oOk : (Int × List Src) ⊕ Option PyData → Prop
  | .inr (some p) => ∃ s ∈ ["NoneType", "bool", "int", "str", "list", "tuple"], tyN (.py p) = some s
  | _ => True
def oEq (t : Int) (l : List Src) : (Int × List Src) ⊕ Option PyData → Bool
  | .inl x => decide (t = x.1) && decide (l = x.2)
  | _ => false
abbrev sp_Effect___eq__ (K : PySem.W.Frag) (C : Addr) : Sp := SpX (ι := Int × List Src × ((Int × List Src) ⊕ Option PyData)) K (fun x => [effD C x.1 x.2.1, oD C x.2.2]) (fun x _ => oOk x.2.2) fun x n d m => d = .py (.bool (oEq x.1 x.2.1 x.2.2)) ∧ m = n
theorem ln_Effect___eq__ (x : Int × List Src × ((Int × List Src) ⊕ Option PyData)) : [effD C x.1 x.2.1, oD C x.2.2].length = 2 := rfl
theorem nm_Effect___eq__ (x : Int × List Src × ((Int × List Src) ⊕ Option PyData)) : [effD C x.1 x.2.1, oD C x.2.2].all D.nm = true := by
  obtain ⟨t, l, o⟩ := x
  rcases o with x | (_ | p) <;> rfl
theorem sc_Effect___eq__ : FnScope ["self", "other"] ["self", "other"] (defScope (meth 65 5)) := ⟨rfl, rfl, rfl, by decide +kernel, rfl, by decide +kernel, by decide +kernel⟩
theorem ok_Effect___eq__ (F : FnP K "__eq__" "Effect.__eq__" (meth 65 5) f fd) (g_isinstance : mg "isinstance" = none) (kc : KitC K C) (a1 : NoAttr K C "kept_taken") (a2 : NoAttr K C "kept_left") (gE : mg "Effect" = some (.ref C)) : FnOk P w K mg base CX0 1 f fd ["self", "other"] (sp_Effect___eq__ K C) := by
  refine F.ok sc_Effect___eq__ (sx_len ln_Effect___eq__) (fun cdv A outer s H vs Q E hr h => ?_)
  have nd := sc_Effect___eq__.nd
  refine ⟨_, PSs.nox (pss_cons (ps_if (pt_not (truK (K := K) rfl (pe_callB (isiK (K := K) rfl) rfl g_isinstance bt_isinstance (pa_cons (pv 1) (pa_cons (pe_glob (v := .ref C) rfl gE rfl) pa_nil))) (by intro _; rfl))) (pss_one (ps_ret (pe_bl))) (pss_nil))
 (pss_one (ps_ret (pe_and (pe_cmpR (eqK (K := K) rfl (room64 hr)) (pe_fld (pv 0) rfl) (pe_fld (pv 1) rfl) (nomark _)) (pe_one (pe_cmpR (eqK (K := K) rfl (room64 hr)) (pe_fld (pv 0) rfl) (pe_fld (pv 1) rfl) (nomark _))))))), ?_⟩
  refine body_x nm_Effect___eq__ ?_ vs H Q E h
  clear h hr
  intro c n x hK hp
  (subst hK)
  try clear g_isinstance gE F
  obtain ⟨t, l, o⟩ := x
  have hp' : oOk o := hp
  dsimp only
  rcases o with x | (_ | p)
  · rw [show oD C (.inl x) = effD C x.1 x.2 from rfl]
    walk_at "WK"
    refine cw_isiC rfl (ty2_i kc) kc.me ?_
    walk_at "WK"
    refine ⟨fun z => (nomatch z), fun _ => ?_⟩
    walk_at "WK"
    refine ⟨C, _, _, rfl, kc.cl, a1, rfl, ?_⟩
    walk_at "WK"
    refine ⟨C, _, _, rfl, kc.cl, a1, rfl, ?_⟩
    walk_at "WK"
    refine ⟨fun h1 => ?_, fun h1 => ?_⟩
    · walk_at "WK"
      refine ⟨C, _, _, rfl, kc.cl, a2, rfl, ?_⟩
      walk_at "WK"
      refine ⟨C, _, _, rfl, kc.cl, a2, rfl, ?_⟩
      walk_at "WK"
      rw [eqv_srcs]
      refine ⟨?_, rfl⟩
      show D.py (.bool (decide (l = x.2))) = .py (.bool (decide (t = x.1) && decide (l = x.2)))
      rw [h1]
      rfl
    · refine ⟨?_, rfl⟩
      show D.py (.bool false) = .py (.bool (decide (t = x.1) && decide (l = x.2)))
      rw [h1]
      rfl
  · rw [show oD C (.inr none) = .lsx from rfl]
    walk_at "WK"
    refine cw_isiC rfl ty2_l (kc.no "list" (by decide)).1 ?_
    walk_at "WK"
    refine ⟨fun _ => ?_, fun z => nomatch z⟩
    walk_at "WK"
    exact rfl
  · rw [show oD C (.inr (some p)) = .py p from rfl]
    obtain ⟨s, h1, h2⟩ := hp'
    walk_at "WK"
    refine cw_isiC rfl (ty2_b h2) (kc.no s h1).1 ?_
    walk_at "WK"
    refine ⟨fun _ => ?_, fun z => nomatch z⟩
    walk_at "WK"
    exact rfl
/-! ## source -/
end
end Wx

/-! ### part Vh -/
set_option Elab.async false
set_option linter.all false
set_option maxRecDepth 100000
set_option maxHeartbeats 1000000
set_option autoImplicit false
/-! Lists of instances: made by a comprehension, unpacked at once. -/
namespace Wx
open PySem L2
structure Dw (c : Cy) (A : Addr → Prop) (H : Hp) (xs : List V) (ds : List D) : Prop where
  x : DXs c A H xs ds
  w : ds.all wlk = true
section
variable {c : Cy} {A B : Addr → Prop} {H H' : Hp} {xs : List V} {ds : List D}
theorem DXs.map_ {A' : Addr → Prop} (f : ∀ (v : V) (d : D), wlk d = true → DX c A H v d → DX c A' H' v d) : ∀ {xs : List V} {ds : List D}, ds.all wlk = true → DXs c A H xs ds → DXs c A' H' xs ds
  | [], [], _, _ => True.intro
  | v :: vs, d :: ds, w, ⟨h, t⟩ => by
    rw [List.all_cons, Bool.and_eq_true] at w
    exact ⟨f v d w.1 h, DXs.map_ f w.2 t⟩
  | [], _ :: _, _, h => h.elim
  | _ :: _, [], _, h => h.elim
theorem Dw.keep (k : Kept A H H') (h : Dw c A H xs ds) : Dw c A H' xs ds := ⟨h.x.map_ (fun v d w x => DX.to k (fun a z => .inl z) w x) h.w, h.w⟩
theorem Dw.less (w : ∀ a, B a → A a) (h : Dw c A H xs ds) : Dw c B H xs ds := ⟨h.x.map_ (fun v d q x => DX.to Kept.refl (fun a z => .inl (w a z)) q x) h.w, h.w⟩
theorem Dw.len (h : Dw c A H xs ds) : xs.length = ds.length := h.x.len
theorem Dw.snoc {v : V} {d : D} (h : Dw c A H xs ds) (x : DX c A H v d) (w : wlk d = true) : Dw c A H (xs ++ [v]) (ds ++ [d]) := ⟨h.x.app ⟨x, True.intro⟩, by rw [List.all_append, h.w]; show (wlk d && true) = true; rw [w]; rfl⟩
end
structure Wl (c : Cy) (te : TE) (e : En) (Φ : List D → Nat → Prop) : Prop where
  run : ∀ (σ : L2.St) (A : Addr → Prop) (H : Hp), Ok c A H σ e → ∀ Q : VK, (∀ p H2 vs ds n, Φ ds n → Ek c H H2 → Good c n H2 → H p = none → H2 p = some (.lst vs) → Dw c A H2 vs ds → Q (.ref p) H2) → te σ H Q
section
variable {c : Cy} {e : En} {A : Addr → Prop} {H : Hp} {σ : L2.St}
end

section
variable {c : Cy} {sl : List Slo} {nn : Nat} {te : TE} {K : PySem.W.Frag} {P : Po}
end
section
variable {X : Cx} {K : PySem.W.Frag} {k : Nat} {C : Addr} {sp : Sp}
structure StdC (P : Program) (w : World) (K : PySem.W.Frag) (mg : Str → Option Value) (base : Heap) (k : Nat) (C : Addr) (sp : Sp) : Prop where
  ex : ∃ g fd ps, StX.CallO K C g ∧ FnOk P w K mg base CX0 k g fd ps sp ∧ Binds K fd ps []
theorem pe_callZ {fe e : Expr} {es : List Expr} {pos : Pos} {tf : TE} {t : TA} (F : StdC X.prog X.w X.K X.mg X.base k C sp) (hr : Room k X.A) (hf : PE X fe tf) (ha : PA X (e :: es) t)
    (ht : eval (.Call fe (e :: es) [] pos) X.env = (do callWith pos (← eval fe X.env) [] (backTo pos (starEach (e :: es) X.env)) (backToKw pos (keywordEach [] X.env))) := by rfl)
    (he : starEach (e :: es) X.env = (false, eval e X.env) :: starEach es X.env := by rfl) (hpl : (backTo pos (starEach es X.env)).any (·.1) = false := by rfl) : PE X (.Call fe (e :: es) [] pos) (tCALL C sp tf t) := by
  obtain ⟨g, fd, ps, h1, h2, h3⟩ := F.ex
  exact pe_callX hf h1 h2 h3 hr ha ht he hpl
theorem addS (F : StdM X.prog X.w X.K X.mg X.base k C "__add__" sp) (hc : PySem.W.selfFirst X.K C = true) (hr : Room k X.A) : OpR X (binaryOp .Add) (rADDO C sp) := by
  obtain ⟨g, fd, ps, h1, h2, h3⟩ := F.ex
  exact opADDO h2 h1.at_ h1.fn hc h3 hr
end
theorem ixd_out {ds : List PyData} {i : Int} {k : PyData → Prop} (h : ∃ d, atI ds i = some d ∧ k d) : Ixd (outO (.lst ds)) (.py (.int i)) k := h
end Wx

/-! ### part Wd -/
set_option Elab.async false
set_option linter.all false
set_option maxRecDepth 100000
set_option maxHeartbeats 1000000
set_option autoImplicit false
/-! Own dicts with int or text keys; index of a list of ints. -/
namespace Wx
open PySem L2
/-! ## tables of data -/
def valP (ds : List (Key × PyData)) (k : Key) : Option PyData := (ds.find? fun kv => decide (kv.1 = k)).map (·.2)
def putP (ds : List (Key × PyData)) (k : Key) (p : PyData) : List (Key × PyData) :=
  if (ds.any fun kv => decide (kv.1 = k)) = true then ds.map (fun kv => if kv.1 = k then (kv.1, p) else kv) else ds ++ [(k, p)]
theorem valP_pos {p : Key × PyData} {r : List (Key × PyData)} {k : Key} (e : p.1 = k) : valP (p :: r) k = some p.2 := by simp [valP, List.find?_cons, e]
theorem valP_neg {p : Key × PyData} {r : List (Key × PyData)} {k : Key} (e : ¬ p.1 = k) : valP (p :: r) k = valP r k := by simp [valP, List.find?_cons, e]
theorem valP_any (k : Key) : ∀ ds : List (Key × PyData), (ds.any fun kv => decide (kv.1 = k)) = (valP ds k).isSome
  | [] => rfl
  | p :: r => by
    rw [List.any_cons]
    by_cases e : p.1 = k
    · simp only [valP_pos e, decide_eq_true e, Bool.true_or, Option.isSome_some]
    · rw [valP_neg e, decide_eq_false e, Bool.false_or]; exact valP_any k r
section
variable {K : PySem.W.Frag} {S : Addr → Prop} {H : Hp}
theorem KvR.len : ∀ {kvs : List (Key × V)} {ds : List (Key × PyData)}, KvR K S H kvs ds → kvs.length = ds.length
  | [], [], _ => rfl
  | (x, v) :: r, (y, d) :: s, ⟨e, h, t⟩ => by rw [List.length_cons, List.length_cons, KvR.len t]
  | [], _ :: _, h => h.elim
  | _ :: _, [], h => h.elim
theorem KvR.get (k : Key) : ∀ {kvs : List (Key × V)} {ds : List (Key × PyData)}, KvR K S H kvs ds → (valP ds k = none ∧ valV kvs k = none) ∨ ∃ p v, valP ds k = some p ∧ valV kvs k = some v ∧ Da K S H v p
  | [], [], _ => .inl ⟨rfl, rfl⟩
  | (x, v) :: r, (y, d) :: s, ⟨e, h, t⟩ => by
    subst e
    by_cases q : x = k
    · exact .inr ⟨d, v, valP_pos q, valV_pos q, h⟩
    · rw [valP_neg (p := (x, d)) q, valV_neg (p := (x, v)) q]
      exact KvR.get k t
  | [], _ :: _, h => h.elim
  | _ :: _, [], h => h.elim
theorem KvR.map_ {k : Key} {v : V} {p : PyData} (h : Da K S H v p) : ∀ {kvs : List (Key × V)} {ds : List (Key × PyData)}, KvR K S H kvs ds → KvR K S H (kvs.map fun kv => if kv.1 = k then (kv.1, v) else kv) (ds.map fun kv => if kv.1 = k then (kv.1, p) else kv)
  | [], [], _ => True.intro
  | (x, w) :: r, (y, d) :: s, ⟨e, hw, t⟩ => by
    subst e
    rw [List.map_cons, List.map_cons]
    by_cases q : x = k
    · rw [if_pos q, if_pos q]
      exact ⟨rfl, h, KvR.map_ h t⟩
    · rw [if_neg q, if_neg q]
      exact ⟨rfl, hw, KvR.map_ h t⟩
  | [], _ :: _, h => h.elim
  | _ :: _, [], h => h.elim
theorem KvR.snoc {k : Key} {v : V} {p : PyData} (h : Da K S H v p) : ∀ {kvs : List (Key × V)} {ds : List (Key × PyData)}, KvR K S H kvs ds → KvR K S H (kvs ++ [(k, v)]) (ds ++ [(k, p)])
  | [], [], _ => ⟨rfl, h, True.intro⟩
  | (x, w) :: r, (y, d) :: s, ⟨e, hw, t⟩ => ⟨e, hw, KvR.snoc h t⟩
  | [], _ :: _, h => h.elim
  | _ :: _, [], h => h.elim
theorem KvR.put {k : Key} {v : V} {p : PyData} {kvs : List (Key × V)} {ds : List (Key × PyData)} (h : Da K S H v p) (t : KvR K S H kvs ds) : KvR K S H (putK kvs k v) (putP ds k p) := by
  unfold putK putP
  rw [valV_any, valP_any]
  rcases t.get k with ⟨a, b⟩ | ⟨q, u, a, b, _⟩
  · rw [a, b, if_neg (by simp), if_neg (by simp)]
    exact t.snoc h
  · rw [a, b, if_pos (by simp), if_pos (by simp)]
    exact t.map_ h
end
/-! ## the rules -/
section
variable {c : Cy} {sl : List Slo} {nn n : Nat} {te ty tv : TE} {Φ : D → Nat → Prop} {Ψ : Ow → Nat → Prop} {P : Po} {K : PySem.W.Frag}
theorem wn_dnew (h : Ψ (.dct []) nn) : Wn c tDNewK ⟨sl, nn⟩ Ψ := ⟨fun σ A H o Q k => fun p hp => k p _ (.dct []) nn h (Ek.new hp) (o.good.new hp) hp ⟨[], upd_same, True.intro⟩⟩
/-- a key: an int or a text -/
def KeyD (d : D) (k : Key → Prop) : Prop := match d with
  | .py (.int i) => k (.inl i)
  | .py (.str x) => k (.inr x)
  | _ => False
theorem key_int {i : Int} {k : Key → Prop} (h : k (.inl i)) : KeyD (.py (.int i)) k := h
theorem key_of {d : D} {k : Key → Prop} {A : Addr → Prop} {H : Hp} {v : V} (h : KeyD d k) (x : DX c A H v d) : ∃ y, v = kV y ∧ k y := by
  match d, h with
  | .py (.int i), h => exact ⟨.inl i, Da.int_eq x, h⟩
  | .py (.str s), h => exact ⟨.inr s, Da.str_eq x, h⟩
theorem wp_din {i : Nat} {ds : List (Key × PyData)} (hi : sl[i]? = some (.own (.dct ds))) (h : Wp c ty ⟨sl, nn⟩ fun d n => KeyD d fun k => Φ (.py (.bool (valP ds k).isSome)) n) : Wp c (tDIn ty (tVar i)) ⟨sl, nn⟩ Φ := ⟨fun σ A H o Q k => by
  refine h.run σ A H o _ fun v H1 d n p e1 g1 x => ?_
  obtain ⟨y, rfl, q⟩ := key_of p x
  have o1 := o.keep e1 g1
  obtain ⟨a, h1, ⟨kvs, h2, h3⟩, h4⟩ := o1.own i _ hi
  refine ⟨.ref a, h1, a, valV kvs y, rfl, DGet.k h2, ?_⟩
  rcases h3.get y with ⟨z1, z2⟩ | ⟨u, w, z1, z2, _⟩
  · rw [z2]; rw [z1] at q; exact k _ H1 _ n q e1 g1 (.bl _)
  · rw [z2]; rw [z1] at q; exact k _ H1 _ n q e1 g1 (.bl _)⟩
theorem wp_dget {i : Nat} {ds : List (Key × PyData)} (hi : sl[i]? = some (.own (.dct ds))) (h : Wp c ty ⟨sl, nn⟩ fun d n => KeyD d fun k => ∃ p, valP ds k = some p ∧ Φ (.py p) n) : Wp c (tDGet (tVar i) ty) ⟨sl, nn⟩ Φ := ⟨fun σ A H o Q k => by
  obtain ⟨a, h1, ⟨kvs, h2, h3⟩, h4⟩ := o.own i _ hi
  refine ⟨.ref a, h1, h.run σ A H o _ fun v H1 d n p e1 g1 x => ?_⟩
  obtain ⟨y, rfl, u, z, q⟩ := key_of p x
  have o1 := o.keep e1 g1
  obtain ⟨a', h1', ⟨kvs', h2', h3'⟩, h4'⟩ := o1.own i _ hi
  rw [h1] at h1'; cases h1'
  rcases h3'.get y with ⟨z1, z2⟩ | ⟨u', w, z1, z2, z3⟩
  · rw [z] at z1; cases z1
  · rw [z] at z1; cases z1
    exact ⟨a, w, rfl, by rw [← z2]; exact DGet.k h2', k w H1 _ n q e1 g1 z3⟩⟩
theorem ws_dput {i : Nat} {ds : List (Key × PyData)} (hi : sl[i]? = some (.own (.dct ds))) (h : Wp c tv ⟨sl, nn⟩ fun d n => ∃ p, d = .py p ∧ Wp c ty ⟨sl, n⟩ fun d2 m => KeyD d2 fun k => ds.length < sizeLine ∧ P.nx ⟨sl.set i (.own (.dct (putP ds k p))), m⟩) : Ws c (sDPut (tVar i) ty tv) ⟨sl, nn⟩ P := ⟨fun σ A H o Dn nx _ _ _ => by
  refine h.run σ A H o _ fun v H1 d n p e1 g1 x => ?_
  obtain ⟨p, rfl, q⟩ := p
  have o1 := o.keep e1 g1
  obtain ⟨a, h1, _, h4⟩ := o1.own i _ hi
  refine ⟨.ref a, h1, q.run σ A H1 o1 _ fun y H2 d2 m q e2 g2 x2 => ?_⟩
  obtain ⟨y, rfl, hz, q⟩ := key_of q x2
  have o2 := o1.keep e2 g2
  obtain ⟨a', h1', ⟨kvs, h2, h3⟩, _⟩ := o2.own i _ hi
  rw [h1] at h1'; cases h1'
  have xp : Da c.K A H2 v p := Da.keep (Ek.kept e2 o.k) x
  have aA : A a := o.sub a (.inr ⟨i, _, hi, h1⟩)
  have k2 : Kept A H2 (upd H2 a (.dK (putK kvs y v))) := fun b u nb q => by rw [upd_ne fun z => nb (by rw [z]; exact aA)]; exact q
  obtain ⟨o3, kp, bk⟩ := o2.put (w' := .dct (putP ds y p)) (u := .dK (putK kvs y v)) hi h1 h4 g2 ⟨_, upd_same, (KvR.put xp h3).keep k2⟩
  exact ⟨a, _, rfl, DPut.k h2 (by rw [h3.len]; exact hz), nx σ A _ ⟨sl.set i (.own (.dct (putP ds y p))), m⟩ q (fun b u nb w => kp b u nb ((e1.trans e2) b u (fun z => nb (.inl z)) w)) (fun b z => .inl (bk b z)) o3⟩⟩
/-! ## index -/
theorem da_ints {S : Addr → Prop} {H : Hp} : ∀ {xs : List V} {ns : List Int}, DaL K S H xs (ns.map PyData.int) → xs = ns.map V.int
  | [], [], _ => rfl
  | _ :: _, [], h => by cases h
  | [], _ :: _, h => by cases h
  | x :: xs, n :: ns, h => by
    cases h with
    | cons a b =>
      cases Da.int_eq a
      rw [da_ints b]
      rfl
def nums (xs : List Int) : List PyData := xs.map PyData.int
theorem nums_take (xs : List Int) (i : Nat) : (nums xs).take i = nums (xs.take i) := by unfold nums; rw [List.map_take]
/-- an own list and a new one, put together -/
theorem wp_catO {i : Nat} {tb : TE} {ds : List PyData} (hi : sl[i]? = some (.own (.lst ds))) (h : Wn c tb ⟨sl, nn⟩ fun u m => ∃ es, u = .lst es ∧ ds.length + es.length ≤ sizeLine ∧ Φ (outO (.lst (ds ++ es))) m) : Wp c (tOp (rADD K) (tVar i) tb) ⟨sl, nn⟩ Φ := ⟨fun σ A H o Q k => by
  obtain ⟨a, h1, _, _⟩ := o.own i _ hi
  refine ⟨.ref a, h1, h.run σ A H o _ fun p2 H2 u m q e2 g2 f2 t2 => ?_⟩
  obtain ⟨es, rfl, hz, q⟩ := q
  obtain ⟨zs, r2, y2⟩ := t2
  have o2 := o.keep e2 g2
  obtain ⟨a', h1', ⟨xs, h2, h3⟩, h4⟩ := o2.own i _ hi
  rw [h1] at h1'; cases h1'
  have d2 : DaL c.K A H2 zs es := y2.less fun a z => .inl z
  refine .inr (.inr (.inl ⟨a, p2, xs, zs, rfl, rfl, h2, r2, by rw [h3.len, d2.len]; exact hz, fun p hp => ?_⟩))
  exact k (.ref p) _ (outO (.lst (ds ++ es))) m q (e2.trans (Ek.new hp)) (g2.new hp) (dx_ow (w := .lst (ds ++ es)) (o2.at_.fresh hp) ⟨xs ++ zs, upd_same, lay (h3.append d2) hp⟩)⟩
end
end Wx

/-! ### part Wf -/
set_option Elab.async false
set_option linter.all false
set_option maxRecDepth 100000
set_option maxHeartbeats 1000000
set_option autoImplicit false
/-! More rules: a value and an own object at once, +=, a list repeated, // by any small number. -/
namespace Wx
open PySem L2
section
variable {c : Cy} {sl : List Slo} {nn n : Nat} {te te2 ta tb : TE} {Φ : D → Nat → Prop} {Ψ : Ow → Nat → Prop} {P : Po} {K : PySem.W.Frag}
theorem DaL.rep {S : Addr → Prop} {H : Hp} {xs : List V} {ds : List PyData} (h : DaL K S H xs ds) : ∀ k : Nat, DaL K S H (List.replicate k xs).flatten (List.replicate k ds).flatten
  | 0 => .nil
  | k + 1 => by
    rw [List.replicate_succ, List.replicate_succ, List.flatten_cons, List.flatten_cons]
    exact h.append (DaL.rep h k)
end
end Wx

/-! ### part Wm -/
set_option Elab.async false
set_option linter.all false
set_option maxRecDepth 100000
set_option maxHeartbeats 1000000
set_option autoImplicit false
/-! max of a pair of whole numbers. -/
namespace Wx
open PySem L2
def rMaxT (K : PySem.W.Frag) : List V → Hp → VK → Prop := fun xs H Q => ∃ (a : Addr) (i j : Int), xs = [.ref a] ∧ SqT K H a [.int i, .int j] ∧ Q (.int (if j > i then j else i)) H
theorem cr_maxT {X : Cx} (hc : X.calm = true) (hu : X.A.units + 65 < cLine) : CallR X (.builtin "max") (rMaxT X.K) := by
  intro pins s σ H vs us Q I r h
  obtain ⟨a, i, j, rfl, hs, q⟩ := h
  obtain ⟨its, rv, hl, _⟩ := I.tuple hs
  rw [Vals.ref1 r]
  obtain ⟨t1, t2, rfl⟩ : ∃ t1 t2, its = [.int i t1, .int j t2] := by
    cases rv with
    | cons r1 rt =>
      cases rt with
      | cons r2 rn =>
        cases rn
        obtain ⟨t1, rfl⟩ := r1
        obtain ⟨t2, rfl⟩ := r2
        exact ⟨t1, t2, rfl⟩
  refine PySem.W.max_tuple_data (xs := [.int j]) (x := .int i) (I.ok.hd hc) (by obtain ⟨o, h1, h2, n, h3⟩ := hl; exact ⟨o, h1, h2, n, h3⟩) (.cons (.int i t1) (.cons (.int j t2) .nil)) ⟨fun x hx y hy => ?_, fun x hx => ?_⟩ ?_ fun k v h' tk bs _ hr hk => ?_
  · simp only [List.mem_cons, List.not_mem_nil, or_false] at hx hy
    rcases hx with rfl | rfl <;> rcases hy with rfl | rfl <;> rfl
  · simp only [List.mem_cons, List.not_mem_nil, or_false] at hx
    rcases hx with rfl | rfl <;> exact fun z => nomatch z
  · have : PyData.depthAll [.int i, .int j] = 0 := by simp [PyData.depthAll, PyData.depth]
    rw [this]
    omega
  · have e : PySem.W.maxD (.int i) [.int j] = .int (if j > i then j else i) := by
      have := PySem.W.maxD_ints i [j]
      rw [show ([PyData.int j] : List PyData) = [j].map .int from rfl, this]
      show PyData.int (max i j) = _
      congr 1
      omega
    rw [e] at hr
    cases hr with
    | int _ t => exact ⟨.int _, H, I.kept hk, ⟨_, rfl⟩, q⟩
theorem maxTK {X : Cx} {K : PySem.W.Frag} (h : X.K = K) (hc : X.calm = true) (hu : X.A.units + 65 < cLine) : CallR X (.builtin "max") (rMaxT K) := h ▸ cr_maxT hc hu
section
variable {c : Cy} {n : Nat} {Φ : D → Nat → Prop} {K : PySem.W.Frag}
theorem cw_maxT {i j : Int} (hK : K = c.K) (h : Φ (.py (.int (if j > i then j else i))) n) : Cw c (rMaxT K) [.py (.tuple [.int i, .int j])] n Φ := ⟨fun A H vs a x Q k => by
  subst hK
  match vs, x with
  | [v], ⟨xv, _⟩ =>
    obtain ⟨b, xs, rfl, hs, t⟩ := Da.tuple_at xv
    have ex : xs = [.int i, .int j] := da_ints (ns := [i, j]) t
    rw [ex] at hs
    exact ⟨b, i, j, rfl, hs, k _ H _ n h Ek.refl a.good (.int _)⟩⟩
end
end Wx

/-! ### part Wh -/
set_option Elab.async false
set_option linter.all false
set_option maxRecDepth 100000
set_option maxHeartbeats 2000000
/-! An own error with one field. -/
namespace PySem
namespace XShortStack
open PySem.W PySem.Calls PyProof.Rows PySem.HandSPX
/-! ### the text of __init__ -/
def iA_ShortStack (p1 p2 : Pos) : Arguments := { posonlyargs := [], args := [{ arg := "self", annotation := none, pos := p1 }, { arg := "least", annotation := none, pos := p2 }], vararg := none, kwonlyargs := [], kw_defaults := [], kwarg := none, defaults := [] }
def iB_ShortStack (q1 q2 q3 q4 : Pos) : List Stmt := [.Assign [.Attribute (.Name "self" q1) "least" q2] (.Name "least" q3) q4]
def iS_ShortStack : Scope := { kind := .function, names := [(PySem.Str.ofString "self", .local), (PySem.Str.ofString "least", .local)], isGenerator := false, isCoroutine := false, more := [] }
/-- what the written part says of Low, at C, and of its __init__, at fI -/
structure TxtShortStack (K : Frag) (mg : Str → Option Value) (C fI : Addr) : Prop where
  gC : mg "ShortStack" = some (.ref C)
  cls : ∃ nm q N bs bm sn sub ab col dd k0 k1 k2 k3 k5, K.lookup C = some (excClassObj nm q C N bs bm true sn sub ab col dd k0 k1 k2 k3 k5 "ValueError.__new__") ∧ refsVE bm = true
  sa : findIn K (.ref C) "__setattr__" = some (some (.builtin "object.__setattr__"))
  ga : findIn K (.ref C) "__getattribute__" = some (some (.builtin "BaseException.__getattribute__"))
  gg : findIn K (.ref C) "__getattr__" = some none
  noN : findIn K (.ref C) "least" = some none
  iC : findIn K (.ref C) "__init__" = some (some (.ref fI))
  tC : typeIn K (.ref fI) = some (.type "function")
  kC : keepIn K (.ref C) = true
  exC : subIn K (.ref C) (.type "BaseException") = some true
  tyC : typeIn K (.ref C) = some (.type "type")
  hdC : hasDictIn K C = true
  te : exmOne K (.ref C) (.ref C) = some true
  fn : ∃ (oc : Value) (od : Option Addr) (doc pm : Value) (an : Option Addr) (cdv ct : Value) (osl : Array (Option Value)) (p1 p2 q1 q2 q3 q4 : Pos),
    K.lookup fI = some ⟨oc, od, .func (fnOf "__init__" "ShortStack.__init__" (iA_ShortStack p1 p2) (iB_ShortStack q1 q2 q3 q4) iS_ShortStack .none .none doc pm an cdv ct), osl⟩ ∧ codeIn K cdv "ShortStack.__init__" = true
theorem one_size_ShortStack (v : Value) : [v].length ≤ sizeLine := by
  rw [sizeLine_eq]
  exact (by decide : 1 ≤ 16777216)
theorem ldC_ShortStack {M : Model} {s : Shared} {name : Str} {scope : Scope} {L a : Addr} {cd : Value} {m : Str → Option Value} {x : Str} {pos : Pos} {v : Value} {Q : Value → Shared → Prop} {A : Around} {E : Value → Shared → Prop} (hn : s.heap.Ns L m) (hv : m x = some v) (h : Q v s)
    (hk : scope.kind = .function := by rfl) (hl : (envOfC name scope L a cd).kindOf x = some .local := by rfl) (hd : (x == ("__debug__" : Str)) = false := by decide) :
    wpAny M A (eval (.Name x pos) (envOfC name scope L a cd)) Q E s := wpAny_Name (wpAny_loadName_local hk hl hn hv h) hd
/-- what __init__ leaves of a fresh exception at x -/
structure InitEndShortStack (h h' : Heap) (x C dx t1 : Addr) (v : Value) : Prop where
  keep : ∀ b o, b ≠ x → h.get? b = some o → h'.get? b = some o
  obj : h'.get? x = some { cls := .ref C, dict := some dx, data := .fields #[.ref t1, .none, .none, .none, .bool false, .none] }
  dbig : h.objs.size ≤ dx
  dne : dx ≠ x
  ns : h'.Ns1 dx (fun y => if y = "least" then some v else none)
/-- a made Low -/
structure OwnMadeShortStack (h h' : Heap) (e C d : Addr) (v : Value) : Prop where
  keep : ∀ b o, h.get? b = some o → h'.get? b = some o
  new : h.objs.size ≤ e
  obj : ∃ oe vs, h'.get? e = some oe ∧ oe.cls = .ref C ∧ oe.dict = some d ∧ oe.data = .fields vs ∧ vs[1]? = some .none
  dbig : h.objs.size ≤ d
  dne : d ≠ e
  ns : h'.Ns1 d (fun y => if y = "least" then some v else none)
section
variable {prog : Program} {w : World} {A : Around} {E : Value → Shared → Prop} {R : Result → Shared → Prop} {s : Shared} {K : Frag} {mg : Str → Option Value} {C fI : Addr}
theorem init_ShortStack (T : TxtShortStack K mg C fI) {x t0 : Addr} {v : Value} (X : K.In s.heap) (hlim : s.heap.NoLimit) (hx : s.heap.get? x = some (excO C t0)) (hnx : K.lookup x = none) (hroom : A.depth < recursionLimit)
    (hq : ∀ h' tk dx, InitEndShortStack s.heap h' x C dx t0 v → R (.ok (.ret .none)) { s with heap := h', toks := tk }) :
    codeAny (model prog w) A (.call (.ref fI) ⟨[.ref x, v], []⟩) R s := by
  obtain ⟨oc, od, doc, pm, an, cdv, ct, osl, p1, p2, q1, q2, q3, q4, ho, hcd⟩ := T.fn
  obtain ⟨nm, q, N, bs, bm, sn, sub, ab, col, dd, k0, k1, k2, k3, k5, hC, hbm⟩ := T.cls
  have hcl : clsIn K C = some { name := nm, bases := bs, mro := .ref C :: bm, ns := N, qualname := q, hasDict := true, slotNames := sn, subclasses := sub, abstract := ab, collection := col, hasDel := false } := by unfold clsIn; rw [hC] <;> rfl
  refine Att.call_fn (binds := [("self", .ref x), ("least", v)]) X hlim ho hcd hroom (BindsTo.of_eq (by first | rfl | with_unfolding_all rfl)) (by first | rfl | decide | with_unfolding_all rfl) (fun s₁ IC => ?_) rfl rfl rfl
  obtain ⟨h₁, tk₁, rfl⟩ := IC.toInCall.same
  have k : ∀ b o, s.heap.get? b = some o → h₁.get? b = some o := IC.toInCall.keep
  have hn := IC.toInCall.ns
  have hxL : s.heap.objs.size ≠ x := Nat.ne_of_gt (Heap.lt_size hx)
  have X₁ : K.In h₁ := X.keeps k
  have hx₁ := k _ _ hx
  -- self.by = by
  show wpAny _ _ (execs _ _) _ _ _
  refine wpAny_execs_cons (plainObj_wpAny_Assign_Attribute ?_)
  refine ldC_ShortStack (v := v) hn (by first | rfl | with_unfolding_all rfl | kernel_rfl) (ldC_ShortStack (v := .ref x) hn (by first | rfl | with_unfolding_all rfl | kernel_rfl) ?_)
  refine set_plain X₁ (ox := excO C t0) (od := none) ⟨hx₁, rfl, rfl, trivial⟩ T.sa ?_
  refine exc_osa X₁ hx₁ hcl (show refsVE (.ref C :: bm) = true from hbm) rfl T.noN (fun h₃ tk₃ dx k₃ dn dne hx₃ hn₃ => ?_)
  show wpAny _ _ (execs _ _) _ _ _
  have z : s.heap.objs.size < h₁.objs.size := hn.lt
  exact wpAny_execs_nil (hq h₃ tk₃ dx ⟨fun b o hb e => k₃ b o hb (k b o e), hx₃, Nat.le_of_lt (Nat.lt_of_lt_of_le z dn), dne, hn₃⟩)
theorem made_ShortStack (T : TxtShortStack K mg C fI) {v : Value} (X : K.In s.heap) (hlim : s.heap.NoLimit) (hroom : A.depth + 1 < recursionLimit)
    (hq : ∀ h' tk e d, OwnMadeShortStack s.heap h' e C d v → R (.ok (.ret (.ref e))) { s with heap := h', toks := tk }) :
    codeAny (model prog w) A (.call (.ref C) ⟨[v], []⟩) R s := by
  obtain ⟨nm, q, N, bs, bm, sn, sub, ab, col, dd, k0, k1, k2, k3, k5, hC, hbm⟩ := T.cls
  obtain ⟨hp, g, dr, tk, os⟩ := s
  have k : ∀ b o, hp.get? b = some o → ((hp.push (kdv_tup [v])).push (excO C hp.objs.size)).get? b = some o := fun b o e => Heap.get?_push_of_some _ (Heap.get?_push_of_some _ e)
  have hget : ((hp.push (kdv_tup [v])).push (excO C hp.objs.size)).get? (hp.objs.size + 1) = some (excO C hp.objs.size) := by heap_get
  have hnx : K.lookup (hp.objs.size + 1) = none := by
    cases e : K.lookup (hp.objs.size + 1) with
    | none => rfl
    | some o =>
      have z : hp.get? (hp.objs.size + 1) = some o := X _ _ e
      exact absurd (Nat.lt_of_succ_lt (Heap.lt_size z)) (Nat.lt_irrefl _)
  refine call_own F.excBase_ValueError (fun X => refsVE_contains X bm hbm) (X _ _ hC) (looks_findIn X T.iC) (fun self => bind_fn X self T.tC) (one_size_ShortStack v) ?_
  refine init_ShortStack (s := ⟨(hp.push (kdv_tup [v])).push (excO C hp.objs.size), g, dr, tk, os⟩) T (X.keeps k) (hlim.keeps k) hget hnx ?_ fun h' tk' dx ⟨k', hx, dn, dne, hns⟩ => ?_
  · show A.depth + 1 < recursionLimit
    exact hroom
  · have old : ∀ b o, hp.get? b = some o → h'.get? b = some o := fun b o e => k' b o (Nat.ne_of_lt (Nat.lt_succ_of_lt (Heap.lt_size e))) (k b o e)
    have z : hp.objs.size + 1 + 1 ≤ dx := by
      first
        | (simpa only [Heap.size_push] using dn)
        | exact dn
        | (have q := dn; rw [Heap.size_push, Heap.size_push] at q; exact q)
    exact ⟨rfl, hq h' tk' (hp.objs.size + 1) dx ⟨old, Nat.le_succ _, ⟨_, _, hx, rfl, rfl, rfl, rfl⟩, Nat.le_trans (Nat.le_trans (Nat.le_succ _) (Nat.le_succ _)) z, dne, hns⟩⟩
end
end XShortStack
end PySem
namespace L2
open PySem PySem.Spec PyProof.Rows
theorem relO_ShortStack {v : V} {v' : Value} (r : RelV v v') (f : Str) : RelO (List.lookup f [(("least" : Str), v)]) (if f = "least" then some v' else none) := by
  by_cases hw : f = "least"
  · subst hw
    rw [if_pos rfl]
    have q : List.lookup ("least" : Str) [(("least" : Str), v)] = some v := by simp [List.lookup]
    rw [q]
    exact r
  · rw [if_neg hw]
    have qw : (f == ("least" : Str)) = false := by simpa using hw
    have q2 : List.lookup f [(("least" : Str), v)] = none := by simp [List.lookup, qw]
    rw [q2]
    trivial
section
variable {X : Cx} {C fI : Addr}
/-- Low(e) -/
def tMkShortStack (C : Addr) (ta : TA) : St → Hp → XK → Prop := fun σ H Q => ta σ H fun vs H1 => ∃ v, vs = [v] ∧ ∀ d, H1 d = none → Q (.ref C) (some d) (upd H1 d (.xd [(("least" : Str), v)]))
theorem pmk_ShortStack {a : Expr} {ta : TA} {p pos : Pos} {k : Nat} (T : PySem.XShortStack.TxtShortStack X.K X.mg C fI) (hr : Room k X.A) (ha : PA X [a] ta) (hg : Gl X "ShortStack" := by rfl)
    (he : starEach (a :: []) X.env = (false, eval a X.env) :: starEach [] X.env := by rfl) (hpl : (backTo pos (starEach [] X.env)).any (·.1) = false := by rfl) :
    PMk X (.Call (.Name "ShortStack" p) [a] [] pos) (tMkShortStack C ta) := by
  intro pins s σ H Q I h
  refine wpAny_Call_Name_kw (ld_glob I hg T.gC ?_)
  refine PySem.W.callWith_K (h₀ := X.base) I.ok.mod.kin T.kC (thn (ha.run pos pins s σ H _ I h) fun us s1 hh => ?_) he hpl
  obtain ⟨vs, H1, I1, r1, v, ev, q1⟩ := hh
  subst ev
  refine ⟨I1.kIn, ?_⟩
  cases r1 with
  | cons rv rn =>
    rename_i v' us'
    cases rn
    show wpAny _ _ (call (.ref C) [v']) _ _ _
    have hlim := I1.nolimit
    obtain ⟨hp, g, dr, tk, os⟩ := s1
    refine wpAny_call (PySem.XShortStack.made_ShortStack T I1.kIn hlim (by have := hr.dp; omega) fun h' tk' e d M => ?_)
    show MkP X pins σ Q (.ref e) ⟨h', g, dr, tk', os⟩
    obtain ⟨oe, fv, hoe, hc, hd, hdat, h1⟩ := M.obj
    have hns := M.ns
    obtain ⟨G', g1, g2⟩ := restrict h' fun b => decide (b ≠ e)
    have gk : ∀ b, b ≠ e → G'.get? b = h'.get? b := fun b hb => g1 b (decide_eq_true hb)
    have ge : G'.get? e = none := g2 e (by simp)
    have old : ∀ b o, hp.get? b = some o → G'.get? b = some o := fun b o q => (gk b (Nat.ne_of_lt (Nat.lt_of_lt_of_le (Heap.lt_size q) M.new))).trans (M.keep b o q)
    have ob : ObjOk X.prog X.w (upd H1 d (.xd [(("least" : Str), v)])) G' d (.xd [(("least" : Str), v)]) :=
      ⟨_, hns.at (fun o q => (gk d M.dne).trans q), fun f => relO_ShortStack rv f⟩
    have J : Inv X pins σ (upd H1 d (.xd [(("least" : Str), v)])) ⟨G', g, dr, tk', os⟩ := I1.laid (t' := tk') old M.dbig ob
    refine ⟨e, oe, fv, ⟨G', g, dr, tk', os⟩, _, .ref C, some d, rfl, J, fun b o q => ?_, ge, hoe, ⟨hc, hd⟩, hdat, h1, ?_, rfl, I1.bare, raises_own T.exC T.tyC, q1 d (I1.hok.fresh M.dbig)⟩
    · by_cases hb : b = e
      · have q' : G'.get? b = some o := q
        rw [hb, ge] at q'; cases q'
      · exact (gk b hb).symm.trans q
    · rw [upd_ne (Ne.symm M.dne)]
      exact I1.hok.fresh M.new
/-- raise Low(e) -/
def tRaiseShortStack (C : Addr) (W : WX) (ta : TA) : TS := fun _ σ H => tMkShortStack C ta σ H fun cls d H' => W cls d σ H'
theorem ps_raiseShortStack {a : Expr} {ta : TA} {W : WX} {p pos pos2 : Pos} {k : Nat} (hc : X.calm = true) (T : PySem.XShortStack.TxtShortStack X.K X.mg C fI) (hr : Room k X.A) (tk : Takes X W) (ha : PA X [a] ta) (hg : Gl X "ShortStack" := by rfl)
    (he : starEach (a :: []) X.env = (false, eval a X.env) :: starEach [] X.env := by rfl) (hpl : (backTo pos (starEach [] X.env)).any (·.1) = false := by rfl) :
    PS X (.Raise (some (.Call (.Name "ShortStack" p) [a] [] pos)) none pos2) (tRaiseShortStack C W ta) := ps_raise hc tk (pmk_ShortStack T hr ha hg he hpl)
/-- low.by, low the exception that the suite holds (at a; its class cls, its dict d) -/
def tByShortStack (C : Addr) (a : Addr) (cls : Value) (d : Option Addr) (te : TE) : TE := fun σ H Q => te σ H fun x H1 => x = .ref a ∧ cls = .ref C ∧ ∃ (dd : Addr) (v : V), d = some dd ∧ H1 dd = some (.xd [(("least" : Str), v)]) ∧ Q v H1
theorem pe_byShortStack {a : Addr} {oe : Obj} {cls : Value} {d : Option Addr} {pn : List (Addr × Obj)} {e : Expr} {te : TE} {pos : Pos} (T : PySem.XShortStack.TxtShortStack X.K X.mg C fI) (hz : Zc cls d oe) (hf : ∃ vs, oe.data = .fields vs) (he : PE (X.suite a ((a, oe) :: pn)) e te)
    (hb : attributeBase e "least" X.env (eval e X.env) = eval e X.env := by rfl) :
    PE (X.suite a ((a, oe) :: pn)) (.Attribute e "least" pos) (tByShortStack C a cls d te) := by
  refine ⟨fun pins s σ H Q I h => ?_⟩
  refine attr_of hb (thn (he.run pins s σ H _ I h) fun u s1 hh => ?_)
  obtain ⟨x, H1, I1, rx, ex, ec, dd, v, ed, ea, q⟩ := hh
  subst ex
  obtain rfl : u = Value.ref a := rx
  subst ec
  subst ed
  obtain ⟨ha, _⟩ := I1.pin (a, oe) (List.mem_append_left _ List.mem_cons_self)
  obtain ⟨vs, hd⟩ := hf
  have hx : ObjOk X.prog X.w H1 s1.heap dd (.xd [(("least" : Str), v)]) := I1.hok dd _ ea
  obtain ⟨mA, hns, hr⟩ := hx
  obtain ⟨od, ho, hl⟩ := lookIn_ns hns
  have l : List.lookup ("least" : Str) [(("least" : Str), v)] = some v := by simp [List.lookup]
  obtain ⟨u, hu, ru⟩ := RelO.some_of (v := v) (o := mA "least") (by rw [← l]; exact hr "least")
  have J : PySem.W.InstAt s1.heap a oe C (some od) := ⟨ha, hz.1, by unfold PySem.W.notCls; rw [hd] <;> rfl, by rw [hz.2]; exact ho⟩
  exact HandSPX.exc_get I1.kIn J T.ga T.gg T.exC (PySem.W.findObj_own T.hdC T.noN rfl (by rw [hl, hu])) (handed_of ru) ⟨v, H1, I1.tok _, ru, q⟩
end
end L2


/-! ### part We -/
set_option Elab.async false
set_option linter.all false
set_option maxRecDepth 100000
set_option maxHeartbeats 1000000
set_option autoImplicit false
/-! What surely raises: beside Ws, a judgement Wr; promises of defs that raise; try. -/
namespace Wx
open PySem L2
abbrev XFs : Type := Option (List (Str × PyData))
/-- an exception of the class at cl, with its own dict or none -/
def XD (c : Cy) (A : Addr → Prop) (H : Hp) (cl : Addr) (fs : XFs) (cls : Value) (od : Option Addr) : Prop :=
  cls = .ref cl ∧ match fs with
    | none => od = none
    | some fs => ∃ d vs, od = some d ∧ ¬ A d ∧ H d = some (.xd vs) ∧ FsR c.K A H vs fs
def Xx (c : Cy) (σ : L2.St) (H : Hp) (e : En) (Φ : Addr → XFs → En → Prop) (W : WX) : Prop :=
  ∀ (σ' : L2.St) (A' : Addr → Prop) (H' : Hp) (e' : En) (cls : Value) (od : Option Addr) (cl : Addr) (fs : XFs), Φ cl fs e' → Kp c σ e H H' → (∀ a, ownA σ' e'.sl a → ownA σ e.sl a ∨ H a = none) → Ok c A' H' σ' e' → XD c A' H' cl fs cls od → W cls od σ' H'
structure Wr (c : Cy) (t : TS) (e : En) (W : WX) (Φ : Addr → XFs → En → Prop) : Prop where
  run : ∀ (σ : L2.St) (A : Addr → Prop) (H : Hp), Ok c A H σ e → Xx c σ H e Φ W → ∀ Dn : Ends, t Dn σ H
structure Wq (c : Cy) (te : TE) (e : En) (W : WX) (Φ : Addr → XFs → En → Prop) : Prop where
  run : ∀ (σ : L2.St) (A : Addr → Prop) (H : Hp), Ok c A H σ e → Xx c σ H e Φ W → ∀ Q : VK, te σ H Q
section
variable {c : Cy} {A A1 : Addr → Prop} {H H1 : Hp} {σ σ1 : L2.St} {e e1 : En} {W : WX} {Φ : Addr → XFs → En → Prop} {t u : TS} {te : TE} {tt : TT} {g : TG}
theorem XD.less {B : Addr → Prop} {cl : Addr} {fs : XFs} {cls : Value} {od : Option Addr} (w : ∀ a, B a → A a) (h : XD c A H cl fs cls od) : XD c B H cl fs cls od := by
  obtain ⟨h1, h2⟩ := h
  refine ⟨h1, ?_⟩
  cases fs with
  | none => exact h2
  | some fs =>
    obtain ⟨d, vs, h3, h4, h5, h6⟩ := h2
    exact ⟨d, vs, h3, fun z => h4 (w d z), h5, h6.less w⟩
theorem Xx.after (h : Xx c σ H e Φ W) (o : Ok c A H σ e) (a : Kp c σ e H H1) (w : ∀ a, ownA σ1 e1.sl a → ownA σ e.sl a ∨ H a = none) (o1 : Ok c A1 H1 σ1 e1) : Xx c σ1 H1 e1 Φ W := fun σ' A' H' e' cls od cl fs p b w' o' x =>
  h σ' A' H' e' cls od cl fs p (a.trans w b) (fun y z => by
    rcases w' y z with z | z
    · exact w y z
    · exact own_back o o1.good a (.inr z)) o' x
theorem Xx.ek {n : Nat} (h : Xx c σ H e Φ W) (o : Ok c A H σ e) (a : Ek c H H1) (g : Good c n H1) : Xx c σ H1 ⟨e.sl, n⟩ Φ W := h.after o (Kp.ek a) (fun _ z => .inl z) (o.keep a g)
theorem wr_seq1 (h : Wr c t e W Φ) : Wr c (tSeq t u) e W Φ := ⟨fun σ A H o x Dn => h.run σ A H o x { Dn with nx := u Dn }⟩
theorem wr_seq2 {sl : List Slo} {nn : Nat} (h : Ws c t ⟨sl, nn⟩ ⟨fun e1 => Wr c u e1 W Φ, fun _ _ => False, fun _ => False, fun _ => False⟩) : Wr c (tSeq t u) ⟨sl, nn⟩ W Φ := ⟨fun σ A H o x Dn =>
  h.run σ A H o { Dn with nx := u Dn } (fun σ1 A1 H1 e1 q a w o1 => q.run σ1 A1 H1 o1 (x.after o a w o1) Dn) (fun _ _ _ _ z => z.elim) (fun _ _ _ _ z => z.elim) (fun _ _ _ _ z => z.elim)⟩
theorem wr_if {sl : List Slo} {nn : Nat} (h : Wt c tt ⟨sl, nn⟩ fun b n => (b = true → Wr c t ⟨sl, n⟩ W Φ) ∧ (b = false → Wr c u ⟨sl, n⟩ W Φ)) : Wr c (tIfS tt t u) ⟨sl, nn⟩ W Φ := ⟨fun σ A H o x Dn => by
  refine h.run σ A H o _ fun b H1 n p e1 g1 => ?_
  cases b with
  | true => exact iteT ((p.1 rfl).run σ A H1 (o.keep e1 g1) (x.ek o e1 g1) Dn)
  | false => exact iteF ((p.2 rfl).run σ A H1 (o.keep e1 g1) (x.ek o e1 g1) Dn)⟩
theorem wr_drop (h : Wq c te e W Φ) : Wr c (tDrop te) e W Φ := ⟨fun σ A H o x Dn => h.run σ A H o x _⟩
/-- raise C(x), one field -/
theorem wr_raiseShortStack {sl : List Slo} {nn : Nat} {C : Addr} {ta : TA} (h : Wa c ta ⟨sl, nn⟩ fun ds n => ∃ p, ds = [.py p] ∧ Φ C (some [("least", p)]) ⟨sl, n⟩) : Wr c (tRaiseShortStack C W ta) ⟨sl, nn⟩ W Φ := ⟨fun σ A H o x Dn => by
  refine h.run σ A H o _ fun vs H1 ds n p e1 g1 y => ?_
  obtain ⟨p, rfl, q⟩ := p
  obtain ⟨v, rfl, yv⟩ : ∃ v, vs = [v] ∧ DX c A H1 v (.py p) := by
    match vs, y with
    | [v], ⟨yv, _⟩ => exact ⟨v, rfl, yv⟩
  refine ⟨v, rfl, fun d hd => ?_⟩
  have o1 := o.keep e1 g1
  have e2 : Ek c H1 (upd H1 d (.xd [("least", v)])) := Ek.new hd
  have o2 := o1.keep e2 (g1.new hd)
  refine x σ A _ ⟨sl, n⟩ (.ref C) (some d) C (some [("least", p)]) q (Kp.ek (e1.trans e2)) (fun _ z => .inl z) o2 ⟨rfl, d, _, rfl, fun z => o1.al d z hd, upd_same, rfl, ?_, True.intro⟩
  exact DX.keep (d := .py p) e2 o.k yv⟩
end
/-! ## promises -/
def SpR {ι : Type} (K : PySem.W.Frag) (ar : ι → List D) (pre : ι → Nat → Prop) (post : ι → Nat → Addr → XFs → Nat → Prop) : Sp := fun vs H _ E =>
  ∃ (c : Cy) (n : Nat) (z : ι), c.K = K ∧ Good c n H ∧ DXs c c.S0 H vs (ar z) ∧ pre z n ∧ ∀ (cls : Value) (od : Option Addr) (H' : Hp) (cl : Addr) (fs : XFs) (m : Nat), post z n cl fs m → Ek c H H' → Good c m H' → XD c c.S0 H' cl fs cls od → E cls od H'
theorem sr_len {ι : Type} {K : PySem.W.Frag} {ar : ι → List D} {pre : ι → Nat → Prop} {post : ι → Nat → Addr → XFs → Nat → Prop} {m : Nat} (hl : ∀ x, (ar x).length = m) (vs : List V) (H : Hp) (Q : VK) (E : XK) (h : SpR K ar pre post vs H Q E) : vs.length = m := by
  obtain ⟨c, n, z, hK, g, x, hp, k⟩ := h
  rw [x.len, hl z]
/-- what a def's body does with what it raises -/
abbrev WF (E : XK) : WX := fun cls d _ H => E cls d H
theorem body_r {ι : Type} {K : PySem.W.Frag} {N : List Str} {ar : ι → List D} {pre : ι → Nat → Prop} {post : ι → Nat → Addr → XFs → Nat → Prop} {t : TS} {E : XK} (hnm : ∀ x, (ar x).all D.nm = true)
    (rd : ∀ (c : Cy) (n : Nat) (x : ι), c.K = K → pre x n → Wr c t ⟨Slo.of (ar x) ++ List.replicate (N.length - (ar x).length) .emp, n⟩ (WF E) fun cl fs e => post x n cl fs e.n)
    (vs : List V) (H : Hp) (Q : VK) (h : SpR K ar pre post vs H Q E) : t { nx := fun _ H' => Q .non H', rt := Q } (L2.start N vs) H := by
  obtain ⟨c, n, z, hK, g, x, hp, k⟩ := h
  have o := start_ok (N := N) g x (hnm z)
  have noown : ∀ a, ¬ ownA (L2.start N vs) (Slo.of (ar z) ++ List.replicate (N.length - (ar z).length) Slo.emp) a := fun a ⟨i, es, y, _⟩ => by
    by_cases hi : i < (ar z).length
    · rw [List.getElem?_append_left (by unfold Slo.of; rw [List.length_map]; exact hi)] at y
      unfold Slo.of at y
      rw [List.getElem?_map, List.getElem?_eq_getElem hi] at y
      cases y
    · rw [List.getElem?_append_right (by unfold Slo.of; rw [List.length_map]; omega), List.getElem?_replicate] at y
      split at y <;> cases y
  refine (rd c n z hK hp).run _ _ H o (fun σ' A' H' e' cls od cl fs p kp _ o' xd => ?_) _
  exact k cls od H' cl fs e'.n p (fun a u nn z => kp a u (fun y => y.elim nn fun y => noown a y) z) o'.good (xd.less fun a z => o'.sub a (.inl z))
/-- a call that surely raises -/
theorem wq_call {ι : Type} {K : PySem.W.Frag} {ar : ι → List D} {pre : ι → Nat → Prop} {post : ι → Nat → Addr → XFs → Nat → Prop} {c : Cy} {sl : List Slo} {nn : Nat} {W : WX} {Φ : Addr → XFs → En → Prop} {ta : TA} (hK : K = c.K)
    (h : Wa c ta ⟨sl, nn⟩ fun ds n => ds.all argOk = true ∧ ∃ z, ds.map arg = ar z ∧ pre z n ∧ ∀ cl fs m, post z n cl fs m → Φ cl fs ⟨sl, m⟩) : Wq c (tCallS (SpR K ar pre post) (WE W) ta) ⟨sl, nn⟩ W Φ := ⟨fun σ A H o x Q => by
  refine h.run σ A H o _ fun vs H1 ds n p e1 g1 y => ?_
  have o1 := o.keep e1 g1
  obtain ⟨p1, z, p2, p3, p4⟩ := p
  subst hK
  refine ⟨c.at_ A o1.at_.k, n, z, rfl, ⟨o1.at_.al, g1.kl⟩, by rw [← p2]; exact dxs_arg o1.at_ p1 y, p3, fun cls od H' cl fs m q ek g' xd => ?_⟩
  have ek' : Ek c H1 H' := ek
  have g2 : Good c m H' := ⟨fun b w => g'.al b (o1.at_.s b w), g'.kl⟩
  exact x σ A H' ⟨sl, m⟩ cls od cl fs (p4 cl fs m q) (Kp.ek (e1.trans ek')) (fun _ z => .inl z) (o1.keep ek' g2) xd⟩
/-! ## two promises of one def -/
def SpO (s1 s2 : Sp) : Sp := fun vs H Q E => s1 vs H Q E ∨ s2 vs H Q E
theorem FnOk.or {P : Program} {w : World} {K : PySem.W.Frag} {mg : Str → Option Value} {base : Heap} {k : Nat} {f : Addr} {fd : FuncData} {ps : List Str} {s1 s2 : Sp} (F : FnOk P w K mg base CX0 k f fd ps s1) (G : FnOk P w K mg base (L2.CX P w) k f fd ps s2) : FnOk P w K mg base (L2.CX P w) k f fd ps (SpO s1 s2) :=
  ⟨fun vs H Q E h => h.elim (F.len vs H Q E) (G.len vs H Q E), fun A outer s H args us vs Q E hr e0 hb hv hs => by
    rcases hs with hs | hs
    · refine codeAny_mono (F.run A outer s H args us vs Q E hr e0 hb hv hs) fun r s' q => ?_
      cases r with
      | ok fl => cases fl <;> exact q
      | error e => exact (show False from q).elim
    · exact G.run A outer s H args us vs Q E hr e0 hb hv hs⟩
end Wx

/-! ### part We2 -/
set_option Elab.async false
set_option linter.all false
set_option maxRecDepth 100000
set_option maxHeartbeats 1000000
set_option autoImplicit false
/-! o * n by an own __mul__; try. -/
namespace Wx
open PySem L2 PyProof.Rows
structure MulK (K : PySem.W.Frag) (C : Addr) : Prop where
  sf : PySem.W.selfFirst K C = true
  hr : PySem.W.findIn K (.ref C) "__rmul__" = some none
  h1 : ∃ fo, PySem.W.findIn K (.type "int") "__mul__" = some fo
  h2 : ∃ ro, PySem.W.findIn K (.type "int") "__rmul__" = some ro
  hs : PySem.W.subIn K (.type "int") (.ref C) = some false
section
variable {X : Cx} {CX : CXT} {k : Nat} {C f : Addr} {fd : FuncData} {ps : List Str} {sp : Sp}
theorem mulO_run {E : L2.St → XK} (F : FnOk X.prog X.w X.K X.mg X.base CX k f fd ps sp) (hs : PySem.W.findIn X.K (.ref C) "__mul__" = some (some (.ref f))) (hf : PySem.W.isFn X.K (.ref f) = true) (mk : MulK X.K C) (hb : Binds X.K fd ps []) (hr : Room k X.A)
    {pins : List (Addr × Obj)} {σ : L2.St} {H : Hp} {s : Shared} {Q : VK} {u : Value} {a dx : Addr} {i : Int} {fs : List (Str × V)} (hx : PassesAt CX X σ (E σ)) (I : Inv X pins σ H s) (ry : RelV (.int i) u) (ha : H a = some (.ins C dx fs)) (h : sp [.ref a, .int i] H Q (E σ)) :
    wpAny (model X.prog X.w) X.A (binaryOp .Mult (.ref a) u) (EP X pins σ Q) X.xe s := by
  obtain ⟨mA, O, _⟩ := ins_get I.hok ha
  obtain ⟨od, J, _⟩ := O.look
  obtain ⟨m, hF⟩ := I.fr
  obtain ⟨fo, h1⟩ := mk.h1
  obtain ⟨ro, h2⟩ := mk.h2
  obtain ⟨t, rfl⟩ := ry
  refine PySem.W.ksp_binT (op := .Mult) (T := "int") (rc := none) hF I.ok.mod.kin J rfl mk.sf hs hf mk.hr (.inl rfl) h1 h2 mk.hs (wpAny_mono (run_fnS (us := [.ref a, .int i t]) (vs := [.ref a, .int i]) (Q := Q) F hr hb hx I (.cons rfl (.cons ⟨t, rfl⟩ .nil)) h) (fun v' s' z => back_of z) fun _ _ z => z)
/-- o * n, nothing raised -/
def rMULO (C : Addr) (sp : Sp) : R2 := fun x y H Q => ∃ a i dx fs, x = .ref a ∧ y = .int i ∧ H a = some (.ins C dx fs) ∧ sp [.ref a, .int i] H Q E0
theorem opMULO (F : FnOk X.prog X.w X.K X.mg X.base CX0 k f fd ps sp) (hs : PySem.W.findIn X.K (.ref C) "__mul__" = some (some (.ref f))) (hf : PySem.W.isFn X.K (.ref f) = true) (mk : MulK X.K C) (hb : Binds X.K fd ps []) (hr : Room k X.A) : OpR X (binaryOp .Mult) (rMULO C sp) := by
  intro pins s σ H x y v u Q I rx ry h
  obtain ⟨a, i, dx, fs, rfl, rfl, ha, hsp⟩ := h
  cases rx
  exact mulO_run (E := fun _ => E0) F hs hf mk hb hr (fun _ _ _ _ _ _ z => z.elim) I ry ha hsp
end
section
variable {c : Cy} {sl : List Slo} {nn n : Nat} {C : Addr} {fs : List (Str × PyData)} {te : TE} {ta tb : TE} {Φ : D → Nat → Prop} {K : PySem.W.Frag}
theorem rw_mulO {ι : Type} {ar : ι → List D} {pre : ι → Nat → Prop} {post : ι → Nat → D → Nat → Prop} {i : Int} (hK : K = c.K) (h : ∃ z, [D.ins C fs, .py (.int i)] = ar z ∧ pre z n ∧ ∀ d m, post z n d m → outD d = true ∧ Φ d m) : Rw c (rMULO C (SpX K ar pre post)) (.ins C fs) (.py (.int i)) n Φ := ⟨fun A H v1 v2 a x1 x2 Q k => by
  obtain ⟨z, p2, p3, p4⟩ := h
  have y1 := x1
  obtain ⟨b, dx, ws, rfl, nA, r, _⟩ := y1
  have e2 : v2 = .int i := Da.int_eq x2
  subst e2
  exact ⟨b, i, dx, ws, rfl, rfl, r, sx_at (ds := [.ins C fs, .py (.int i)]) hK a ⟨x1, x2, True.intro⟩ rfl z p2 p3 p4 k⟩⟩
/-- try .. except X as n: nothing raised -/
theorem ws_tryN {tb : WX → TS} {e : En} {P : Po} {cC : Value} {i : Nat} {ts : Addr → Value → Option Addr → TS} {Wout : WX} (h : ∀ W, Ws c (tb W) e P) : Ws c (fun D σ H => tb (wAs K cC i ts Wout D) D σ H) e P :=
  ⟨fun σ A H o Dn nx rt bk ct => (h _).run σ A H o Dn nx rt bk ct⟩
/-- .. surely raised, and caught -/
theorem ws_tryR {tb : WX → TS} {e : En} {P : Po} {cC : Value} {i : Nat} {ts : Addr → Value → Option Addr → TS} {Wout : WX} {Ψ : Addr → XFs → En → Prop} (h : ∀ W, Wr c (tb W) e W Ψ)
    (s : ∀ (σ : L2.St) (A : Addr → Prop) (H : Hp) (e' : En) (cl : Addr) (fs : XFs) (od : Option Addr), Ψ cl fs e' → Ok c A H σ e' → XD c A H cl fs (.ref cl) od → PySem.W.exmOne K (.ref cl) cC = some true ∧
      ∀ (a : Addr), H a = none → ∀ Dn : Ends, Gx c σ H e' P.nx Dn.nx → Rx c σ H e' P.rt Dn.rt → Gx c σ H e' P.bk Dn.bk → Gx c σ H e' P.ct Dn.ct →
        ts a (.ref cl) od { nx := fun σ' H' => Dn.nx (σ'.set i none) H', rt := Dn.rt, bk := fun σ' H' => Dn.bk (σ'.set i none) H', ct := fun σ' H' => Dn.ct (σ'.set i none) H' } (σ.set i (some (.ref a))) H) :
    Ws c (fun D σ H => tb (wAs K cC i ts Wout D) D σ H) e P :=
  ⟨fun σ A H o Dn nx rt bk ct => by
    refine (h _).run σ A H o (fun σ' A' H' e' cls od cl fs p kp w o' xd => ?_) Dn
    obtain ⟨rfl, xd'⟩ := xd
    obtain ⟨z1, z2⟩ := s σ' A' H' e' cl fs od p o' ⟨rfl, xd'⟩
    exact ⟨true, z1, fun _ a ha => z2 a ha Dn (nx.after o kp w o') (rt.after kp w) (bk.after o kp w o') (ct.after o kp w o'), fun z => nomatch z⟩⟩
end
end Wx

/-! ### part We3 -/
set_option Elab.async false
set_option linter.all false
set_option maxRecDepth 100000
set_option maxHeartbeats 1000000
set_option autoImplicit false
/-! Bundles of defs that raise; o * n by the bundle; a tuple at a global; abs. -/
namespace Wx
open PySem L2
structure StdE (P : Program) (w : World) (K : PySem.W.Frag) (mg : Str → Option Value) (base : Heap) (k : Nat) (x : Str) (ps : List Str) (sp : Sp) : Prop where
  ex : ∃ f fd, FnOk P w K mg base (L2.CX P w) k f fd ps sp ∧ mg x = some (.ref f) ∧ PySem.W.keepIn K (.ref f) = true ∧ Binds K fd ps []
structure StdX (P : Program) (w : World) (K : PySem.W.Frag) (mg : Str → Option Value) (base : Heap) (k : Nat) (C : Addr) (m : Str) (sp : Sp) : Prop where
  ex : ∃ g fd ps, Meth K C m g ∧ FnOk P w K mg base (L2.CX P w) k g fd ps sp ∧ Binds K fd ps []
def tCallE (sp : Sp) (W : WX) (t : TA) : TE := tCallS sp (WE W) t
section
variable {X : Cx} {k : Nat} {x : Str} {ps : List Str} {sp : Sp} {e : Expr} {es : List Expr} {p pos : Pos} {t : TA} {W : WX} {C : Addr} {a b : Expr} {ta tb : TE}
theorem pe_stdE (F : StdE X.prog X.w X.K X.mg X.base k x ps sp) (hr : Room k X.A) (tk : Takes X W) (hg : Gl X x) (ha : PA X (e :: es) t) (hdb : (x == ("__debug__" : Str)) = false := by decide)
    (he : starEach (e :: es) X.env = (false, eval e X.env) :: starEach es X.env := by rfl) (hpl : (backTo pos (starEach es X.env)).any (·.1) = false := by rfl) : PE X (.Call (.Name x p) (e :: es) [] pos) (tCallE sp W t) := by
  obtain ⟨f, fd, h1, h2, h3, h4⟩ := F.ex
  exact pe_callS h1 hr hg h2 h3 h4 (passAt tk) ha hdb he hpl
theorem mulS (F : StdM X.prog X.w X.K X.mg X.base k C "__mul__" sp) (mk : MulK X.K C) (hr : Room k X.A) : OpR X (binaryOp .Mult) (rMULO C sp) := by
  obtain ⟨g, fd, ps, h1, h2, h3⟩ := F.ex
  exact opMULO h2 h1.at_ h1.fn mk h3 hr
/-- a tuple at a global -/
def GTup (K : PySem.W.Frag) (mg : Str → Option Value) (x : Str) (d : PyData) : Prop := ∃ a, mg x = some (.ref a) ∧ ∀ S H, Da K S H (.ref a) d
def tGT (K : PySem.W.Frag) (d : PyData) : TE := fun σ H Q => ∀ a : Addr, (∀ S H, Da K S H (.ref a) d) → Q (.ref a) H
theorem pe_gtup {K : PySem.W.Frag} {d : PyData} (hK : X.K = K) (h : GTup K X.mg x d) (hg : Gl X x) (hd : (x == ("__debug__" : Str)) = false := by decide) : PE X (.Name x pos) (tGT K d) := by
  obtain ⟨a, h1, h2⟩ := h
  exact ⟨fun pins s σ H Q I q => (pe_glob (v := .ref a) hg h1 rfl hd).run pins s σ H Q I (q a h2)⟩
end
section
variable {c : Cy} {sl : List Slo} {nn n : Nat} {Φ : D → Nat → Prop} {K : PySem.W.Frag}
theorem wp_gtup {d : PyData} (hK : K = c.K) (q : Φ (.py d) nn) : Wp c (tGT K d) ⟨sl, nn⟩ Φ := ⟨fun σ A H o Q k => fun a h => by
  subst hK
  exact k (.ref a) H (.py d) nn q Ek.refl o.good (h _ _)⟩
end
theorem wq_callE {ι : Type} {K : PySem.W.Frag} {ar : ι → List D} {pre : ι → Nat → Prop} {post : ι → Nat → Addr → XFs → Nat → Prop} {c : Cy} {sl : List Slo} {nn : Nat} {W : WX} {Φ : Addr → XFs → En → Prop} {ta : TA} (hK : K = c.K)
    (h : Wa c ta ⟨sl, nn⟩ fun ds n => ds.all argOk = true ∧ ∃ z, ds.map arg = ar z ∧ pre z n ∧ ∀ cl fs m, post z n cl fs m → Φ cl fs ⟨sl, m⟩) : Wq c (tCallE (SpR K ar pre post) W ta) ⟨sl, nn⟩ W Φ := wq_call hK h
end Wx

/-! ### part Wk -/
set_option Elab.async false
set_option linter.all false
set_option maxRecDepth 100000
set_option maxHeartbeats 1000000
set_option autoImplicit false
/-! Lists of instances: `in`, items, append; pop in a comprehension; zip. -/
namespace GQ
open PySem PySem.Spec PyProof.Rows PySem.SeqAt MeetsSeq MeetsSeq2 MeetsSeq3 SeqRoads2
open AutoSeq1 (wpAny_loadPart')
section
variable {prog : Program} {w : World} {A : Around} {R : Result → Shared → Prop}
end
section
variable {prog : Program} {w : World} {A : Around} {E : Value → Shared → Prop} {s : Shared}
end
end GQ
namespace Wx
open PySem L2
section
variable {X : Cx} {k : Nat} {f C : Addr} {fd : FuncData} {ps : List Str} {sp : Sp}
end
end Wx

/-! ### part Wk2 -/
set_option Elab.async false
set_option linter.all false
set_option maxRecDepth 100000
set_option maxHeartbeats 1000000
set_option autoImplicit false
/-! A list is emptied by pop while a comprehension builds another one, which takes its name. -/
namespace Wx
open PySem L2
section
variable {c : Cy} {B : Addr → Prop} {H : Hp} {σ : St} {e : En}
/-- a place that nobody else holds gets a name -/
theorem Ok.take {D : Addr} {w : Ow} {i : Nat} (o : Ok c B H σ e) (hB : B D) (nS : ¬ c.S0 D) (hn : ∀ (j : Nat) (es : Ow), e.sl[j]? = some (Slo.own es) → σ[j]? = some (some (V.ref D)) → j = i) (t : OwAt c.K B H D w) (hi : i < e.sl.length) :
    Ok c B H (σ.set i (some (.ref D))) ⟨e.sl.set i (.own w), e.n⟩ := by
  refine ⟨by rw [List.length_set, List.length_set]; exact o.len, o.good, fun a z => ?_, o.al, fun j u h => ?_, fun j es h => ?_, fun j l es fs a h1 h2 h3 h4 => ?_⟩
  · rcases z with z | ⟨j, es, h1, h3⟩
    · exact o.sub a (.inl z)
    · by_cases q : i = j
      · subst q
        rw [List.getElem?_set_self (by rw [o.len]; exact hi)] at h3
        cases h3
        exact hB
      · rw [List.getElem?_set_ne q] at h3
        have h1' : e.sl[j]? = some (Slo.own es) := by rw [← List.getElem?_set_ne q]; exact h1
        exact o.sub a (.inr ⟨j, es, h1', h3⟩)
  · by_cases q : i = j
    · subst q
      have h' : (e.sl.set i (Slo.own w))[i]? = some (Slo.val u) := h
      rw [List.getElem?_set_self hi] at h'
      cases h'
    · have h' : e.sl[j]? = some (Slo.val u) := by rw [← List.getElem?_set_ne q]; exact h
      rw [List.getElem?_set_ne q]
      exact o.val j u h'
  · by_cases q : i = j
    · subst q
      have h' : (e.sl.set i (Slo.own w))[i]? = some (Slo.own es) := h
      rw [List.getElem?_set_self hi] at h'
      cases h'
      exact ⟨D, by rw [List.getElem?_set_self (by rw [o.len]; exact hi)], t, nS⟩
    · have h' : e.sl[j]? = some (Slo.own es) := by rw [← List.getElem?_set_ne q]; exact h
      rw [List.getElem?_set_ne q]
      exact o.own j es h'
  · have f : ∀ {m : Nat} {gs : Ow}, (e.sl.set i (Slo.own w))[m]? = some (Slo.own gs) → i ≠ m → e.sl[m]? = some (Slo.own gs) := fun {m gs} h q => by rw [← List.getElem?_set_ne q]; exact h
    by_cases q1 : i = j
    · by_cases q2 : i = l
      · rw [← q1, ← q2]
      · subst q1
        rw [List.getElem?_set_self (by rw [o.len]; exact hi)] at h3
        rw [List.getElem?_set_ne q2] at h4
        cases h3
        exact absurd (hn l fs (f h2 q2) h4).symm q2
    · by_cases q2 : i = l
      · subst q2
        rw [List.getElem?_set_self (by rw [o.len]; exact hi)] at h4
        rw [List.getElem?_set_ne q1] at h3
        cases h4
        exact absurd (hn j es (f h1 q1) h3).symm q1
      · rw [List.getElem?_set_ne q1] at h3
        rw [List.getElem?_set_ne q2] at h4
        exact o.sep j l es fs a (f h1 q1) (f h2 q2) h3 h4
end
section
variable {c : Cy} {P : Po} {wi : TI} {g : TG} {tt : TT} {te : TE} {vs : List Nat}
end
end Wx

/-! ### part Wk3 -/
set_option Elab.async false
set_option linter.all false
set_option maxRecDepth 100000
set_option maxHeartbeats 1000000
set_option autoImplicit false
/-! Lists of instances, told by data. -/
namespace Wx
open PySem L2
mutual
def tupO : PyData → Bool
  | .tuple ds => tupOs ds
  | .none => true
  | .bool _ => true
  | .int _ => true
  | .str _ => true
  | _ => false
def tupOs : List PyData → Bool
  | [] => true
  | d :: ds => tupO d && tupOs ds
end
section
variable {K : PySem.W.Frag} {S : Addr → Prop} {H : Hp}
mutual
theorem Da.fun_ (u : ∀ p xs ys, SqT K H p xs → SqT K H p ys → xs = ys) : ∀ {v : V} {d e : PyData}, tupO d = true → tupO e = true → Da K S H v d → Da K S H v e → d = e
  | _, _, _, _, _, .non, h => by cases h; rfl
  | _, _, _, _, _, .bl b, h => by cases h; rfl
  | _, _, _, _, _, .int i, h => by cases h; rfl
  | _, _, _, _, _, .str x, h => by cases h; rfl
  | _, _, _, p, _, .lst n r t, h => by simp [tupO] at p
  | _, _, _, p, _, .lstK r t, h => by simp [tupO] at p
  | _, _, _, p, q, .tup n r t, h => by
    cases h with
    | lst => simp [tupO] at q
    | lstK => simp [tupO] at q
    | tup n' r' t' =>
      have e := u _ _ _ (.inl r) (.inl r')
      subst e
      exact congrArg PyData.tuple (DaL.fun_ u (by simpa [tupO] using p) (by simpa [tupO] using q) t t')
    | tupK r' t' =>
      have e := u _ _ _ (.inl r) (r' H)
      subst e
      exact congrArg PyData.tuple (DaL.fun_ u (by simpa [tupO] using p) (by simpa [tupO] using q) t t')
  | _, _, _, p, q, .tupK r t, h => by
    cases h with
    | lst => simp [tupO] at q
    | lstK => simp [tupO] at q
    | tup n' r' t' =>
      have e := u _ _ _ (r H) (.inl r')
      subst e
      exact congrArg PyData.tuple (DaL.fun_ u (by simpa [tupO] using p) (by simpa [tupO] using q) t t')
    | tupK r' t' =>
      have e := u _ _ _ (r H) (r' H)
      subst e
      exact congrArg PyData.tuple (DaL.fun_ u (by simpa [tupO] using p) (by simpa [tupO] using q) t t')
theorem DaL.fun_ (u : ∀ p xs ys, SqT K H p xs → SqT K H p ys → xs = ys) : ∀ {vs : List V} {ds es : List PyData}, tupOs ds = true → tupOs es = true → DaL K S H vs ds → DaL K S H vs es → ds = es
  | _, _, _, _, _, .nil, h => by cases h; rfl
  | _, _, _, p, q, .cons x t, h => by
    cases h with
    | cons y t' =>
      simp only [tupOs, Bool.and_eq_true] at p q
      rw [Da.fun_ u p.1 q.1 x y, DaL.fun_ u p.2 q.2 t t']
end
theorem FsR.fun_ (u : ∀ p xs ys, SqT K H p xs → SqT K H p ys → xs = ys) : ∀ {vs : List (Str × V)} {fs gs : List (Str × PyData)}, (∀ p ∈ fs, tupO p.2 = true) → (∀ p ∈ gs, tupO p.2 = true) → FsR K S H vs fs → FsR K S H vs gs → fs = gs
  | [], [], [], _, _, _, _ => rfl
  | (x, v) :: r, (y, d) :: s, (z, e) :: t, p, q, ⟨e1, h1, t1⟩, ⟨e2, h2, t2⟩ => by
    subst e1 e2
    have y1 := Da.fun_ u (p _ List.mem_cons_self) (q _ List.mem_cons_self) h1 h2
    have y2 := FsR.fun_ u (fun a b => p a (List.mem_cons_of_mem _ b)) (fun a b => q a (List.mem_cons_of_mem _ b)) t1 t2
    dsimp only at y1
    rw [y1, y2]
theorem InsL.get {C : Addr} : ∀ {vs : List V} {gs : List (List (Str × PyData))} {i : Nat}, InsL K S H C vs gs → i < gs.length → ∃ g b dx ws, gs[i]? = some g ∧ vs[i]? = some (.ref b) ∧ ¬ S b ∧ H b = some (.ins C dx ws) ∧ FsR K S H ws g
  | [], [], i, _, h => by simp at h
  | v :: r, g :: s, 0, ⟨⟨b, dx, ws, e, n, q, f⟩, t⟩, h => ⟨g, b, dx, ws, by simp, by simp [e], n, q, f⟩
  | v :: r, g :: s, i + 1, ⟨_, t⟩, h => by
    obtain ⟨g', b, dx, ws, h1, h2, h3⟩ := InsL.get (i := i) t (by simpa using h)
    exact ⟨g', b, dx, ws, by simpa using h1, by simpa using h2, h3⟩
  | [], _ :: _, _, h, _ => h.elim
  | _ :: _, [], _, h, _ => h.elim
theorem InsL.snoc {C : Addr} {v : V} {g : List (Str × PyData)} (x : ∃ b dx vs, v = .ref b ∧ ¬ S b ∧ H b = some (.ins C dx vs) ∧ FsR K S H vs g) : ∀ {vs : List V} {gs : List (List (Str × PyData))}, InsL K S H C vs gs → InsL K S H C (vs ++ [v]) (gs ++ [g])
  | [], [], _ => ⟨x, True.intro⟩
  | v :: r, g :: s, ⟨h, t⟩ => ⟨h, InsL.snoc x t⟩
  | [], _ :: _, h => h.elim
  | _ :: _, [], h => h.elim
end
section
variable {c : Cy} {K : PySem.W.Frag} {n nn : Nat} {Φ : D → Nat → Prop} {C : Addr} {fs : List (Str × PyData)} {gs : List (List (Str × PyData))} {sl : List Slo} {te ty : TE} {P : Po} {Ψ : Ow → Nat → Prop}
end
end Wx

/-! ### part Wk4 -/
set_option Elab.async false
set_option linter.all false
set_option maxRecDepth 100000
set_option maxHeartbeats 1000000
set_option autoImplicit false
/-! zip of two lists; the popping comprehension's derivation. -/
namespace Wx
open PySem L2
section
variable {c : Cy} {m : Bool} {K : PySem.W.Frag} {A M : Addr → Prop} {H : Hp} {v : V} {Θ : List D → Nat → Prop} {ta : TA}
end
section
variable {X : Cx} {K : PySem.W.Frag} {e e2 : Expr} {ta : TA} {p pos tpos : Pos} {elts : List Expr} {kk : Nat}
end
section
variable {c : Cy} {K : PySem.W.Frag} {te te2 : TE} {P : Po}
end
end Wx

/-! ### part V7 -/
set_option Elab.async false
set_option linter.all false
set_option maxRecDepth 100000
set_option maxHeartbeats 1000000
set_option autoImplicit false
namespace Wx
open PySem L2

theorem cut_cut' : ∀ (t : Int) (l : List Src), cut (cut t l).1 (cut t l).2 = cut t l
  | t, [] => rfl
  | t, s :: r => by
    by_cases q : s = .inp (t - 1) ∧ s ∉ r
    · have e : cut t (s :: r) = cut (t - 1) r := by rw [cut, if_pos q]
      rw [e]
      exact cut_cut' (t - 1) r
    · have e : cut t (s :: r) = (t, s :: r) := by rw [cut, if_neg q]
      rw [e, e]
def thr (t : Int) (l : List Src) : Src → Src
  | .inp p => srcAt t l p
  | .lit v => .lit v
def posS : Src → Prop
  | .inp p => 0 ≤ p
  | .lit _ => True
section
variable {P : Program} {w : World} {K : PySem.W.Frag} {mg : Str → Option Value} {base : Heap} {f C : Addr} {fd : FuncData}
abbrev sp_through (K : PySem.W.Frag) : Sp := SpX (ι := Int × List Src × Src) K (fun x => [.py (.tuple [.int x.1, srcs x.2.1]), .py x.2.2.py]) (fun x _ => posS x.2.2) fun x n d m => d = .py (thr x.1 x.2.1 x.2.2).py ∧ m = n
theorem ln_through (x : Int × List Src × Src) : [D.py (.tuple [.int x.1, srcs x.2.1]), .py x.2.2.py].length = 2 := rfl
theorem nm_through (x : Int × List Src × Src) : [D.py (.tuple [.int x.1, srcs x.2.1]), .py x.2.2.py].all D.nm = true := rfl
theorem sc_through : FnScope ["pair", "source"] ["pair", "source"] (defScope (top 56)) := ⟨rfl, rfl, rfl, by decide +kernel, rfl, by decide +kernel, by decide +kernel⟩
theorem ok_through (F : FnP K "through" "through" (top 56) f fd) (S_source_in : Std P w K mg base 1 "source_in" ["pair", "depth"] (sp_source_in K)) : FnOk P w K mg base CX0 2 f fd ["pair", "source"] (sp_through K) := by
  refine F.ok sc_through (sx_len ln_through) (fun cdv A outer s H vs Q E hr h => ?_)
  have nd := sc_through.nd
  refine ⟨_, PSs.nox (pss_one (ps_ret (pe_ifExp (pt_cmpR (eqK (K := K) rfl (room64 hr)) (pe_ix (ixK (K := K) rfl) (pv 1) (pe_int) (fun _ _ => rfl)) (pe_str) (nomark _)) (pe_std S_source_in hr rfl (pa_cons (pv 0) (pa_cons (pe_ix (ixK (K := K) rfl) (pv 1) (pe_int) (fun _ _ => rfl)) (pa_nil)))) (pv 1)))), ?_⟩
  refine body_x nm_through ?_ vs H Q E h
  clear h hr
  intro c n x hK hp
  (subst hK)
  try clear S_source_in F
  obtain ⟨t, l, s⟩ := x
  cases s with
  | inp p =>
    have hp' : 0 ≤ p := hp
    dsimp only
    rw [show (Src.inp p).py = .tuple [.str "in", .int p] from rfl]
    walk_at "WK"
    refine ⟨_, rfl, ?_⟩
    walk_at "WK"
    refine ⟨fun _ => ?_, fun z => nomatch z⟩
    walk_at "WK"
    refine ⟨_, rfl, ?_⟩
    walk_at "WK"
    refine ⟨(t, l, p), rfl, hp', ?_⟩
    rintro d m ⟨rfl, rfl⟩
    exact ⟨rfl, rfl, rfl⟩
  | lit v =>
    dsimp only
    rw [show (Src.lit v).py = .tuple [.str "lit", .int v] from rfl]
    walk_at "WK"
    refine ⟨_, rfl, ?_⟩
    walk_at "WK"
    refine ⟨fun z => (nomatch z), fun _ => ?_⟩
    walk_at "WK"
    exact rfl
/-! ## two effects together -/
def jMore (l1 : List Src) (t2 : Int) : Int := if (l1.length : Int) - t2 > 0 then l1.length - t2 else 0
def jTake (t1 : Int) (l1 : List Src) (t2 : Int) : Int := t1 + if t2 - (l1.length : Int) > 0 then t2 - l1.length else 0
def jLeft (t1 : Int) (l1 : List Src) (t2 : Int) (l2 : List Src) (k : Nat) : List Src := (List.range k).map fun (j : Nat) => thr t1 l1 (srcAt t2 l2 ((l2.length : Int) + jMore l1 t2 - 1 + (j : Int) * -1))
def jAll (t1 : Int) (l1 : List Src) (t2 : Int) (l2 : List Src) : List Src := jLeft t1 l1 t2 l2 ((l2.length : Int) + jMore l1 t2).toNat
theorem jLeft_succ (t1 : Int) (l1 : List Src) (t2 : Int) (l2 : List Src) (k : Nat) : jLeft t1 l1 t2 l2 (k + 1) = jLeft t1 l1 t2 l2 k ++ [thr t1 l1 (srcAt t2 l2 ((l2.length : Int) + jMore l1 t2 - 1 + (k : Int) * -1))] := by
  unfold jLeft
  rw [List.range_succ, List.map_append]
  rfl
theorem pos_at {t : Int} {l : List Src} {d : Int} (h : okE t l) (h0 : 0 ≤ d) : posS (srcAt t l d) := by
  obtain ⟨a, b, e, f⟩ := h
  unfold srcAt
  split
  · cases z : l[((l.length : Int) - 1 - d).toNat]? with
    | none => exact Int.le_refl _
    | some s =>
      have y := f s (List.mem_of_getElem? z)
      cases s with
      | inp p => exact y.1
      | lit v => exact True.intro
  · show 0 ≤ d + t - l.length
    omega
abbrev sp_joined_pair (K : PySem.W.Frag) : Sp := SpX (ι := (Int × List Src) × (Int × List Src)) K (fun x => [.py (.tuple [.int x.1.1, srcs x.1.2]), .py (.tuple [.int x.2.1, srcs x.2.2])]) (fun x _ => okE x.1.1 x.1.2 ∧ okE x.2.1 x.2.2) fun x n d m =>
  d = .py (.tuple [.int (cut (jTake x.1.1 x.1.2 x.2.1) (jAll x.1.1 x.1.2 x.2.1 x.2.2)).1, srcs (cut (jTake x.1.1 x.1.2 x.2.1) (jAll x.1.1 x.1.2 x.2.1 x.2.2)).2]) ∧ m = n
theorem ln_joined_pair (x : (Int × List Src) × (Int × List Src)) : [D.py (.tuple [.int x.1.1, srcs x.1.2]), .py (.tuple [.int x.2.1, srcs x.2.2])].length = 2 := rfl
theorem nm_joined_pair (x : (Int × List Src) × (Int × List Src)) : [D.py (.tuple [.int x.1.1, srcs x.1.2]), .py (.tuple [.int x.2.1, srcs x.2.2])].all D.nm = true := rfl
theorem sc_joined_pair : FnScope ["pair", "other", "more", "left", "depth"] ["pair", "other"] (defScope (top 57)) := ⟨rfl, rfl, rfl, by decide +kernel, rfl, by decide +kernel, by decide +kernel⟩
theorem ok_joined_pair (F : FnP K "joined_pair" "joined_pair" (top 57) f fd) (g_max : mg "max" = none) (g_len : mg "len" = none) (S_through : Std P w K mg base 2 "through" ["pair", "source"] (sp_through K)) (S_source_in : Std P w K mg base 1 "source_in" ["pair", "depth"] (sp_source_in K)) (g_range : mg "range" = none) (S_cut_pair : Std P w K mg base 1 "cut_pair" ["taken", "left"] (sp_cut_pair K)) (g_tuple : mg "tuple" = none) : FnOk P w K mg base CX0 3 f fd ["pair", "other"] (sp_joined_pair K) := by
  refine F.ok sc_joined_pair (sx_len ln_joined_pair) (fun cdv A outer s H vs Q E hr h => ?_)
  have nd := sc_joined_pair.nd
  refine ⟨_, PSs.nox (pss_cons (ps_set (i := 2) nd rfl (Or.inl rfl) (pe_callB (callMAX2 rfl) rfl g_max bt_max (pa_cons (pe_int) (pa_cons (pe_op op_sub (pe_callB (lenK (K := K) rfl) rfl g_len PySem.boot_len (pa_cons (pe_ix (ixK (K := K) rfl) (pv 0) (pe_int) (fun _ _ => rfl)) (pa_nil))) (pe_ix (ixK (K := K) rfl) (pv 1) (pe_int) (fun _ _ => rfl))) (pa_nil)))))
 (pss_cons (ps_setLc (i := 3) (own := [("depth", 4)]) rfl nd rfl rfl (sw_true rfl rfl rfl (by decide +kernel)) (pi_range3 rfl g_range (pa_cons (pe_op op_sub (pe_op (addK (K := K) rfl) (pe_callB (lenK (K := K) rfl) rfl g_len PySem.boot_len (pa_cons (pe_ix (ixK (K := K) rfl) (pv 1) (pe_int) (fun _ _ => rfl)) (pa_nil))) (pv 2)) (pe_int)) (pa_cons (pe_un un_neg (pe_int)) (pa_cons (pe_un un_neg (pe_int)) (pa_nil))))) (blkOk_by (N := ["pair", "other", "more", "left", "depth"]) (sc := (defScope (top 57))) (by decide +kernel)) (fun _ _ _ _ _ => pg_name (i := 4) nd rfl (Or.inl rfl) (.inr rfl)) (fun _ _ _ _ _ => pts_nil) (fun _ _ _ _ _ => pe_std S_through hr rfl (pa_cons (pv 0) (pa_cons (pe_std S_source_in (hr.mono (by decide)) rfl (pa_cons (pv 1) (pa_cons (pv 4) (pa_nil)))) (pa_nil)))))
 (pss_one (ps_ret (pe_std S_cut_pair (hr.mono (by decide)) rfl (pa_cons (pe_op (addK (K := K) rfl) (pe_ix (ixK (K := K) rfl) (pv 0) (pe_int) (fun _ _ => rfl)) (pe_callB (callMAX2 rfl) rfl g_max bt_max (pa_cons (pe_int) (pa_cons (pe_op op_sub (pe_ix (ixK (K := K) rfl) (pv 1) (pe_int) (fun _ _ => rfl)) (pe_callB (lenK (K := K) rfl) rfl g_len PySem.boot_len (pa_cons (pe_ix (ixK (K := K) rfl) (pv 0) (pe_int) (fun _ _ => rfl)) (pa_nil)))) (pa_nil))))) (pa_cons (pe_callTy (tupK (K := K) rfl) rfl g_tuple bt_tuple (pa_cons (pv 3) (pa_nil))) (pa_nil)))))))), ?_⟩
  refine body_x nm_joined_pair ?_ vs H Q E h
  clear h hr
  intro c n x hK hp
  (subst hK)
  try clear g_max g_len S_through S_source_in g_range S_cut_pair g_tuple F
  obtain ⟨⟨t1, l1⟩, t2, l2⟩ := x
  dsimp only
  obtain ⟨h1, h2⟩ : okE t1 l1 ∧ okE t2 l2 := hp
  walk_at "WK"
  refine ⟨_, rfl, ?_⟩
  walk_at "WK"
  refine ⟨_, rfl, ?_⟩
  walk_at "WK"
  rw [pys_len, show (if (l1.length : Int) - t2 > 0 then (l1.length : Int) - t2 else 0) = jMore l1 t2 from rfl]
  have hm : 0 ≤ jMore l1 t2 ∧ jMore l1 t2 ≤ 100 := by
    have := h1.2.2.1
    have := h2.1
    unfold jMore
    split <;> omega
  have hl2 := h2.2.2.1
  refine wp_new (wn_lc (fun v hv => ?_) (wi_rng3 ?_))
  · have : v = 4 := by simpa using hv
    subst this
    exact Nat.le_of_ble_eq_true rfl
  · walk_at "WK"
    refine ⟨_, rfl, ?_⟩
    walk_at "WK"
    rw [pys_len]
    refine ⟨((l2.length : Int) + jMore l1 t2 - 1 - -1).toNat, RgC.neg (by omega) (by omega) (by decide) (by decide), fun i acc m => m = n ∧ acc = pys (jLeft t1 l1 t2 l2 i), ⟨rfl, rfl⟩, by rw [seqI_len]; omega, ?_, ?_⟩
    · rintro i acc m d hd ⟨rfl, rfl⟩
      obtain ⟨hi, rfl⟩ := seqI_of hd
      refine wg_name ⟨rfl, ?_⟩ (Nat.le_of_ble_eq_true rfl) (by decide)
      refine wt_yes ⟨fun _ => ?_, fun z => nomatch z⟩
      walk_at "WK"
      have d0 : 0 ≤ (l2.length : Int) + jMore l1 t2 - 1 + (i : Int) * -1 := by omega
      refine ⟨(t2, l2, _), rfl, d0, ?_⟩
      rintro d m ⟨rfl, rfl⟩
      refine ⟨rfl, ?_⟩
      dsimp only
      walk_at "WK"
      refine ⟨(t1, l1, _), rfl, pos_at h2 d0, ?_⟩
      rintro d m ⟨rfl, rfl⟩
      refine ⟨rfl, ?_⟩
      dsimp only
      walk_at "WK"
      rw [jLeft_succ, ← pys_app]
      rfl
    · rintro acc m ⟨rfl, rfl⟩
      rw [seqI_len]
      walk_at "WK"
      refine ⟨_, rfl, ?_⟩
      walk_at "WK"
      refine ⟨_, rfl, ?_⟩
      walk_at "WK"
      refine ⟨_, rfl, ?_⟩
      walk_at "WK"
      rw [pys_len, show t1 + (if t2 - (l1.length : Int) > 0 then t2 - (l1.length : Int) else 0) = jTake t1 l1 t2 from rfl, show (l2.length : Int) + jMore l1 t2 - 1 - -1 = (l2.length : Int) + jMore l1 t2 by omega]
      walk_at "WK"
      refine ⟨(jTake t1 l1 t2, jAll t1 l1 t2 l2), rfl, trivial, ?_⟩
      rintro d m ⟨rfl, rfl⟩
      exact ⟨rfl, rfl, rfl⟩
/-! ## effect_from, + -/
abbrev sp_effect_from (K : PySem.W.Frag) (C : Addr) : Sp := SpX (ι := Int × List Src) K (fun x => [.py (.tuple [.int x.1, srcs x.2])]) (fun x _ => okE x.1 x.2) fun x n d m => d = effD C (cut x.1 x.2).1 (cut x.1 x.2).2 ∧ m = n
theorem ln_effect_from (x : Int × List Src) : [D.py (.tuple [.int x.1, srcs x.2])].length = 1 := rfl
theorem nm_effect_from (x : Int × List Src) : [D.py (.tuple [.int x.1, srcs x.2])].all D.nm = true := rfl
theorem sc_effect_from : FnScope ["pair"] ["pair"] (defScope (top 66)) := ⟨rfl, rfl, rfl, by decide +kernel, rfl, by decide +kernel, by decide +kernel⟩
theorem ok_effect_from (F : FnP K "effect_from" "effect_from" (top 66) f fd) (i_MOST_HIGH : GInt mg "MOST_HIGH" 100) (g_max : mg "max" = none) (g_len : mg "len" = none) (gE : mg "Effect" = some (.ref C)) (I_Effect : StdI P w K mg base 5 C (si_Effect___init__ K C)) : FnOk P w K mg base CX0 7 f fd ["pair"] (sp_effect_from K C) := by
  refine F.ok sc_effect_from (sx_len ln_effect_from) (fun cdv A outer s H vs Q E hr h => ?_)
  have nd := sc_effect_from.nd
  refine ⟨_, PSs.nox (pss_cons (ps_if (pt_cmpR op_gt (pe_callB (callMAX2 rfl) rfl g_max bt_max (pa_cons (pe_ix (ixK (K := K) rfl) (pv 0) (pe_int) (fun _ _ => rfl)) (pa_cons (pe_callB (lenK (K := K) rfl) rfl g_len PySem.boot_len (pa_cons (pe_ix (ixK (K := K) rfl) (pv 0) (pe_int) (fun _ _ => rfl)) (pa_nil))) (pa_nil)))) (pe_gint i_MOST_HIGH rfl) (nomark _)) (pss_one (ps_never)) (pss_nil))
 (pss_one (ps_ret (pe_makeS I_Effect gE hr rfl (pa_cons (pe_ix (ixK (K := K) rfl) (pv 0) (pe_int) (fun _ _ => rfl)) (pa_cons (pe_ix (ixK (K := K) rfl) (pv 0) (pe_int) (fun _ _ => rfl)) (pa_nil))))))), ?_⟩
  refine body_x nm_effect_from ?_ vs H Q E h
  clear h hr
  intro c n x hK hp
  (subst hK)
  try clear i_MOST_HIGH g_max g_len gE I_Effect F
  obtain ⟨t, l⟩ := x
  dsimp only
  obtain ⟨t0, t1, l1, ls⟩ : okE t l := hp
  walk_at "WK"
  refine ⟨_, rfl, ?_⟩
  walk_at "WK"
  refine ⟨_, rfl, ?_⟩
  walk_at "WK"
  rw [pys_len, decide_eq_false (show ¬ (100 : Int) < (if (l.length : Int) > t then (l.length : Int) else t) by split <;> omega)]
  refine ⟨fun z => (nomatch z), fun _ => ?_⟩
  walk_at "WK"
  refine ⟨_, rfl, ?_⟩
  walk_at "WK"
  refine ⟨_, rfl, ?_⟩
  walk_at "WK"
  refine ⟨(t, l), rfl, ⟨t0, t1, l1, ls⟩, ?_⟩
  exact ⟨rfl, rfl⟩
/-- the two together, cut -/
def joinE (t1 : Int) (l1 : List Src) (t2 : Int) (l2 : List Src) : Int × List Src := cut (jTake t1 l1 t2) (jAll t1 l1 t2 l2)
abbrev sp_Effect___add__ (K : PySem.W.Frag) (C : Addr) : Sp := SpX (ι := (Int × List Src) × (Int × List Src)) K (fun x => [effD C x.1.1 x.1.2, effD C x.2.1 x.2.2]) (fun x _ => okE x.1.1 x.1.2 ∧ okE x.2.1 x.2.2 ∧ okE (joinE x.1.1 x.1.2 x.2.1 x.2.2).1 (joinE x.1.1 x.1.2 x.2.1 x.2.2).2) fun x n d m =>
  d = effD C (joinE x.1.1 x.1.2 x.2.1 x.2.2).1 (joinE x.1.1 x.1.2 x.2.1 x.2.2).2 ∧ m = n
theorem ln_Effect___add__ (x : (Int × List Src) × (Int × List Src)) : [effD C x.1.1 x.1.2, effD C x.2.1 x.2.2].length = 2 := rfl
theorem nm_Effect___add__ (x : (Int × List Src) × (Int × List Src)) : [effD C x.1.1 x.1.2, effD C x.2.1 x.2.2].all D.nm = true := rfl
theorem sc_Effect___add__ : FnScope ["self", "other"] ["self", "other"] (defScope (meth 65 8)) := ⟨rfl, rfl, rfl, by decide +kernel, rfl, by decide +kernel, by decide +kernel⟩
theorem ok_Effect___add__ (F : FnP K "__add__" "Effect.__add__" (meth 65 8) f fd) (g_isinstance : mg "isinstance" = none) (S_effect_from : Std P w K mg base 7 "effect_from" ["pair"] (sp_effect_from K C)) (S_joined_pair : Std P w K mg base 3 "joined_pair" ["pair", "other"] (sp_joined_pair K)) (kc : KitC K C) (a1 : NoAttr K C "kept_taken") (a2 : NoAttr K C "kept_left") (gE : mg "Effect" = some (.ref C)) : FnOk P w K mg base CX0 8 f fd ["self", "other"] (sp_Effect___add__ K C) := by
  refine F.ok sc_Effect___add__ (sx_len ln_Effect___add__) (fun cdv A outer s H vs Q E hr h => ?_)
  have nd := sc_Effect___add__.nd
  refine ⟨_, PSs.nox (pss_cons (ps_if (pt_not (truK (K := K) rfl (pe_callB (isiK (K := K) rfl) rfl g_isinstance bt_isinstance (pa_cons (pv 1) (pa_cons (pe_glob (v := .ref C) rfl gE rfl) pa_nil))) (by intro _; rfl))) (pss_one (ps_never)) (pss_nil))
 (pss_one (ps_ret (pe_std S_effect_from hr rfl (pa_cons (pe_std S_joined_pair (hr.mono (by decide)) rfl (pa_cons (pe_tup (pa_cons (pe_fld (pv 0) rfl) (pa_cons (pe_fld (pv 0) rfl) (pa_nil)))) (pa_cons (pe_tup (pa_cons (pe_fld (pv 1) rfl) (pa_cons (pe_fld (pv 1) rfl) (pa_nil)))) (pa_nil)))) (pa_nil)))))), ?_⟩
  refine body_x nm_Effect___add__ ?_ vs H Q E h
  clear h hr
  intro c n x hK hp
  (subst hK)
  try clear g_isinstance S_effect_from S_joined_pair gE F
  obtain ⟨⟨t1, l1⟩, t2, l2⟩ := x
  dsimp only
  obtain ⟨h1, h2, h3⟩ : okE t1 l1 ∧ okE t2 l2 ∧ okE (joinE t1 l1 t2 l2).1 (joinE t1 l1 t2 l2).2 := hp
  walk_at "WK"
  refine cw_isiC rfl (ty2_i kc) kc.me ?_
  walk_at "WK"
  refine ⟨fun z => (nomatch z), fun _ => ?_⟩
  walk_at "WK"
  refine ⟨C, _, _, rfl, kc.cl, a1, rfl, ?_⟩
  walk_at "WK"
  refine ⟨C, _, _, rfl, kc.cl, a2, rfl, ?_⟩
  walk_at "WK"
  refine ⟨C, _, _, rfl, kc.cl, a1, rfl, ?_⟩
  walk_at "WK"
  refine ⟨C, _, _, rfl, kc.cl, a2, rfl, ?_⟩
  walk_at "WK"
  refine ⟨((t1, l1), (t2, l2)), rfl, ⟨h1, h2⟩, ?_⟩
  rintro d m ⟨rfl, rfl⟩
  refine ⟨rfl, ?_⟩
  dsimp only
  walk_at "WK"
  refine ⟨joinE t1 l1 t2 l2, rfl, h3, ?_⟩
  rintro d m ⟨rfl, rfl⟩
  refine ⟨rfl, ?_⟩
  rw [show cut (joinE t1 l1 t2 l2).1 (joinE t1 l1 t2 l2).2 = joinE t1 l1 t2 l2 from cut_cut' _ _]
  exact ⟨rfl, rfl⟩
end
end Wx

/-! ### part Vp -/
set_option Elab.async false
set_option linter.all false
set_option maxRecDepth 100000
set_option maxHeartbeats 1000000
set_option autoImplicit false
/-! The plain law: the cut. -/
namespace Wx
open PySem L2
theorem cut_cut : ∀ (l : List Src) (t : Int), cut (cut t l).1 (cut t l).2 = cut t l
  | [], t => rfl
  | s :: r, t => by
    by_cases q : s = .inp (t - 1) ∧ s ∉ r
    · have e : cut t (s :: r) = cut (t - 1) r := by rw [cut, if_pos q]
      rw [e]
      exact cut_cut r (t - 1)
    · have e : cut t (s :: r) = (t, s :: r) := by rw [cut, if_neg q]
      rw [e, e]
theorem srcAt_cut : ∀ (l : List Src) (t d : Int), 0 ≤ d → srcAt (cut t l).1 (cut t l).2 d = srcAt t l d
  | [], t, d, _ => rfl
  | s :: r, t, d, h => by
    by_cases q : s = .inp (t - 1) ∧ s ∉ r
    · have e : cut t (s :: r) = cut (t - 1) r := by rw [cut, if_pos q]
      rw [e, srcAt_cut r (t - 1) d h]
      unfold srcAt
      rw [List.length_cons]
      by_cases h1 : d < r.length
      · rw [if_pos h1, if_pos (by omega)]
        have e2 : (((r.length + 1 : Nat) : Int) - 1 - d).toNat = ((r.length : Int) - 1 - d).toNat + 1 := by omega
        rw [e2, List.getElem?_cons_succ]
      · rw [if_neg h1]
        by_cases h2 : d = r.length
        · rw [if_pos (by omega)]
          have e2 : (((r.length + 1 : Nat) : Int) - 1 - d).toNat = 0 := by omega
          rw [e2, List.getElem?_cons_zero, Option.getD_some, q.1]
          congr 1
          omega
        · rw [if_neg (by omega)]
          congr 1
          omega
    · have e : cut t (s :: r) = (t, s :: r) := by rw [cut, if_neg q]
      rw [e]
theorem shp_pair (t : Int) (l : List Src) : SeqAt.shaped (.tuple [.int t, srcs l]) = true := by
  obtain ⟨h1, h2⟩ := shpA l
  unfold SeqAt.shaped
  rw [Bool.and_eq_true]
  refine ⟨?_, decide_eq_true ?_⟩
  · simp [PyData.canLay0, PyData.canLayAll0, h1]
  · simp [PyData.depth, PyData.depthAll]
    omega
theorem eqv_pair (x t : Int) (y l : List Src) : PyData.eqv (.tuple [.int x, srcs y]) (.tuple [.int t, srcs l]) = (decide (x = t) && decide (y = l)) := by
  rw [PyData.eqv, PyData.eqvAll, PyData.eqvAll, PyData.eqvAll, eqv_int, eqv_srcs, Bool.and_true]
theorem cut_to {α : Type} (xs : List α) (i : Nat) (h : i ≤ xs.length) : cutD xs none (some (i : Int)) = xs.take i := by
  unfold cutD
  rw [HT.sIx_nat, HT.sIx_none, Nat.min_eq_left h]
  simp
end Wx

/-! ### part Vw -/
set_option Elab.async false
set_option linter.all false
set_option maxRecDepth 100000
set_option maxHeartbeats 1000000
set_option autoImplicit false
/-! The plain law of powers: a cell followed back so many times. -/
namespace Wx
open PySem L2
def pw (t : Int) (l : List Src) : Nat → Int → Src
  | 0, d => .inp d
  | n + 1, d => match srcAt t l d with
    | .lit v => .lit v
    | .inp p => pw t l n p
def wk (t : Int) (l : List Src) : Nat → Int → Option Int
  | 0, d => some d
  | n + 1, d => match srcAt t l d with
    | .lit _ => none
    | .inp p => wk t l n p
section
variable {t : Int} {l : List Src}
theorem pw_lit {n : Nat} {d v : Int} (h : srcAt t l d = .lit v) : pw t l (n + 1) d = .lit v := by rw [pw, h]
theorem pw_inp {n : Nat} {d p : Int} (h : srcAt t l d = .inp p) : pw t l (n + 1) d = pw t l n p := by rw [pw, h]
theorem wk_inp {n : Nat} {d p : Int} (h : srcAt t l d = .inp p) : wk t l (n + 1) d = wk t l n p := by rw [wk, h]
theorem pw_add : ∀ {a b : Nat} {d p : Int}, wk t l a d = some p → pw t l (a + b) d = pw t l b p
  | 0, b, d, p, h => by cases h; rw [Nat.zero_add]
  | a + 1, b, d, p, h => by
    cases z : srcAt t l d with
    | lit v => rw [wk, z] at h; cases h
    | inp q =>
      rw [wk_inp z] at h
      rw [Nat.add_right_comm, pw_inp z]
      exact pw_add h
theorem pw_stop : ∀ {a b : Nat} {d v : Int}, pw t l a d = .lit v → pw t l (a + b) d = .lit v
  | 0, b, d, v, h => by cases h
  | a + 1, b, d, v, h => by
    cases z : srcAt t l d with
    | lit u => rw [pw_lit z] at h; rw [Nat.add_right_comm, pw_lit z]; exact h
    | inp q =>
      rw [pw_inp z] at h
      rw [Nat.add_right_comm, pw_inp z]
      exact pw_stop h
theorem wk_add : ∀ {a b : Nat} {d p : Int}, wk t l a d = some p → wk t l (a + b) d = wk t l b p
  | 0, b, d, p, h => by cases h; rw [Nat.zero_add]
  | a + 1, b, d, p, h => by
    cases z : srcAt t l d with
    | lit v => rw [wk, z] at h; cases h
    | inp q =>
      rw [wk_inp z] at h
      rw [Nat.add_right_comm, wk_inp z]
      exact wk_add h
theorem wk_one {d p : Int} (h : srcAt t l d = .inp p) : wk t l 1 d = some p := by rw [wk_inp h]; rfl
theorem wk_next {a : Nat} {d p q : Int} (h : wk t l a d = some p) (z : srcAt t l p = .inp q) : wk t l (a + 1) d = some q := by rw [wk_add h]; exact wk_one z
theorem pw_ring {m : Nat} {d : Int} (h : wk t l m d = some d) : ∀ n : Nat, pw t l n d = pw t l (n % m) d := fun n => by
  induction n using Nat.strongRecOn with
  | ind n ih =>
    by_cases hm : m = 0
    · rw [hm, Nat.mod_zero]
    · by_cases hn : n < m
      · rw [Nat.mod_eq_of_lt hn]
      · have e : n = m + (n - m) := by omega
        rw [e, pw_add h, ih (n - m) (by omega), Nat.add_mod_left]
theorem pw_wk : ∀ {n : Nat} {d p : Int}, wk t l n d = some p → pw t l n d = .inp p := fun {n d p} h => by
  have := pw_add (b := 0) h
  exact this
theorem wk_pw : ∀ {n : Nat} {d p : Int}, pw t l n d = .inp p → wk t l n d = some p
  | 0, d, p, h => by cases h; rfl
  | n + 1, d, p, h => by
    cases z : srcAt t l d with
    | lit v => rw [pw_lit z] at h; cases h
    | inp q => rw [pw_inp z] at h; rw [wk_inp z]; exact wk_pw h
/-- the straight way -/
theorem wk_far : ∀ {k : Nat} {d : Int}, (∀ j : Nat, j < k → (l.length : Int) ≤ d + j * (t - l.length)) → wk t l k d = some (d + k * (t - l.length))
  | 0, d, _ => by simp [wk]
  | k + 1, d, h => by
    have h0 := h 0 (by omega)
    have z : srcAt t l d = .inp (d + t - l.length) := by unfold srcAt; rw [if_neg (by simp at h0; omega)]
    rw [wk_inp z, wk_far (k := k) fun j hj => ?_]
    · congr 1
      have e : ((k + 1 : Nat) : Int) = (k : Int) + 1 := by omega
      rw [e, Int.add_mul]
      omega
    · have := h (j + 1) (by omega)
      have e : ((j + 1 : Nat) : Int) = (j : Int) + 1 := by omega
      rw [e, Int.add_mul] at this
      omega
theorem pw_far {n : Nat} {d : Int} (h : (l.length : Int) ≤ d) (hs : 0 ≤ t - l.length) : pw t l n d = .inp (d + n * (t - l.length)) :=
  pw_wk (wk_far fun j _ => by
    have : 0 ≤ (j : Int) * (t - l.length) := Int.mul_nonneg (by omega) hs
    omega)
/-- the passes down, until it is below -/
theorem down_le {k : Nat} {d : Int} (hs : t - (l.length : Int) < 0) (hk : (k : Int) ≤ (d - l.length) / (0 - (t - l.length)) + 1) : ((k : Int) - 1) * (0 - (t - l.length)) ≤ d - l.length := by
  have hz : 0 < 0 - (t - (l.length : Int)) := by omega
  have h1 : ((k : Int) - 1) * (0 - (t - l.length)) ≤ (d - l.length) / (0 - (t - l.length)) * (0 - (t - l.length)) := Int.mul_le_mul_of_nonneg_right (by omega) (by omega)
  have h2 := Int.ediv_mul_le (d - l.length) (Int.ne_of_gt hz)
  omega
theorem wk_down {k : Nat} {d : Int} (h : (l.length : Int) ≤ d) (hs : t - (l.length : Int) < 0) (hk : (k : Int) ≤ (d - l.length) / (0 - (t - l.length)) + 1) : wk t l k d = some (d + k * (t - l.length)) := wk_far fun j hj => by
  have h1 := down_le hs hk
  have h2 : (j : Int) * (0 - (t - l.length)) ≤ ((k : Int) - 1) * (0 - (t - l.length)) := Int.mul_le_mul_of_nonneg_right (by omega) (by omega)
  have h3 : (j : Int) * (0 - (t - l.length)) = - (j * (t - l.length)) := by rw [Int.zero_sub, Int.mul_neg]
  omega
theorem down_nn {k : Nat} {d : Int} (h0 : 0 ≤ t) (hs : t - (l.length : Int) < 0) (hk : (k : Int) ≤ (d - l.length) / (0 - (t - l.length)) + 1) : 0 ≤ d + k * (t - l.length) ∧ d + k * (t - l.length) ≤ d := by
  have h1 := down_le hs hk
  have h3 : ((k : Int) - 1) * (0 - (t - l.length)) = - (k * (t - l.length)) + (t - l.length) := by
    rw [Int.zero_sub, Int.mul_neg, Int.sub_mul]
    omega
  have h4 : 0 ≤ (k : Int) * (0 - (t - l.length)) := Int.mul_nonneg (by omega) (by omega)
  have h5 : (k : Int) * (0 - (t - l.length)) = - (k * (t - l.length)) := by rw [Int.zero_sub, Int.mul_neg]
  omega
theorem down_pos {d : Int} (h : (l.length : Int) ≤ d) (hs : t - (l.length : Int) < 0) : 0 ≤ (d - l.length) / (0 - (t - l.length)) := Int.ediv_nonneg (by omega) (by omega)
end
theorem src_bound {t d p D : Int} {l : List Src} (o : okE t l) (h0 : 0 ≤ d) (hD : 100 ≤ D) (hd : d ≤ D) (z : srcAt t l d = .inp p) : 0 ≤ p ∧ p ≤ D + 100 := by
  obtain ⟨t0, t1, l1, ls⟩ := o
  unfold srcAt at z
  split at z
  · cases y : l[((l.length : Int) - 1 - d).toNat]? with
    | none => rw [y] at z; cases z; omega
    | some s =>
      rw [y] at z
      have hs := ls s (List.mem_of_getElem? y)
      rw [show s = .inp p from z] at hs
      have hs' : 0 ≤ p ∧ p < t := hs
      omega
  · have := Src.inp.inj z
    omega
theorem pw_bound {t : Int} {l : List Src} (o : okE t l) : ∀ {n : Nat} {d q D : Int}, 0 ≤ d → 100 ≤ D → d ≤ D → pw t l n d = .inp q → 0 ≤ q ∧ q ≤ D + 100 * n
  | 0, d, q, D, h0, hD, hd, h => by cases h; omega
  | n + 1, d, q, D, h0, hD, hd, h => by
    cases z : srcAt t l d with
    | lit v => rw [pw_lit z] at h; cases h
    | inp p =>
      rw [pw_inp z] at h
      have b := src_bound o h0 hD hd z
      have := pw_bound o (D := D + 100) b.1 (by omega) b.2 h
      omega
theorem lit_bound {t d v : Int} {l : List Src} (o : okE t l) (z : srcAt t l d = .lit v) : -(10 ^ 30) ≤ v ∧ v ≤ 10 ^ 30 := by
  obtain ⟨t0, t1, l1, ls⟩ := o
  unfold srcAt at z
  split at z
  · cases y : l[((l.length : Int) - 1 - d).toNat]? with
    | none => rw [y] at z; cases z
    | some s =>
      rw [y] at z
      have hs := ls s (List.mem_of_getElem? y)
      rw [show s = .lit v from z] at hs
      exact hs
  · cases z
theorem pw_litB {t : Int} {l : List Src} (o : okE t l) : ∀ {n : Nat} {d v : Int}, pw t l n d = .lit v → -(10 ^ 30) ≤ v ∧ v ≤ 10 ^ 30
  | 0, d, v, h => by cases h
  | n + 1, d, v, h => by
    cases z : srcAt t l d with
    | lit u => rw [pw_lit z] at h; cases h; exact lit_bound o z
    | inp p => rw [pw_inp z] at h; exact pw_litB o h
/-! ## few different places -/
theorem nodup_le : ∀ {n : Nat} {xs : List Int}, xs.Nodup → (∀ x ∈ xs, 0 ≤ x ∧ x < n) → xs.length ≤ n
  | 0, xs, _, h => by
    cases xs with
    | nil => exact Nat.le_refl _
    | cons x r => have := h x List.mem_cons_self; omega
  | n + 1, xs, hn, h => by
    have ih := nodup_le (n := n) (xs := xs.erase (n : Int)) (hn.erase _) fun x hx => by
      have h1 := (List.Nodup.mem_erase_iff hn).mp hx
      have h2 := h x h1.2
      have h3 : x ≠ (n : Int) := h1.1
      omega
    have e := List.length_erase (a := (n : Int)) (l := xs)
    split at e <;> omega
def dN (xs : List (Int × Nat)) : List (Key × PyData) := xs.map fun p => (.inl p.1, .int (p.2 : Int))
theorem dN_none {d : Int} : ∀ {xs : List (Int × Nat)}, valP (dN xs) (.inl d) = none → d ∉ xs.map Prod.fst
  | [], _ => by simp
  | p :: r, h => by
    by_cases e : p.1 = d
    · rw [show dN (p :: r) = (.inl p.1, .int (p.2 : Int)) :: dN r from rfl, valP_pos (by rw [e])] at h
      cases h
    · rw [show dN (p :: r) = (.inl p.1, .int (p.2 : Int)) :: dN r from rfl, valP_neg (fun z => e (Sum.inl.inj z))] at h
      have := dN_none h
      rw [List.map_cons, List.mem_cons]
      exact fun z => z.elim (fun z => e z.symm) this
theorem dN_some {d : Int} {y : PyData} : ∀ {xs : List (Int × Nat)}, valP (dN xs) (.inl d) = some y → ∃ T : Nat, (d, T) ∈ xs ∧ y = .int (T : Int)
  | [], h => by cases h
  | p :: r, h => by
    by_cases e : p.1 = d
    · rw [show dN (p :: r) = (.inl p.1, .int (p.2 : Int)) :: dN r from rfl, valP_pos (by rw [e])] at h
      cases h
      exact ⟨p.2, by rw [← e]; exact List.mem_cons_self, rfl⟩
    · rw [show dN (p :: r) = (.inl p.1, .int (p.2 : Int)) :: dN r from rfl, valP_neg (fun z => e (Sum.inl.inj z))] at h
      obtain ⟨T, h1, h2⟩ := dN_some h
      exact ⟨T, List.mem_cons_of_mem _ h1, h2⟩
theorem dN_put {d : Int} {T : Nat} {xs : List (Int × Nat)} (h : valP (dN xs) (.inl d) = none) : putP (dN xs) (.inl d) (.int (T : Int)) = dN (xs ++ [(d, T)]) := by
  unfold putP
  rw [valP_any, h, if_neg (by simp)]
  unfold dN
  rw [List.map_append]
  rfl
end Wx

/-! ### part Vq -/
set_option Elab.async false
set_option linter.all false
set_option maxRecDepth 100000
set_option maxHeartbeats 1000000
set_option autoImplicit false
/-! The plain law of effects put together. -/
namespace Wx
open PySem L2
theorem jLeft_len (t1 : Int) (l1 : List Src) (t2 : Int) (l2 : List Src) (k : Nat) : (jLeft t1 l1 t2 l2 k).length = k := by unfold jLeft; rw [List.length_map, List.length_range]
theorem srcAt_jAll {t1 t2 : Int} {l1 l2 : List Src} {d : Int} (h0 : 0 ≤ d) : srcAt (jTake t1 l1 t2) (jAll t1 l1 t2 l2) d = thr t1 l1 (srcAt t2 l2 d) := by
  have hm : 0 ≤ jMore l1 t2 := by unfold jMore; split <;> omega
  have hk : (((l2.length : Int) + jMore l1 t2).toNat : Int) = (l2.length : Int) + jMore l1 t2 := by omega
  unfold jAll
  by_cases h : d < (l2.length : Int) + jMore l1 t2
  · have e : srcAt (jTake t1 l1 t2) (jLeft t1 l1 t2 l2 ((l2.length : Int) + jMore l1 t2).toNat) d = ((jLeft t1 l1 t2 l2 ((l2.length : Int) + jMore l1 t2).toNat)[((l2.length : Int) + jMore l1 t2 - 1 - d).toNat]?).getD (.inp 0) := by
      unfold srcAt
      rw [jLeft_len, hk, if_pos h]
    rw [e]
    unfold jLeft
    rw [List.getElem?_map, List.getElem?_range (by omega)]
    show thr t1 l1 (srcAt t2 l2 _) = _
    congr 2
    omega
  · have e : srcAt (jTake t1 l1 t2) (jLeft t1 l1 t2 l2 ((l2.length : Int) + jMore l1 t2).toNat) d = .inp (d + jTake t1 l1 t2 - ((l2.length : Int) + jMore l1 t2)) := by
      unfold srcAt
      rw [jLeft_len, hk, if_neg h]
    rw [e]
    have h2 : ¬ d < (l2.length : Int) := by omega
    have e2 : srcAt t2 l2 d = .inp (d + t2 - l2.length) := by unfold srcAt; rw [if_neg h2]
    rw [e2]
    have h3 : ¬ d + t2 - (l2.length : Int) < (l1.length : Int) := by unfold jMore at h; split at h <;> omega
    have e3 : thr t1 l1 (.inp (d + t2 - l2.length)) = .inp (d + t2 - l2.length + t1 - l1.length) := by
      show srcAt t1 l1 _ = _
      unfold srcAt
      rw [if_neg h3]
    rw [e3]
    congr 1
    unfold jTake jMore
    split <;> split <;> omega
/-- one step of the cut keeps the sources -/
theorem srcAt_step {t d : Int} {r : List Src} (h0 : 0 ≤ d) : srcAt t (.inp (t - 1) :: r) d = srcAt (t - 1) r d := by
  unfold srcAt
  rw [List.length_cons]
  by_cases h1 : d < r.length
  · rw [if_pos (by omega), if_pos h1]
    have e2 : (((r.length + 1 : Nat) : Int) - 1 - d).toNat = ((r.length : Int) - 1 - d).toNat + 1 := by omega
    rw [e2, List.getElem?_cons_succ]
  · rw [if_neg h1]
    by_cases h2 : d = r.length
    · rw [if_pos (by omega)]
      have e2 : (((r.length + 1 : Nat) : Int) - 1 - d).toNat = 0 := by omega
      rw [e2, List.getElem?_cons_zero, Option.getD_some]
      congr 1
      omega
    · rw [if_neg (by omega)]
      congr 1
      omega
theorem srcAt_get {t : Int} {l : List Src} {i : Nat} (h : i < l.length) : srcAt t l ((l.length : Int) - 1 - i) = l[i] := by
  unfold srcAt
  rw [if_pos (by omega)]
  have e : ((l.length : Int) - 1 - ((l.length : Int) - 1 - (i : Int))).toNat = i := by omega
  rw [e, List.getElem?_eq_getElem h, Option.getD_some]
theorem srcAt_far {t d : Int} {l : List Src} (h : (l.length : Int) ≤ d) : srcAt t l d = .inp (d + t - l.length) := by
  unfold srcAt
  rw [if_neg (by omega)]
/-- the cut form is told by the sources and the growth -/
theorem canon : ∀ (k : Nat) {t1 t2 : Int} {l1 l2 : List Src}, (∀ s ∈ l1, okS t1 s) → (∀ s ∈ l2, okS t2 s) → l1.length = l2.length + k → (l1.length : Int) - t1 = l2.length - t2 → (∀ d, 0 ≤ d → srcAt t1 l1 d = srcAt t2 l2 d) → cut t1 l1 = cut t2 l2
  | 0, t1, t2, l1, l2, o1, o2, hl, hg, hs => by
    have e : t1 = t2 := by omega
    have e2 : l1 = l2 := by
      refine List.ext_getElem (by omega) fun i h1 h2 => ?_
      rw [← srcAt_get (t := t1) h1, ← srcAt_get (t := t2) h2, hs _ (by omega)]
      congr 1
      omega
    rw [e, e2]
  | k + 1, t1, t2, l1, l2, o1, o2, hl, hg, hs => by
    cases l1 with
    | nil => simp at hl
    | cons s r =>
      rw [List.length_cons] at hl hg
      have es : s = .inp (t1 - 1) := by
        have z := hs r.length (by omega)
        have z1 : srcAt t1 (s :: r) r.length = s := by
          have y := srcAt_get (t := t1) (l := s :: r) (i := 0) (by simp)
          rw [List.length_cons] at y
          have e : ((r.length + 1 : Nat) : Int) - 1 - ((0 : Nat) : Int) = (r.length : Int) := by omega
          rw [e] at y
          exact y
        rw [z1, srcAt_far (by omega)] at z
        rw [z]
        congr 1
        omega
      subst es
      have nin : Src.inp (t1 - 1) ∉ r := fun hm => by
        obtain ⟨i, hi, e⟩ := List.getElem_of_mem hm
        have z : srcAt t1 (.inp (t1 - 1) :: r) ((r.length : Int) - 1 - i) = .inp (t1 - 1) := by
          rw [srcAt_step (by omega), srcAt_get hi, e]
        rw [hs _ (by omega)] at z
        by_cases q : (l2.length : Int) ≤ (r.length : Int) - 1 - i
        · rw [srcAt_far q] at z
          have := Src.inp.inj z
          omega
        · have hj : l2.length - 1 - (r.length - 1 - i) < l2.length := by omega
          have y := srcAt_get (t := t2) hj
          have e2 : (l2.length : Int) - 1 - ((l2.length - 1 - (r.length - 1 - i) : Nat) : Int) = (r.length : Int) - 1 - i := by omega
          rw [e2] at y
          rw [y] at z
          have o := o2 _ (List.getElem_mem hj)
          rw [z] at o
          have o' : 0 ≤ t1 - 1 ∧ t1 - 1 < t2 := o
          omega
      rw [cut, if_pos ⟨rfl, nin⟩]
      refine canon k (t1 := t1 - 1) (fun u hu => ?_) o2 (by omega) (by omega) fun d hd => ?_
      · have z := o1 u (List.mem_cons_of_mem _ hu)
        cases u with
        | inp p =>
          have z' : 0 ≤ p ∧ p < t1 := z
          have ne : p ≠ t1 - 1 := fun e => nin (by rw [← e]; exact hu)
          exact ⟨z'.1, by omega⟩
        | lit v => exact z
      · rw [← srcAt_step hd]
        exact hs d hd
theorem cut_grow : ∀ (l : List Src) (t : Int), ((cut t l).2.length : Int) - (cut t l).1 = l.length - t
  | [], t => rfl
  | s :: r, t => by
    rw [cut]
    split
    · rw [cut_grow r (t - 1), List.length_cons]
      omega
    · rfl
end Wx

/-! ### part Vy -/
set_option Elab.async false
set_option linter.all false
set_option maxRecDepth 100000
set_option maxHeartbeats 1000000
set_option autoImplicit false
/-! The plain law of powers of effects. -/
namespace Wx
open PySem L2
theorem cut_oks : ∀ (l : List Src) (t : Int), 0 ≤ t → (∀ s ∈ l, okS t s) → 0 ≤ (cut t l).1 ∧ ∀ s ∈ (cut t l).2, okS (cut t l).1 s
  | [], t, h0, h => ⟨h0, h⟩
  | s :: r, t, h0, h3 => by
    rw [cut]
    split
    · rename_i q
      have hs := h3 s List.mem_cons_self
      rw [q.1] at hs
      have hs' : 0 ≤ t - 1 ∧ t - 1 < t := hs
      refine cut_oks r (t - 1) hs'.1 (fun u hu => ?_)
      have z := h3 u (List.mem_cons_of_mem _ hu)
      cases u with
      | inp p =>
        have z' : 0 ≤ p ∧ p < t := z
        have ne : p ≠ t - 1 := fun e => q.2 (by rw [q.1, ← e]; exact hu)
        exact ⟨z'.1, by omega⟩
      | lit v => exact z
    · exact ⟨h0, h3⟩
theorem cut_le1 (t : Int) (l : List Src) : (cut t l).1 ≤ t := by
  induction l generalizing t with
  | nil => exact Int.le_refl _
  | cons s r ih =>
    rw [cut]
    split
    · have := ih (t - 1); omega
    · exact Int.le_refl _
theorem canon3 {t1 t2 : Int} {l1 l2 : List Src} (o1 : ∀ s ∈ l1, okS t1 s) (o2 : ∀ s ∈ l2, okS t2 s) (hg : (l1.length : Int) - t1 = l2.length - t2) (hs : ∀ d, 0 ≤ d → srcAt t1 l1 d = srcAt t2 l2 d) : cut t1 l1 = cut t2 l2 := by
  by_cases h : l2.length ≤ l1.length
  · obtain ⟨k, hk⟩ := Nat.exists_eq_add_of_le h
    exact canon k o1 o2 (by omega) hg hs
  · obtain ⟨k, hk⟩ := Nat.exists_eq_add_of_le (show l1.length ≤ l2.length by omega)
    exact (canon k o2 o1 (by omega) hg.symm fun d hd => (hs d hd).symm).symm
/-! ## the power -/
def upS (t : Int) (l : List Src) : Int := if t - (l.length : Int) > 0 then t - l.length else 0
def dnS (t : Int) (l : List Src) : Int := if (l.length : Int) - t > 0 then l.length - t else 0
def wT (t : Int) (l : List Src) (N : Nat) : Int := t + ((N : Int) - 1) * upS t l
def wM (t : Int) (l : List Src) (N : Nat) : Int := l.length + ((N : Int) - 1) * dnS t l
def pLs (t : Int) (l : List Src) (N k : Nat) : List Src := (List.range k).map fun (j : Nat) => pw t l N (wM t l N - 1 + (j : Int) * -1)
def pAll (t : Int) (l : List Src) (N : Nat) : List Src := pLs t l N (wM t l N).toNat
def pwr (t : Int) (l : List Src) (N : Nat) : Int × List Src := if N = 0 then (0, []) else cut (wT t l N) (pAll t l N)
def hi (t : Int) (l : List Src) (N : Nat) : Prop := 100 < (pwr t l N).1 ∨ 100 < ((pwr t l N).2.length : Int)
instance (t : Int) (l : List Src) (N : Nat) : Decidable (hi t l N) := by unfold hi; exact inferInstance
theorem pLs_succ (t : Int) (l : List Src) (N k : Nat) : pLs t l N (k + 1) = pLs t l N k ++ [pw t l N (wM t l N - 1 + (k : Int) * -1)] := by
  unfold pLs
  rw [List.range_succ, List.map_append]
  rfl
theorem pLs_len (t : Int) (l : List Src) (N k : Nat) : (pLs t l N k).length = k := by unfold pLs; rw [List.length_map, List.length_range]
section
variable {t : Int} {l : List Src} {N : Nat}
theorem wM_nn (h : 1 ≤ N) : 0 ≤ wM t l N := by
  unfold wM dnS
  have : 0 ≤ ((N : Int) - 1) * (if (l.length : Int) - t > 0 then (l.length : Int) - t else 0) := Int.mul_nonneg (by omega) (by split <;> omega)
  omega
theorem wT_nn (h : 1 ≤ N) (h0 : 0 ≤ t) : 0 ≤ wT t l N := by
  unfold wT upS
  have : 0 ≤ ((N : Int) - 1) * (if t - (l.length : Int) > 0 then t - (l.length : Int) else 0) := Int.mul_nonneg (by omega) (by split <;> omega)
  omega
theorem pAll_len (h : 1 ≤ N) : ((pAll t l N).length : Int) = wM t l N := by
  unfold pAll
  rw [pLs_len]
  have := wM_nn (t := t) (l := l) h
  omega
theorem w_grow : wM t l N - wT t l N = (N : Int) * (l.length - t) := by
  unfold wM wT upS dnS
  by_cases h : (l.length : Int) - t > 0
  · rw [if_pos h, if_neg (show ¬ t - (l.length : Int) > 0 by omega), Int.sub_mul]
    omega
  · rw [if_neg h]
    by_cases h2 : t - (l.length : Int) > 0
    · have e3 : ((N : Int) - 1) * (t - l.length) = (N : Int) * (t - l.length) - (t - l.length) := by rw [Int.sub_mul]; omega
      rw [if_pos h2, e3, Int.mul_zero]
      have e : (N : Int) * (t - l.length) = - ((N : Int) * (l.length - t)) := by rw [← Int.mul_neg]; congr 1; omega
      omega
    · rw [if_neg h2]
      have e : (l.length : Int) - t = 0 := by omega
      rw [e, Int.mul_zero, Int.mul_zero]
      omega
/-- a cell below the power's -/
theorem pw_below (h : 1 ≤ N) {d : Int} (hd : wM t l N ≤ d) : pw t l N d = .inp (d + N * (t - l.length)) := by
  refine pw_wk (wk_far fun j hj => ?_)
  unfold wM dnS at hd
  by_cases q : (l.length : Int) - t > 0
  · rw [if_pos q] at hd
    have a : (j : Int) * (t - l.length) = - ((j : Int) * (l.length - t)) := by rw [← Int.mul_neg]; congr 1; omega
    have b : (j : Int) * (l.length - t) ≤ ((N : Int) - 1) * (l.length - t) := Int.mul_le_mul_of_nonneg_right (by omega) (by omega)
    omega
  · rw [if_neg q, Int.mul_zero] at hd
    have : 0 ≤ (j : Int) * (t - l.length) := Int.mul_nonneg (by omega) (by omega)
    omega
theorem pAll_src (h : 1 ≤ N) {d : Int} (d0 : 0 ≤ d) : srcAt (wT t l N) (pAll t l N) d = pw t l N d := by
  have e1 := pAll_len (t := t) (l := l) h
  have e2 := w_grow (t := t) (l := l) (N := N)
  by_cases q : d < wM t l N
  · have e : srcAt (wT t l N) (pAll t l N) d = ((pAll t l N)[(wM t l N - 1 - d).toNat]?).getD (.inp 0) := by
      unfold srcAt
      rw [e1, if_pos q]
    rw [e]
    unfold pAll pLs
    rw [List.getElem?_map, List.getElem?_range (by omega)]
    show pw t l N _ = _
    congr 1
    omega
  · have e : srcAt (wT t l N) (pAll t l N) d = .inp (d + wT t l N - wM t l N) := by
      unfold srcAt
      rw [e1, if_neg q]
    rw [e, pw_below h (by omega)]
    congr 1
    have : (N : Int) * (t - l.length) = - ((N : Int) * (l.length - t)) := by rw [← Int.mul_neg]; congr 1; omega
    omega
/-- what the power takes is enough -/
theorem pw_in (o : okE t l) : ∀ {N : Nat} {d p : Int}, 0 ≤ d → d < wM t l (N + 1) → pw t l (N + 1) d = .inp p → p < wT t l (N + 1)
  | N, d, p, d0, hd, e => by
    obtain ⟨t0, t1, l1, ls⟩ := o
    cases z : srcAt t l d with
    | lit v => rw [pw_lit z] at e; cases e
    | inp q =>
      rw [pw_inp z] at e
      have up0 : 0 ≤ upS t l := by unfold upS; split <;> omega
      have hT : wT t l (N + 1) = t + N * upS t l := by unfold wT; congr 2; omega
      have hM : wM t l (N + 1) = l.length + N * dnS t l := by unfold wM; congr 2; omega
      have hq : q < t ∨ (l.length : Int) ≤ d ∧ q = d + t - l.length := by
        unfold srcAt at z
        split at z
        · left
          cases y : l[((l.length : Int) - 1 - d).toNat]? with
          | none =>
            have := List.getElem?_eq_none_iff.mp y
            omega
          | some s =>
            rw [y] at z
            have hs := ls s (List.mem_of_getElem? y)
            rw [show s = .inp q from z] at hs
            exact hs.2
        · exact .inr ⟨by omega, (Src.inp.inj z).symm⟩
      have far : wM t l N ≤ q ∨ N = 0 → p < wT t l (N + 1) := fun w => by
        have ep : p = q + N * (t - l.length) := by
          rcases w with w | w
          · by_cases h : 1 ≤ N
            · rw [pw_below h w] at e
              exact (Src.inp.inj e).symm
            · have : N = 0 := by omega
              subst this
              cases e
              simp
          · subst w
            cases e
            simp
        rw [hT, ep]
        by_cases c : (l.length : Int) - t > 0
        · have eu : upS t l = 0 := by unfold upS; rw [if_neg (by omega)]
          have ed : dnS t l = l.length - t := by unfold dnS; rw [if_pos c]
          rw [hM, ed] at hd
          rw [eu, Int.mul_zero]
          have a : (N : Int) * (t - l.length) = - ((N : Int) * (l.length - t)) := by rw [← Int.mul_neg]; congr 1; omega
          have b : 0 ≤ (N : Int) * (l.length - t) := Int.mul_nonneg (by omega) (by omega)
          omega
        · have eu : upS t l = t - l.length := by unfold upS; split <;> omega
          have ed : dnS t l = 0 := by unfold dnS; rw [if_neg c]
          rw [hM, ed, Int.mul_zero] at hd
          rw [eu]
          omega
      cases N with
      | zero => exact far (.inr rfl)
      | succ M =>
        by_cases w : wM t l (M + 1) ≤ q
        · exact far (.inl w)
        · have q0 : 0 ≤ q := by
            rcases hq with h | h
            · unfold srcAt at z
              split at z
              · cases y : l[((l.length : Int) - 1 - d).toNat]? with
                | none =>
                  have := List.getElem?_eq_none_iff.mp y
                  omega
                | some s =>
                  rw [y] at z
                  have hs := ls s (List.mem_of_getElem? y)
                  rw [show s = .inp q from z] at hs
                  exact hs.1
              · have := Src.inp.inj z
                omega
            · omega
          have r := pw_in ⟨t0, t1, l1, ls⟩ (N := M) q0 (by omega) e
          have hT2 : wT t l (M + 1) = t + M * upS t l := by unfold wT; congr 2; omega
          have m : (M : Int) * upS t l ≤ ((M + 1 : Nat) : Int) * upS t l := Int.mul_le_mul_of_nonneg_right (by omega) up0
          omega
theorem pAll_ok (o : okE t l) (h : 1 ≤ N) : ∀ s ∈ pAll t l N, okS (wT t l N) s := fun s hs => by
  unfold pAll pLs at hs
  obtain ⟨j, hj, rfl⟩ := List.mem_map.mp hs
  have hj' := List.mem_range.mp hj
  generalize hd : wM t l N - 1 + (j : Int) * -1 = d
  have d0 : 0 ≤ d ∧ d < wM t l N := by omega
  cases z : pw t l N d with
  | lit v => exact pw_litB o z
  | inp p =>
    have a := pw_bound o (D := 100 + d) d0.1 (by omega) (by omega) z
    obtain ⟨M, rfl⟩ : ∃ M, N = M + 1 := ⟨N - 1, by omega⟩
    exact ⟨a.1, pw_in o d0.1 d0.2 z⟩
theorem pwr_src {d : Int} (d0 : 0 ≤ d) : srcAt (pwr t l N).1 (pwr t l N).2 d = pw t l N d := by
  unfold pwr
  by_cases h : N = 0
  · subst h
    rw [if_pos rfl]
    have e : srcAt 0 [] d = .inp (d + 0 - (([] : List Src).length : Int)) := srcAt_far (by simpa using d0)
    show srcAt 0 [] d = .inp d
    rw [e]
    congr 1
    simp
  · rw [if_neg h, srcAt_cut _ _ _ d0, pAll_src (by omega) d0]
theorem pwr_grow : ((pwr t l N).2.length : Int) - (pwr t l N).1 = N * (l.length - t) := by
  unfold pwr
  by_cases h : N = 0
  · subst h
    rw [if_pos rfl]
    simp
  · rw [if_neg h, cut_grow, pAll_len (by omega), w_grow]
theorem pwr_cut : cut (pwr t l N).1 (pwr t l N).2 = pwr t l N := by
  unfold pwr
  by_cases h : N = 0
  · rw [if_pos h]; rfl
  · rw [if_neg h, cut_cut]
theorem pwr_oks (o : okE t l) : 0 ≤ (pwr t l N).1 ∧ ∀ s ∈ (pwr t l N).2, okS (pwr t l N).1 s := by
  unfold pwr
  by_cases h : N = 0
  · rw [if_pos h]
    exact ⟨Int.le_refl _, fun s hs => nomatch hs⟩
  · rw [if_neg h]
    exact cut_oks _ _ (wT_nn (by omega) o.1) (pAll_ok o (by omega))
theorem pwr_ok (o : okE t l) (h : ¬ hi t l N) : okE (pwr t l N).1 (pwr t l N).2 := by
  unfold hi at h
  have := pwr_oks (N := N) o
  exact ⟨this.1, by omega, by omega, this.2⟩
theorem hi_far (o : okE t l) (h : 1 ≤ N) (hw : 200 < wT t l N ∨ 200 < wM t l N) : hi t l N := by
  have e : pwr t l N = cut (wT t l N) (pAll t l N) := by unfold pwr; rw [if_neg (by omega)]
  have g := cut_grow (pAll t l N) (wT t l N)
  have n0 := (pwr_oks (N := N) o).1
  have le := cut_le1 (wT t l N) (pAll t l N)
  rw [pAll_len h] at g
  rw [← e] at g le
  obtain ⟨t0, t1, l1, ls⟩ := o
  have hu : (wT t l N ≤ 100 ∨ wM t l N ≤ 100) := by
    unfold wT wM upS dnS
    by_cases c : (l.length : Int) - t > 0
    · rw [if_neg (show ¬ t - (l.length : Int) > 0 by omega), Int.mul_zero]
      left; omega
    · rw [if_neg c, Int.mul_zero]
      right; omega
  unfold hi
  omega
theorem pwr_uniq (o : okE t l) {x : Int} {y : List Src} (oy : ∀ s ∈ y, okS x s) (hc : cut x y = (x, y)) (hg : (y.length : Int) - x = N * (l.length - t)) (hs : ∀ d, 0 ≤ d → srcAt x y d = pw t l N d) : (x, y) = pwr t l N := by
  rw [← hc, ← pwr_cut]
  exact canon3 oy (pwr_oks o).2 (by rw [hg, pwr_grow]) fun d hd => by rw [hs d hd, pwr_src hd]
theorem pwr_one (o : okE t l) (hc : cut t l = (t, l)) : pwr t l 1 = (t, l) := (pwr_uniq o o.2.2.2 hc (by omega) fun d hd => by
  cases z : srcAt t l d with
  | lit v => rw [pw_lit z]
  | inp p => rw [pw_inp z]; rfl).symm
theorem pw_join {a b : Nat} {d : Int} (o : okE t l) (d0 : 0 ≤ d) : thr (pwr t l a).1 (pwr t l a).2 (pw t l b d) = pw t l (a + b) d := by
  cases z : pw t l b d with
  | lit v => rw [Nat.add_comm, pw_stop z]; rfl
  | inp p =>
    have h := pw_bound o (D := 100 + d) d0 (by omega) (by omega) z
    show srcAt _ _ p = _
    rw [pwr_src h.1, Nat.add_comm, pw_add (wk_pw z)]
/-- the sources of two together -/
theorem jAll_oks {t1 t2 : Int} {l1 l2 : List Src} (h1 : okE t1 l1) (h2 : okE t2 l2) : 0 ≤ jTake t1 l1 t2 ∧ ∀ s ∈ jAll t1 l1 t2 l2, okS (jTake t1 l1 t2) s := by
  obtain ⟨a0, a1, a2, a3⟩ := h1
  obtain ⟨b0, b1, b2, b3⟩ := h2
  have hm : 0 ≤ jMore l1 t2 := by unfold jMore; split <;> omega
  have ht : t1 ≤ jTake t1 l1 t2 := by unfold jTake; split <;> omega
  have ht2 : t2 + t1 - l1.length ≤ jTake t1 l1 t2 := by unfold jTake; split <;> omega
  refine ⟨by omega, fun s hs => ?_⟩
  unfold jAll jLeft at hs
  obtain ⟨j, hj, rfl⟩ := List.mem_map.mp hs
  have hj' := List.mem_range.mp hj
  generalize hd : (l2.length : Int) + jMore l1 t2 - 1 + (j : Int) * -1 = d
  have d0 : 0 ≤ d ∧ d < (l2.length : Int) + jMore l1 t2 := by omega
  have q1 : ∀ q : Int, srcAt t2 l2 d = .inp q → 0 ≤ q ∧ (q < t2 ∨ q < l1.length) := fun q e => by
    unfold srcAt at e
    split at e
    · cases z : l2[((l2.length : Int) - 1 - d).toNat]? with
      | none =>
        have := List.getElem?_eq_none_iff.mp z
        omega
      | some s =>
        rw [z] at e
        have o := b3 s (List.mem_of_getElem? z)
        rw [show s = .inp q from e] at o
        exact ⟨o.1, .inl o.2⟩
    · have e' := Src.inp.inj e
      have : jMore l1 t2 = 0 ∨ jMore l1 t2 = l1.length - t2 := by unfold jMore; split <;> omega
      rcases this with w | w
      · omega
      · exact ⟨by omega, .inr (by omega)⟩
  have q2 : ∀ v : Int, srcAt t2 l2 d = .lit v → -(10 ^ 30) ≤ v ∧ v ≤ 10 ^ 30 := fun v e => lit_bound ⟨b0, b1, b2, b3⟩ e
  cases e : srcAt t2 l2 d with
  | lit v => exact q2 v e
  | inp q =>
    obtain ⟨q0, q3⟩ := q1 q e
    show okS (jTake t1 l1 t2) (srcAt t1 l1 q)
    unfold srcAt
    split
    · rename_i w
      have hi : ((l1.length : Int) - 1 - q).toNat < l1.length := by omega
      rw [List.getElem?_eq_getElem hi, Option.getD_some]
      have o := a3 _ (List.getElem_mem hi)
      cases z : l1[((l1.length : Int) - 1 - q).toNat] with
      | inp p => rw [z] at o; have o' : 0 ≤ p ∧ p < t1 := o; exact ⟨o'.1, by omega⟩
      | lit v => rw [z] at o; exact o
    · rename_i w
      exact ⟨by omega, by omega⟩
theorem join_grow' (t1 t2 : Int) (l1 l2 : List Src) : ((joinE t1 l1 t2 l2).2.length : Int) - (joinE t1 l1 t2 l2).1 = (l1.length - t1) + (l2.length - t2) := by
  unfold joinE
  rw [cut_grow]
  unfold jAll
  rw [jLeft_len]
  have hm : 0 ≤ jMore l1 t2 := by unfold jMore; split <;> omega
  unfold jTake jMore at *
  split at * <;> split <;> omega
theorem pwr_join {a b : Nat} (o : okE t l) (ha : ¬ hi t l a) (hb : ¬ hi t l b) : joinE (pwr t l a).1 (pwr t l a).2 (pwr t l b).1 (pwr t l b).2 = pwr t l (a + b) := by
  have oj := jAll_oks (pwr_ok o ha) (pwr_ok o hb)
  refine pwr_uniq (x := (joinE (pwr t l a).1 (pwr t l a).2 (pwr t l b).1 (pwr t l b).2).1) (y := (joinE (pwr t l a).1 (pwr t l a).2 (pwr t l b).1 (pwr t l b).2).2) o (cut_oks _ _ oj.1 oj.2).2 (cut_cut _ _) ?_ fun d d0 => ?_
  · rw [join_grow', pwr_grow, pwr_grow, ← Int.add_mul]
    rfl
  · unfold joinE
    rw [srcAt_cut _ _ _ d0, srcAt_jAll d0, pwr_src d0, pw_join o d0]
end
end Wx

/-! ### part V7b -/
set_option Elab.async false
set_option linter.all false
set_option maxRecDepth 100000
set_option maxHeartbeats 1000000
set_option autoImplicit false
namespace Wx
open PySem L2

section
variable {P : Program} {w : World} {K : PySem.W.Frag} {mg : Str → Option Value} {base : Heap} {f C : Addr} {fd : FuncData}
abbrev sp_far_source (K : PySem.W.Frag) : Sp := SpX (ι := Int × List Src × Nat × Int) K (fun x => [.py (.tuple [.int x.1, srcs x.2.1]), .py (.int (x.2.2.1 : Int)), .py (.int x.2.2.2)]) (fun x _ => okE x.1 x.2.1 ∧ 0 ≤ x.2.2.2 ∧ x.2.2.2 < 2 ^ 300 ∧ x.2.2.1 < 2 ^ 200) fun x n d m => d = .py (pw x.1 x.2.1 x.2.2.1 x.2.2.2).py ∧ m = n
theorem ln_far_source (x : Int × List Src × Nat × Int) : [D.py (.tuple [.int x.1, srcs x.2.1]), .py (.int (x.2.2.1 : Int)), .py (.int x.2.2.2)].length = 3 := rfl
theorem nm_far_source (x : Int × List Src × Nat × Int) : [D.py (.tuple [.int x.1, srcs x.2.1]), .py (.int (x.2.2.1 : Int)), .py (.int x.2.2.2)].all D.nm = true := rfl
theorem sc_far_source : FnScope ["pair", "times", "depth", "seen", "taken", "left", "high", "shift", "passes", "source"] ["pair", "times", "depth"] (defScope (top 58)) := ⟨rfl, rfl, rfl, by decide +kernel, rfl, by decide +kernel, by decide +kernel⟩
theorem ok_far_source (F : FnP K "far_source" "far_source" (top 58) f fd) (g_len : mg "len" = none) (g_min : mg "min" = none) : FnOk P w K mg base CX0 1 f fd ["pair", "times", "depth"] (sp_far_source K) := by
  refine F.ok sc_far_source (sx_len ln_far_source) (fun cdv A outer s H vs Q E hr h => ?_)
  have nd := sc_far_source.nd
  refine ⟨_, PSs.nox (pss_cons (ps_asg (pv 0) (gtupK (K := K) (n := 2) rfl rfl (pgs_cons (pg_name (i := 4) nd rfl (Or.inl rfl)) (pgs_cons (pg_name (i := 5) nd rfl (Or.inl rfl)) (pgs_nil)))))
 (pss_cons (ps_par (i := 6) (j := 7) rfl nd rfl rfl (by decide) rfl rfl (pa_cons (pe_callB (lenK (K := K) rfl) rfl g_len PySem.boot_len (pa_cons (pv 5) (pa_nil))) (pa_cons (pe_op op_sub (pv 4) (pe_callB (lenK (K := K) rfl) rfl g_len PySem.boot_len (pa_cons (pv 5) (pa_nil)))) (pa_nil))) rfl)
 (pss_cons (ps_setO (i := 3) nd rfl (Or.inl rfl) (pe_dnewK))
 (pss_cons (ps_while PassesOwn.never (pt_cmpR op_gt (pv 1) (pe_int) (nomark _)) (pss_one (ps_if (pt_cmpR op_ge (pv 2) (pv 6) (nomark _)) (pss_cons (ps_if (pt_cmpR op_ge (pv 7) (pe_int) (nomark _)) (pss_one (ps_ret (pe_tup (pa_cons (pe_str) (pa_cons (pe_op (addK (K := K) rfl) (pv 2) (pe_op opMUL (pv 1) (pv 7))) (pa_nil)))))) (pss_nil))
 (pss_cons (ps_set (i := 8) nd rfl (Or.inl rfl) (pe_callB (callMIN2 rfl) rfl g_min bt_min (pa_cons (pv 1) (pa_cons (pe_op (addK (K := K) rfl) (pe_op op_fdivW (pe_op op_sub (pv 2) (pv 6)) (pe_op op_sub (pe_int) (pv 7))) (pe_int)) (pa_nil)))))
 (pss_one (ps_par (i := 2) (j := 1) rfl nd rfl rfl (by decide) rfl rfl (pa_cons (pe_op (addK (K := K) rfl) (pv 2) (pe_op opMUL (pv 8) (pv 7))) (pa_cons (pe_op op_sub (pv 1) (pv 8)) (pa_nil))) rfl)))) (pss_one (ps_if (pt_cmp (pc_din (hu_of hr) (pv 2) (pv 3)) (by rfl)) (pss_cons (ps_set (i := 1) nd rfl (Or.inl rfl) (pe_op op_modN (pv 1) (pe_op op_sub (pe_dget (hu_of hr) (pv 3) (pv 2) (fun _ _ => rfl)) (pv 1))))
 (pss_one (ps_setO (i := 3) nd rfl (Or.inl rfl) (pe_dnewK)))) (pss_cons (ps_dput (hu_of hr) (pv 3) (pv 2) (pv 1) rfl)
 (pss_cons (ps_set (i := 9) nd rfl (Or.inl rfl) (pe_ix (ixK (K := K) rfl) (pv 5) (pe_op op_sub (pe_op op_sub (pv 6) (pe_int)) (pv 2)) (fun _ _ => rfl)))
 (pss_cons (ps_if (pt_cmpR (eqK (K := K) rfl (room64 hr)) (pe_ix (ixK (K := K) rfl) (pv 9) (pe_int) (fun _ _ => rfl)) (pe_str) (nomark _)) (pss_one (ps_ret (pv 9))) (pss_nil))
 (pss_one (ps_par (i := 2) (j := 1) rfl nd rfl rfl (by decide) rfl rfl (pa_cons (pe_ix (ixK (K := K) rfl) (pv 9) (pe_int) (fun _ _ => rfl)) (pa_cons (pe_op op_sub (pv 1) (pe_int)) (pa_nil))) rfl))))))))))
 (pss_one (ps_ret (pe_tup (pa_cons (pe_str) (pa_cons (pv 2) (pa_nil)))))))))), ?_⟩
  refine body_x nm_far_source ?_ vs H Q E h
  clear h hr
  intro c n x hK hp
  (subst hK)
  try clear g_len g_min F
  obtain ⟨t, l, N, d0⟩ := x
  dsimp only
  obtain ⟨hE, hd0, hdB, hNB⟩ : okE t l ∧ 0 ≤ d0 ∧ d0 < 2 ^ 300 ∧ N < 2 ^ 200 := hp
  obtain ⟨t0, t1, l1, ls⟩ := hE
  walk_at "WK"
  rw [pys_len]
  refine ws_mid (fun e1 => ∃ (d : Int) (xs : List (Int × Nat)) (s8 s9 : Slo) (T : Nat), T = 0 ∧ pw t l N d0 = .inp d ∧ e1 = ⟨[.val (.py (.tuple [.int t, srcs l])), .val (.py (.int (T : Int))), .val (.py (.int d)), .own (.dct (dN xs)), .val (.py (.int t)), .val (.py (srcs l)), .val (.py (.int l.length)), .val (.py (.int (t - l.length))), s8, s9], n⟩) ?_ ?_
  · refine ws_while (fun m e1 => ∃ (d : Int) (xs : List (Int × Nat)) (s8 s9 : Slo) (T : Nat), m = 2 * T + (if xs = [] then 0 else 1) ∧ 0 ≤ d ∧ d < 2 ^ 300 ∧ T ≤ N ∧ pw t l N d0 = pw t l T d ∧ (xs.map Prod.fst).Nodup ∧
      (∀ q ∈ xs, 0 ≤ q.1 ∧ q.1 < l.length ∧ T < q.2 ∧ wk t l (q.2 - T) q.1 = some d) ∧ e1 = ⟨[.val (.py (.tuple [.int t, srcs l])), .val (.py (.int (T : Int))), .val (.py (.int d)), .own (.dct (dN xs)), .val (.py (.int t)), .val (.py (srcs l)), .val (.py (.int l.length)), .val (.py (.int (t - l.length))), s8, s9], n⟩) ⟨_, d0, [], _, _, N, rfl, hd0, hdB, Nat.le_refl _, rfl, List.nodup_nil, (fun q hq => nomatch hq), rfl⟩ ?_
    rintro m e1 ⟨d, xs, s8, s9, T, rfl, h0, hB, hT, hpw, hnd, hxs, rfl⟩
    walk_at "WK"
    refine ⟨fun c1 => ?_, fun c1 => ?_⟩
    · have c1' := of_decide_eq_true c1
      have hL := xs.map Prod.fst
      have hlen : xs.length ≤ 100 := by
        have := nodup_le (n := 100) hnd fun x hx => by
          obtain ⟨q, hq, rfl⟩ := List.mem_map.mp hx
          have := hxs q hq
          omega
        rwa [List.length_map] at this
      walk_at "WK"
      refine ⟨fun c2 => ?_, fun c2 => ?_⟩
      · have c2' := of_decide_eq_true c2
        walk_at "WK"
        refine ⟨fun c3 => ?_, fun c3 => ?_⟩
        · have c3' := of_decide_eq_true c3
          walk_at "WK"
          refine rw_mI (wide_mul (a := 200) (b := 10) (by omega) (by omega) (by decide) (by decide) (by decide)) ?_
          walk_at "WK"
          rw [hpw, pw_far c2' c3']
          exact ⟨rfl, rfl⟩
        · have c3' := of_decide_eq_false c3
          walk_at "WK"
          refine rw_fdI (wide_div (b := 10) (by omega) (by omega) (by decide) (by decide)) ?_
          walk_at "WK"
          have hp0 := down_pos (t := t) c2' (by omega)
          obtain ⟨k, hk⟩ := Int.eq_ofNat_of_zero_le (a := if (d - (l.length : Int)) / (0 - (t - l.length)) + 1 < T then (d - (l.length : Int)) / (0 - (t - l.length)) + 1 else T) (by split <;> omega)
          have hk1 : (k : Int) ≤ (d - l.length) / (0 - (t - l.length)) + 1 ∧ k ≤ T ∧ 0 < k := by
            split at hk <;> omega
          rw [hk]
          refine rw_mI (wide_mul (a := 200) (b := 10) (by omega) (by omega) (by decide) (by decide) (by decide)) ?_
          walk_at "WK"
          have hd := wk_down c2' (by omega) hk1.1
          have hn := down_nn t0 (by omega) hk1.1
          refine ⟨2 * (T - k) + (if xs = [] then 0 else 1), by split <;> omega, d + k * (t - l.length), xs, .val (.py (.int (k : Int))), s9, T - k, rfl, hn.1, by omega, by omega, ?_, hnd, ?_, ?_⟩
          · rw [hpw, show T = k + (T - k) by omega, pw_add hd]
            congr 1
            omega
          · intro q hq
            obtain ⟨q1, q2, q3, q4⟩ := hxs q hq
            refine ⟨q1, q2, by omega, ?_⟩
            rw [show q.2 - (T - k) = (q.2 - T) + k by omega, wk_add q4]
            exact hd
          · rw [show ((T - k : Nat) : Int) = (T : Int) - k by omega]
            rfl
      · have c2' := of_decide_eq_false c2
        walk_at "WK"
        refine ⟨fun c3 => ?_, fun c3 => ?_⟩
        · cases hv : valP (dN xs) (.inl d) with
          | none => rw [hv] at c3; cases c3
          | some y =>
            obtain ⟨Tx, hm, rfl⟩ := dN_some hv
            obtain ⟨q1, q2, q3, q4⟩ := hxs _ hm
            dsimp only at q1 q2 q3 q4
            walk_at "WK"
            refine ⟨_, hv, ?_⟩
            walk_at "WK"
            have em : (T : Int).fmod ((Tx : Int) - T) = ((T % (Tx - T) : Nat) : Int) := by
              rw [show (Tx : Int) - T = ((Tx - T : Nat) : Int) by omega, Int.ofNat_fmod]
            have hmod := Nat.mod_le T (Tx - T)
            have hne : xs ≠ [] := fun z => by rw [z] at hm; cases hm
            refine ⟨2 * (T % (Tx - T)) + 0, by rw [if_neg hne]; omega, d, [], s8, s9, T % (Tx - T), by simp, h0, hB, by omega, ?_, List.nodup_nil, (fun q hq => nomatch hq), by rw [← em]; rfl⟩
            rw [hpw]
            exact pw_ring q4 T
        · cases hv : valP (dN xs) (.inl d) with
          | some y => rw [hv] at c3; cases c3
          | none =>
            have hnot := dN_none hv
            walk_at "WK"
            refine ⟨_, rfl, ?_⟩
            walk_at "WK"
            refine ⟨Nat.lt_of_le_of_lt (show (dN xs).length ≤ 1000 by unfold dN; rw [List.length_map]; omega) (by decide), ?_⟩
            rw [dN_put hv]
            have hi : ((l.length : Int) - 1 - d).toNat < l.length := by omega
            have ei : (l.length : Int) - 1 - d = ((((l.length : Int) - 1 - d).toNat : Nat) : Int) := by omega
            have es : srcAt t l d = l[((l.length : Int) - 1 - d).toNat] := by
              unfold srcAt
              rw [if_pos (by omega), List.getElem?_eq_getElem hi, Option.getD_some]
            have hls := ls _ (List.getElem_mem hi)
            walk_at "WK"
            refine ⟨(srcAt t l d).py, by rw [ei]; exact pys_at (by rw [es]; exact List.getElem?_eq_getElem hi), ?_⟩
            rw [← es] at hls
            obtain ⟨T', rfl⟩ : ∃ T', T = T' + 1 := ⟨T - 1, by omega⟩
            cases z : srcAt t l d with
            | lit v =>
              rw [show (Src.lit v).py = .tuple [.str "lit", .int v] from rfl]
              walk_at "WK"
              refine ⟨_, rfl, ?_⟩
              walk_at "WK"
              refine ⟨fun _ => ?_, fun z => (nomatch z)⟩
              walk_at "WK"
              rw [hpw, pw_lit z]
              exact ⟨rfl, rfl⟩
            | inp p =>
              rw [z] at hls
              have hls' : 0 ≤ p ∧ p < t := hls
              rw [show (Src.inp p).py = .tuple [.str "in", .int p] from rfl]
              walk_at "WK"
              refine ⟨_, rfl, ?_⟩
              walk_at "WK"
              refine ⟨fun z => (nomatch z), fun _ => ?_⟩
              walk_at "WK"
              refine ⟨_, rfl, ?_⟩
              walk_at "WK"
              refine ⟨2 * T' + (if xs ++ [(d, T' + 1)] = [] then 0 else 1), ?_, p, xs ++ [(d, T' + 1)], s8, .val (.py (.tuple [.str "in", .int p])), T', rfl, hls'.1, by omega, by omega, ?_, ?_, ?_, ?_⟩
              · rw [if_neg (by simp)]
                split <;> omega
              · rw [hpw, pw_inp z]
              · rw [List.map_append]
                exact List.nodup_append.mpr ⟨hnd, by simp, fun a ha b hb => by
                  have : b = d := by simpa using hb
                  rw [this]
                  exact fun e => hnot (by rw [← e]; exact ha)⟩
              · intro q hq
                rcases List.mem_append.mp hq with hq | hq
                · obtain ⟨q1, q2, q3, q4⟩ := hxs q hq
                  refine ⟨q1, q2, by omega, ?_⟩
                  rw [show q.2 - T' = (q.2 - (T' + 1)) + 1 by omega]
                  exact wk_next q4 z
                · rw [List.mem_singleton.mp hq]
                  refine ⟨h0, by omega, by (try dsimp only); omega, ?_⟩
                  rw [show (d, T' + 1).2 - T' = 1 by (try dsimp only); omega]
                  exact wk_one z
              · rw [show ((T' + 1 : Nat) : Int) - 1 = (T' : Int) by omega]
                rfl
    · have c1' := of_decide_eq_false c1
      have hT0 : T = 0 := by omega
      subst hT0
      exact ⟨d, xs, s8, s9, 0, rfl, hpw, rfl⟩
  · rintro e1 ⟨d, xs, s8, s9, T, rfl, hd, rfl⟩
    walk_at "WK"
    rw [hd]
    exact ⟨rfl, rfl⟩
/-! ## cell_after -/
abbrev sp_require_times (K : PySem.W.Frag) : Sp := SpX (ι := Nat) K (fun x => [.py (.int (x : Int))]) (fun x _ => x ≤ 10 ^ 30) fun _ n d m => d = .py .none ∧ m = n
theorem ln_require_times (x : Nat) : [D.py (.int (x : Int))].length = 1 := rfl
theorem nm_require_times (x : Nat) : [D.py (.int (x : Int))].all D.nm = true := rfl
theorem sc_require_times : FnScope ["value"] ["value"] (defScope (top 43)) := ⟨rfl, rfl, rfl, by decide +kernel, rfl, by decide +kernel, by decide +kernel⟩
theorem ok_require_times (F : FnP K "require_times" "require_times" (top 43) f fd) (S_in_range : Std P w K mg base 2 "in_range" ["value", "low", "high"] (sp_in_range K)) (i_MOST_TIMES : GInt mg "MOST_TIMES" (10 ^ 30)) : FnOk P w K mg base CX0 3 f fd ["value"] (sp_require_times K) := by
  refine F.ok sc_require_times (sx_len ln_require_times) (fun cdv A outer s H vs Q E hr h => ?_)
  have nd := sc_require_times.nd
  refine ⟨_, PSs.nox (pss_one (ps_if (pt_not (truK (K := K) rfl (pe_std S_in_range hr rfl (pa_cons (pv 0) (pa_cons (pe_int) (pa_cons (pe_gint i_MOST_TIMES rfl) (pa_nil))))) (by intro _; rfl))) (pss_one (ps_never)) (pss_nil))), ?_⟩
  refine body_x nm_require_times ?_ vs H Q E h
  clear h hr
  intro c n x hK hp
  (subst hK)
  try clear S_in_range i_MOST_TIMES F
  have hp' : x ≤ 10 ^ 30 := hp
  walk_at "WK"
  refine ⟨((x : Int), 0, 10 ^ 30), rfl, trivial, ?_⟩
  rintro d m ⟨rfl, rfl⟩
  refine ⟨rfl, ?_⟩
  rw [decide_eq_true (show (0 : Int) ≤ (x : Int) ∧ (x : Int) ≤ 10 ^ 30 by omega)]
  walk_at "WK"
  refine ⟨fun z => (nomatch z), fun _ => ?_⟩
  walk_at "WK"
  exact rfl
end
end Wx

/-! ### part V7c -/
set_option Elab.async false
set_option linter.all false
set_option maxRecDepth 100000
set_option maxHeartbeats 1000000
set_option autoImplicit false
namespace Wx
open PySem L2

section
variable {P : Program} {w : World} {K : PySem.W.Frag} {mg : Str → Option Value} {base : Heap} {f C CT fI : Addr} {fd : FuncData}
theorem up_as (t : Int) (l : List Src) : (if t - (l.length : Int) > 0 then t - (l.length : Int) else 0) = upS t l := rfl
theorem dn_as (t : Int) (l : List Src) : (if (l.length : Int) - t > 0 then (l.length : Int) - t else 0) = dnS t l := rfl
theorem up_bd {t : Int} {l : List Src} (o : okE t l) : 0 ≤ upS t l ∧ upS t l ≤ 100 := by
  obtain ⟨t0, t1, l1, ls⟩ := o
  unfold upS
  split <;> omega
theorem dn_bd {t : Int} {l : List Src} (o : okE t l) : 0 ≤ dnS t l ∧ dnS t l ≤ 100 := by
  obtain ⟨t0, t1, l1, ls⟩ := o
  unfold dnS
  split <;> omega
abbrev sp_power_sizes (K : PySem.W.Frag) : Sp := SpX (ι := Int × List Src × Nat) K (fun x => [.py (.tuple [.int x.1, srcs x.2.1]), .py (.int (x.2.2 : Int))]) (fun x _ => okE x.1 x.2.1 ∧ 1 ≤ x.2.2 ∧ x.2.2 ≤ 10 ^ 30) fun x n d m => d = .py (.tuple [.int (wT x.1 x.2.1 x.2.2), .int (wM x.1 x.2.1 x.2.2)]) ∧ m = n
theorem ln_power_sizes (x : Int × List Src × Nat) : [D.py (.tuple [.int x.1, srcs x.2.1]), .py (.int (x.2.2 : Int))].length = 2 := rfl
theorem nm_power_sizes (x : Int × List Src × Nat) : [D.py (.tuple [.int x.1, srcs x.2.1]), .py (.int (x.2.2 : Int))].all D.nm = true := rfl
theorem sc_power_sizes : FnScope ["pair", "times", "more", "taken", "left"] ["pair", "times"] (defScope (top 59)) := ⟨rfl, rfl, rfl, by decide +kernel, rfl, by decide +kernel, by decide +kernel⟩
theorem ok_power_sizes (F : FnP K "power_sizes" "power_sizes" (top 59) f fd) (g_len : mg "len" = none) (g_max : mg "max" = none) : FnOk P w K mg base CX0 1 f fd ["pair", "times"] (sp_power_sizes K) := by
  refine F.ok sc_power_sizes (sx_len ln_power_sizes) (fun cdv A outer s H vs Q E hr h => ?_)
  have nd := sc_power_sizes.nd
  refine ⟨_, PSs.nox (pss_cons (ps_asg (pv 0) (gtupK (K := K) (n := 2) rfl rfl (pgs_cons (pg_name (i := 3) nd rfl (Or.inl rfl)) (pgs_cons (pg_name (i := 4) nd rfl (Or.inl rfl)) (pgs_nil)))))
 (pss_cons (ps_set (i := 2) nd rfl (Or.inl rfl) (pe_op op_sub (pv 1) (pe_int)))
 (pss_one (ps_ret (pe_tup (pa_cons (pe_op (addK (K := K) rfl) (pv 3) (pe_op opMUL (pv 2) (pe_callB (callMAX2 rfl) rfl g_max bt_max (pa_cons (pe_int) (pa_cons (pe_op op_sub (pv 3) (pe_callB (lenK (K := K) rfl) rfl g_len PySem.boot_len (pa_cons (pv 4) (pa_nil)))) (pa_nil)))))) (pa_cons (pe_op (addK (K := K) rfl) (pe_callB (lenK (K := K) rfl) rfl g_len PySem.boot_len (pa_cons (pv 4) (pa_nil))) (pe_op opMUL (pv 2) (pe_callB (callMAX2 rfl) rfl g_max bt_max (pa_cons (pe_int) (pa_cons (pe_op op_sub (pe_callB (lenK (K := K) rfl) rfl g_len PySem.boot_len (pa_cons (pv 4) (pa_nil))) (pv 3)) (pa_nil)))))) (pa_nil)))))))), ?_⟩
  refine body_x nm_power_sizes ?_ vs H Q E h
  clear h hr
  intro c n x hK hp
  (subst hK)
  try clear g_len g_max F
  obtain ⟨t, l, N⟩ := x
  dsimp only
  obtain ⟨hE, h1, hN⟩ : okE t l ∧ 1 ≤ N ∧ N ≤ 10 ^ 30 := hp
  have hu := up_bd hE
  have hd := dn_bd hE
  walk_at "WK"
  rw [pys_len, up_as]
  refine rw_mI (wide_mul (a := 200) (b := 10) (by omega) (by omega) (by decide) (by decide) (by decide)) ?_
  walk_at "WK"
  rw [pys_len, dn_as]
  refine rw_mI (wide_mul (a := 200) (b := 10) (by omega) (by omega) (by decide) (by decide) (by decide)) ?_
  walk_at "WK"
  exact rfl
abbrev sp_power_pair (K : PySem.W.Frag) : Sp := SpX (ι := Int × List Src × Nat) K (fun x => [.py (.tuple [.int x.1, srcs x.2.1]), .py (.int (x.2.2 : Int))]) (fun x _ => okE x.1 x.2.1 ∧ x.2.2 ≤ 10 ^ 30 ∧ wM x.1 x.2.1 x.2.2 ≤ 300) fun x n d m => d = .py (.tuple [.int (pwr x.1 x.2.1 x.2.2).1, srcs (pwr x.1 x.2.1 x.2.2).2]) ∧ m = n
theorem ln_power_pair (x : Int × List Src × Nat) : [D.py (.tuple [.int x.1, srcs x.2.1]), .py (.int (x.2.2 : Int))].length = 2 := rfl
theorem nm_power_pair (x : Int × List Src × Nat) : [D.py (.tuple [.int x.1, srcs x.2.1]), .py (.int (x.2.2 : Int))].all D.nm = true := rfl
theorem sc_power_pair : FnScope ["pair", "times", "left", "taken", "many", "depth"] ["pair", "times"] (defScope (top 60)) := ⟨rfl, rfl, rfl, by decide +kernel, rfl, by decide +kernel, by decide +kernel⟩
theorem ok_power_pair (F : FnP K "power_pair" "power_pair" (top 60) f fd) (t_NOTHING : GTup K mg "NOTHING" (.tuple [.int 0, .tuple []])) (S_power_sizes : Std P w K mg base 1 "power_sizes" ["pair", "times"] (sp_power_sizes K)) (S_far_source : Std P w K mg base 1 "far_source" ["pair", "times", "depth"] (sp_far_source K)) (g_range : mg "range" = none) (S_cut_pair : Std P w K mg base 1 "cut_pair" ["taken", "left"] (sp_cut_pair K)) (g_tuple : mg "tuple" = none) : FnOk P w K mg base CX0 2 f fd ["pair", "times"] (sp_power_pair K) := by
  refine F.ok sc_power_pair (sx_len ln_power_pair) (fun cdv A outer s H vs Q E hr h => ?_)
  have nd := sc_power_pair.nd
  refine ⟨_, PSs.nox (pss_cons (ps_if (pt_cmpR (eqK (K := K) rfl (room64 hr)) (pv 1) (pe_int) (nomark _)) (pss_one (ps_ret (pe_gtup (K := K) rfl t_NOTHING rfl))) (pss_nil))
 (pss_cons (ps_asg (pe_std S_power_sizes hr rfl (pa_cons (pv 0) (pa_cons (pv 1) (pa_nil)))) (gtupK (K := K) (n := 2) rfl rfl (pgs_cons (pg_name (i := 3) nd rfl (Or.inl rfl)) (pgs_cons (pg_name (i := 4) nd rfl (Or.inl rfl)) (pgs_nil)))))
 (pss_cons (ps_setLc (i := 2) (own := [("depth", 5)]) rfl nd rfl rfl (sw_true rfl rfl rfl (by decide +kernel)) (pi_range3 rfl g_range (pa_cons (pe_op op_sub (pv 4) (pe_int)) (pa_cons (pe_un un_neg (pe_int)) (pa_cons (pe_un un_neg (pe_int)) (pa_nil))))) (blkOk_by (N := ["pair", "times", "left", "taken", "many", "depth"]) (sc := (defScope (top 60))) (by decide +kernel)) (fun _ _ _ _ _ => pg_name (i := 5) nd rfl (Or.inl rfl) (.inr rfl)) (fun _ _ _ _ _ => pts_nil) (fun _ _ _ _ _ => pe_std S_far_source hr rfl (pa_cons (pv 0) (pa_cons (pv 1) (pa_cons (pv 5) (pa_nil))))))
 (pss_one (ps_ret (pe_std S_cut_pair hr rfl (pa_cons (pv 3) (pa_cons (pe_callTy (tupK (K := K) rfl) rfl g_tuple bt_tuple (pa_cons (pv 2) (pa_nil))) (pa_nil))))))))), ?_⟩
  refine body_x nm_power_pair ?_ vs H Q E h
  clear h hr
  intro c n x hK hp
  (subst hK)
  try clear t_NOTHING S_power_sizes S_far_source g_range S_cut_pair g_tuple F
  obtain ⟨t, l, N⟩ := x
  dsimp only
  obtain ⟨hE, hN, hM⟩ : okE t l ∧ N ≤ 10 ^ 30 ∧ wM t l N ≤ 300 := hp
  walk_at "WK"
  refine ⟨fun c1 => ?_, fun c1 => ?_⟩
  · have c1' := of_decide_eq_true c1
    have e : N = 0 := by omega
    subst e
    walk_at "WK"
    exact rfl
  · have c1' := of_decide_eq_false c1
    have h1 : 1 ≤ N := by omega
    have m0 := wM_nn (t := t) (l := l) h1
    walk_at "WK"
    refine ⟨(t, l, N), rfl, ⟨hE, h1, hN⟩, ?_⟩
    rintro d m ⟨rfl, rfl⟩
    refine ⟨rfl, ?_⟩
    dsimp only
    walk_at "WK"
    refine wp_new (wn_lc (fun v hv => ?_) (wi_rng3 ?_))
    · have : v = 5 := by simpa using hv
      subst this
      exact Nat.le_of_ble_eq_true rfl
    · walk_at "WK"
      refine ⟨(wM t l N - 1 - -1).toNat, RgC.neg (by omega) (by omega) (by decide) (by decide), fun i acc m' => m' = m ∧ acc = pys (pLs t l N i), ⟨rfl, rfl⟩, by rw [seqI_len]; omega, ?_, ?_⟩
      · rintro i acc m d hd ⟨rfl, rfl⟩
        obtain ⟨hi, rfl⟩ := seqI_of hd
        refine wg_name ⟨rfl, ?_⟩ (Nat.le_of_ble_eq_true rfl) (by decide)
        refine wt_yes ⟨fun _ => ?_, fun z => nomatch z⟩
        walk_at "WK"
        have d0 : 0 ≤ wM t l N - 1 + (i : Int) * -1 := by omega
        refine ⟨(t, l, N, _), rfl, ⟨hE, d0, by (try dsimp only); omega, by (try dsimp only); omega⟩, ?_⟩
        rintro d m ⟨rfl, rfl⟩
        refine ⟨rfl, ?_⟩
        dsimp only
        walk_at "WK"
        rw [pLs_succ, ← pys_app]
        rfl
      · rintro acc m ⟨rfl, rfl⟩
        rw [seqI_len]
        walk_at "WK"
        rw [show wM t l N - 1 - -1 = wM t l N by omega]
        refine ⟨(wT t l N, pAll t l N), rfl, trivial, ?_⟩
        rintro d m ⟨rfl, rfl⟩
        refine ⟨rfl, ?_⟩
        unfold pwr
        rw [if_neg (by omega)]
        exact ⟨rfl, rfl⟩
end
end Wx

/-! ### part V7d -/
set_option Elab.async false
set_option linter.all false
set_option maxRecDepth 100000
set_option maxHeartbeats 1000000
set_option autoImplicit false
namespace Wx
open PySem L2

section
variable {P : Program} {w : World} {K : PySem.W.Frag} {mg : Str → Option Value} {base : Heap} {f C CT fI : Addr} {fd : FuncData}
abbrev sp_Effect___mul__ (K : PySem.W.Frag) (C : Addr) : Sp := SpX (ι := Int × List Src × Nat) K (fun x => [effD C x.1 x.2.1, .py (.int (x.2.2 : Int))]) (fun x _ => okE x.1 x.2.1 ∧ x.2.2 ≤ 10 ^ 30 ∧ ¬ hi x.1 x.2.1 x.2.2) fun x n d m => d = effD C (pwr x.1 x.2.1 x.2.2).1 (pwr x.1 x.2.1 x.2.2).2 ∧ m = n
theorem ln_Effect___mul__ (x : Int × List Src × Nat) : [effD C x.1 x.2.1, .py (.int (x.2.2 : Int))].length = 2 := rfl
theorem nm_Effect___mul__ (x : Int × List Src × Nat) : [effD C x.1 x.2.1, .py (.int (x.2.2 : Int))].all D.nm = true := rfl
theorem sc_Effect___mul__ : FnScope ["self", "times", "pair"] ["self", "times"] (defScope (meth 65 9)) := ⟨rfl, rfl, rfl, by decide +kernel, rfl, by decide +kernel, by decide +kernel⟩
theorem ok_Effect___mul__ (F : FnP K "__mul__" "Effect.__mul__" (meth 65 9) f fd) (S_require_times : Std P w K mg base 3 "require_times" ["value"] (sp_require_times K)) (i_MOST_HIGH : GInt mg "MOST_HIGH" 100) (g_max : mg "max" = none) (S_power_sizes : Std P w K mg base 1 "power_sizes" ["pair", "times"] (sp_power_sizes K)) (S_effect_from : Std P w K mg base 7 "effect_from" ["pair"] (sp_effect_from K C)) (S_power_pair : Std P w K mg base 2 "power_pair" ["pair", "times"] (sp_power_pair K)) (kc : KitC K C) (a1 : NoAttr K C "kept_taken") (a2 : NoAttr K C "kept_left") (gE : mg "Effect" = some (.ref C)) : FnOk P w K mg base CX0 8 f fd ["self", "times"] (sp_Effect___mul__ K C) := by
  refine F.ok sc_Effect___mul__ (sx_len ln_Effect___mul__) (fun cdv A outer s H vs Q E hr h => ?_)
  have nd := sc_Effect___mul__.nd
  refine ⟨_, PSs.nox (pss_cons (ps_expr (pe_std S_require_times (hr.mono (by decide)) rfl (pa_cons (pv 1) (pa_nil))))
 (pss_cons (ps_set (i := 2) nd rfl (Or.inl rfl) (pe_tup (pa_cons (pe_fld (pv 0) rfl) (pa_cons (pe_fld (pv 0) rfl) (pa_nil)))))
 (pss_cons (ps_if (PW.pt (pw_and (pt_cmpR op_gt (pv 1) (pe_int) (nomark _)) (pw_and1 (pt_cmpR op_gt (pe_callB (maxTK (K := K) rfl rfl (room65 hr)) rfl g_max bt_max (pa_cons (pe_std S_power_sizes (hr.mono (by decide)) rfl (pa_cons (pv 2) (pa_cons (pv 1) (pa_nil)))) (pa_nil))) (pe_op opMUL (pe_int) (pe_gint i_MOST_HIGH rfl)) (nomark _))))) (pss_one (ps_never)) (pss_nil))
 (pss_one (ps_ret (pe_std S_effect_from hr rfl (pa_cons (pe_std S_power_pair (hr.mono (by decide)) rfl (pa_cons (pv 2) (pa_cons (pv 1) (pa_nil)))) (pa_nil)))))))), ?_⟩
  refine body_x nm_Effect___mul__ ?_ vs H Q E h
  clear h hr
  intro c n x hK hp
  (subst hK)
  try clear S_require_times i_MOST_HIGH g_max S_power_sizes S_effect_from S_power_pair gE F
  obtain ⟨t, l, N⟩ := x
  dsimp only
  obtain ⟨hE, hN, hH⟩ : okE t l ∧ N ≤ 10 ^ 30 ∧ ¬ hi t l N := hp
  walk_at "WK"
  refine ⟨N, rfl, hN, ?_⟩
  rintro d m ⟨rfl, rfl⟩
  refine ⟨rfl, ?_⟩
  walk_at "WK"
  refine ⟨C, _, _, rfl, kc.cl, a1, rfl, ?_⟩
  walk_at "WK"
  refine ⟨C, _, _, rfl, kc.cl, a2, rfl, ?_⟩
  walk_at "WK"
  refine ⟨fun c1 => ?_, fun c1 => ?_⟩
  · have c1' := of_decide_eq_true c1
    have h1 : 1 ≤ N := by omega
    walk_at "WK"
    refine ⟨(t, l, N), rfl, ⟨hE, h1, hN⟩, ?_⟩
    rintro d m ⟨rfl, rfl⟩
    refine ⟨rfl, ?_⟩
    dsimp only
    walk_at "WK"
    refine cw_maxT rfl ?_
    walk_at "WK"
    have nf : ¬ ((200 : Int) < wT t l N ∨ 200 < wM t l N) := fun z => hH (hi_far hE h1 z)
    rw [decide_eq_false (show ¬ (2 * 100 : Int) < (if wM t l N > wT t l N then wM t l N else wT t l N) by split <;> omega)]
    refine ⟨fun z => (nomatch z), fun _ => ?_⟩
    walk_at "WK"
    refine ⟨(t, l, N), rfl, ⟨hE, hN, by dsimp only; omega⟩, ?_⟩
    rintro d m ⟨rfl, rfl⟩
    refine ⟨rfl, ?_⟩
    dsimp only
    walk_at "WK"
    refine ⟨pwr t l N, rfl, pwr_ok hE hH, ?_⟩
    rintro d m ⟨rfl, rfl⟩
    refine ⟨rfl, ?_⟩
    rw [pwr_cut]
    exact ⟨rfl, rfl⟩
  · have c1' := of_decide_eq_false c1
    have e : N = 0 := by omega
    subst e
    walk_at "WK"
    refine ⟨fun z => (nomatch z), fun _ => ?_⟩
    walk_at "WK"
    have m0 : wM t l 0 ≤ 300 := by
      have := dn_bd hE
      obtain ⟨t0, t1, l1, ls⟩ := hE
      unfold wM
      omega
    refine ⟨(t, l, 0), rfl, ⟨hE, hN, m0⟩, ?_⟩
    rintro d m ⟨rfl, rfl⟩
    refine ⟨rfl, ?_⟩
    dsimp only
    walk_at "WK"
    refine ⟨pwr t l 0, rfl, pwr_ok hE hH, ?_⟩
    rintro d m ⟨rfl, rfl⟩
    refine ⟨rfl, ?_⟩
    rw [pwr_cut]
    exact ⟨rfl, rfl⟩
end
end Wx

/-! ### part V8x -/
set_option Elab.async false
set_option linter.all false
set_option maxRecDepth 100000
set_option maxHeartbeats 1000000
set_option autoImplicit false
namespace Wx
open PySem L2

def valS (xs : List Int) : Src → Int
  | .inp p => (xs[((xs.length : Int) - 1 - p).toNat]?).getD 0
  | .lit v => v
def putS (t : Int) (l : List Src) (xs : List Int) : List Int := xs.take ((xs.length : Int) - t).toNat ++ l.map (valS xs)
theorem val_at {t : Int} {xs : List Int} {p : Int} (h0 : 0 ≤ p) (h1 : p < t) (h2 : t ≤ xs.length) : atI (nums xs) ((xs.length : Int) - 1 - p) = some (.int (valS xs (.inp p))) := by
  have h3 : ((xs.length : Int) - 1 - p).toNat < xs.length := by omega
  have e : ((xs.length : Int) - 1 - p) = ((((xs.length : Int) - 1 - p).toNat : Nat) : Int) := by omega
  rw [e]
  refine atI_nat ?_
  have z : valS xs (.inp p) = xs[((xs.length : Int) - 1 - p).toNat] := by
    show (xs[((xs.length : Int) - 1 - p).toNat]?).getD 0 = _
    rw [List.getElem?_eq_getElem h3, Option.getD_some]
  rw [z]
  unfold nums
  rw [List.getElem?_map, List.getElem?_eq_getElem h3]
  rfl
theorem put_eq {t : Int} {l : List Src} {xs : List Int} (h0 : 0 ≤ t) (h : t ≤ xs.length) : cutD (nums xs) none (some ((xs.length : Int) - t)) ++ nums (l.map (valS xs)) = nums (putS t l xs) := by
  have e : (xs.length : Int) - t = ((((xs.length : Int) - t).toNat : Nat) : Int) := by omega
  rw [e, cut_to _ _ (by unfold nums; rw [List.length_map]; omega)]
  unfold nums putS
  rw [List.map_append, List.map_take]
theorem put_len {t : Int} {l : List Src} {xs : List Int} (h : l.length ≤ 100) (h2 : xs.length ≤ 1000) : (nums (putS t l xs)).length ≤ sizeLine := by
  have hlen : (nums (putS t l xs)).length ≤ 2000 := by
    unfold nums putS
    rw [List.length_map, List.length_append, List.length_take, List.length_map]
    omega
  exact Nat.le_trans hlen (by decide)
section
variable {P : Program} {w : World} {K : PySem.W.Frag} {mg : Str → Option Value} {base : Heap} {f C : Addr} {fd : FuncData}
abbrev sp_after_pair (K : PySem.W.Frag) : Sp := SpX (ι := Int × List Src × List Int) K (fun x => [.py (.tuple [.int x.1, srcs x.2.1]), .py (.tuple (nums x.2.2))]) (fun x _ => okE x.1 x.2.1 ∧ x.1 ≤ x.2.2.length ∧ x.2.2.length ≤ 1000) fun x n d m => d = .py (.tuple (nums (putS x.1 x.2.1 x.2.2))) ∧ m = n
theorem ln_after_pair (x : Int × List Src × List Int) : [D.py (.tuple [.int x.1, srcs x.2.1]), .py (.tuple (nums x.2.2))].length = 2 := rfl
theorem nm_after_pair (x : Int × List Src × List Int) : [D.py (.tuple [.int x.1, srcs x.2.1]), .py (.tuple (nums x.2.2))].all D.nm = true := rfl
theorem sc_after_pair : FnScope ["pair", "cells", "whole", "found", "taken", "left", "source"] ["pair", "cells"] (defScope (top 64)) := ⟨rfl, rfl, rfl, by decide +kernel, rfl, by decide +kernel, by decide +kernel⟩
theorem ok_after_pair (F : FnP K "after_pair" "after_pair" (top 64) f fd) (g_len : mg "len" = none) : FnOk P w K mg base CX0 1 f fd ["pair", "cells"] (sp_after_pair K) := by
  refine F.ok sc_after_pair (sx_len ln_after_pair) (fun cdv A outer s H vs Q E hr h => ?_)
  have nd := sc_after_pair.nd
  refine ⟨_, PSs.nox (pss_cons (ps_asg (pv 0) (gtupK (K := K) (n := 2) rfl rfl (pgs_cons (pg_name (i := 4) nd rfl (Or.inl rfl)) (pgs_cons (pg_name (i := 5) nd rfl (Or.inl rfl)) (pgs_nil)))))
 (pss_cons (ps_set (i := 2) nd rfl (Or.inr rfl) (pe_callB (lenK (K := K) rfl) rfl g_len PySem.boot_len (pa_cons (pv 1) (pa_nil))))
 (pss_cons (ps_setLc (i := 3) (own := [("source", 6)]) rfl nd rfl rfl (sw_true rfl rfl rfl (by decide +kernel)) (itupK (K := K) rfl (pv 5)) (blkOk_by (N := ["pair", "cells", "whole", "found", "taken", "left", "source"]) (sc := (defScope (top 64))) (by decide +kernel)) (fun _ _ _ _ _ => pg_name (i := 6) nd rfl (Or.inl rfl) (.inr rfl)) (fun _ _ _ _ _ => pts_nil) (fun _ _ _ _ _ => pe_ifExp (pt_cmpR (eqK (K := K) rfl (room64 hr)) (pe_ix (ixK (K := K) rfl) (pv 6) (pe_int) (fun _ _ => rfl)) (pe_str) (nomark _)) (pe_ix (ixK (K := K) rfl) (pv 1) (pe_op op_sub (pe_op op_sub (pv 2) (pe_int)) (pe_ix (ixK (K := K) rfl) (pv 6) (pe_int) (fun _ _ => rfl))) (fun _ _ => rfl)) (pe_ix (ixK (K := K) rfl) (pv 6) (pe_int) (fun _ _ => rfl))))
 (pss_one (ps_ret (pe_tup (starK (K := K) rfl (pe_slice (slK (K := K) rfl) (pv 1) po_none (po_some (pe_op op_sub (pv 2) (pv 4)))) (starK (K := K) rfl (pv 3) (pa_nil))))))))), ?_⟩
  refine body_x nm_after_pair ?_ vs H Q E h
  clear h hr
  intro c n x hK hp
  (subst hK)
  try clear g_len F
  obtain ⟨t, l, xs⟩ := x
  dsimp only
  obtain ⟨⟨t0, t1, l1, ls⟩, hx, hx2⟩ : okE t l ∧ t ≤ xs.length ∧ xs.length ≤ 1000 := hp
  walk_at "WK"
  have nl : (nums xs).length = xs.length := List.length_map _
  rw [nl]
  refine wp_new (wn_lc (fun v hv => ?_) (wi_tup rfl ?_))
  · have : v = 6 := by simpa using hv
    subst this
    exact Nat.le_of_ble_eq_true rfl
  · walk_at "WK"
    refine ⟨fun i acc m => m = n ∧ acc = nums ((l.take i).map (valS xs)), ⟨rfl, rfl⟩, by rw [List.length_map, pys_len]; omega, ?_, ?_⟩
    · rintro i acc m d hd ⟨rfl, rfl⟩
      obtain ⟨s, hi, hs, rfl⟩ := pys_item hd
      have hs' := ls s hs
      have fin : nums ((l.take i).map (valS xs)) ++ [.int (valS xs s)] = nums ((l.take (i + 1)).map (valS xs)) := by
        unfold nums
        rw [List.take_succ, hi, List.map_append, List.map_append]
        rfl
      cases s with
      | inp p =>
        have hs2 : 0 ≤ p ∧ p < t := hs'
        rw [show (Src.inp p).py = .tuple [.str "in", .int p] from rfl]
        refine wg_name ⟨rfl, ?_⟩ (Nat.le_of_ble_eq_true rfl) (by decide)
        refine wt_yes ⟨fun _ => ?_, fun z => nomatch z⟩
        walk_at "WK"
        refine ⟨_, rfl, ?_⟩
        walk_at "WK"
        refine ⟨fun _ => ?_, fun z => nomatch z⟩
        walk_at "WK"
        refine ⟨_, rfl, ?_⟩
        walk_at "WK"
        refine ⟨_, val_at hs2.1 hs2.2 hx, ?_⟩
        walk_at "WK"
        exact fin
      | lit v =>
        rw [show (Src.lit v).py = .tuple [.str "lit", .int v] from rfl]
        refine wg_name ⟨rfl, ?_⟩ (Nat.le_of_ble_eq_true rfl) (by decide)
        refine wt_yes ⟨fun _ => ?_, fun z => nomatch z⟩
        walk_at "WK"
        refine ⟨_, rfl, ?_⟩
        walk_at "WK"
        refine ⟨fun z => (nomatch z), fun _ => ?_⟩
        walk_at "WK"
        refine ⟨_, rfl, ?_⟩
        walk_at "WK"
        exact fin
    · rintro acc m ⟨rfl, rfl⟩
      rw [List.length_map, pys_len, List.take_length]
      walk_at "WK"
      rw [List.append_nil, put_eq t0 hx]
      exact ⟨put_len (by omega) hx2, rfl, rfl⟩
/-! ## stacks -/
def okX (x : Int) : Prop := -(10 ^ 30) ≤ x ∧ x ≤ 10 ^ 30
abbrev sp_is_stack (K : PySem.W.Frag) : Sp := SpX (ι := List Int) K (fun x => [.py (.tuple (nums x))]) (fun x _ => x.length ≤ 100 ∧ ∀ v ∈ x, okX v) fun _ n d m => d = .py (.bool true) ∧ m = n
theorem ln_is_stack (x : List Int) : [D.py (.tuple (nums x))].length = 1 := rfl
theorem nm_is_stack (x : List Int) : [D.py (.tuple (nums x))].all D.nm = true := rfl
theorem sc_is_stack : FnScope ["value", "cell"] ["value"] (defScope (top 50)) := ⟨rfl, rfl, rfl, by decide +kernel, rfl, by decide +kernel, by decide +kernel⟩
theorem ok_is_stack (F : FnP K "is_stack" "is_stack" (top 50) f fd) (g_isinstance : mg "isinstance" = none) (g_tuple : mg "tuple" = none) (i_MOST_HIGH : GInt mg "MOST_HIGH" 100) (g_all : mg "all" = none) (g_len : mg "len" = none) (S_is_constant : Std P w K mg base 3 "is_constant" ["value"] (sp_is_constant K)) : FnOk P w K mg base CX0 4 f fd ["value"] (sp_is_stack K) := by
  refine F.ok sc_is_stack (sx_len ln_is_stack) (fun cdv A outer s H vs Q E hr h => ?_)
  have nd := sc_is_stack.nd
  refine ⟨_, PSs.nox (pss_one (ps_ret (pe_and (pe_callB (isiK (K := K) rfl) rfl g_isinstance bt_isinstance (pa_cons (pv 0) (pa_cons (pe_bltn (v := .ty "tuple") rfl g_tuple bt_tuple rfl) pa_nil))) (pe_and (pe_cmpR op_le (pe_callB (lenK (K := K) rfl) rfl g_len PySem.boot_len (pa_cons (pv 0) (pa_nil))) (pe_gint i_MOST_HIGH rfl) (nomark _)) (pe_one (pe_callB (allK (K := K) rfl rfl) rfl g_all bt_all (pa_cons (pe_lc (own := [("cell", 1)]) rfl nd (itupK (K := K) rfl (pv 0)) (blkOk_by (N := ["value", "cell"]) (sc := (defScope (top 50))) (by decide +kernel)) (fun _ _ _ _ _ => pg_name (i := 1) nd rfl (Or.inl rfl) (.inr rfl)) (fun _ _ _ _ _ => pts_nil) (fun _ _ _ _ _ => pe_std S_is_constant hr rfl (pa_cons (pv 1) (pa_nil)))) (pa_nil)))))))), ?_⟩
  refine body_x nm_is_stack ?_ vs H Q E h
  clear h hr
  intro c n x hK hp
  (subst hK)
  try clear g_isinstance g_tuple i_MOST_HIGH g_all g_len S_is_constant F
  obtain ⟨hl, hx⟩ : x.length ≤ 100 ∧ ∀ v ∈ x, okX v := hp
  have nl : (nums x).length = x.length := List.length_map _
  walk_at "WK"
  refine ⟨fun _ => ?_, fun z => nomatch z⟩
  walk_at "WK"
  rw [nl, decide_eq_true (show (x.length : Int) ≤ 100 by omega)]
  refine ⟨fun _ => ?_, fun z => nomatch z⟩
  walk_at "WK"
  refine wp_new (wn_lc (fun v hv => ?_) (wi_tup rfl ?_))
  · have : v = 1 := by simpa using hv
    subst this
    exact Nat.le_of_ble_eq_true rfl
  · walk_at "WK"
    refine ⟨fun i acc m' => m' = n ∧ acc = (List.replicate i true).map PyData.bool, ⟨rfl, rfl⟩, by rw [List.length_map, nl]; omega, ?_, ?_⟩
    · rintro i acc m' d hd ⟨rfl, rfl⟩
      obtain ⟨v, rfl, hv⟩ : ∃ v : Int, d = .py (.int v) ∧ v ∈ x := by
        obtain ⟨p, hp, rfl⟩ := List.mem_map.mp (List.mem_of_getElem? hd)
        obtain ⟨v, hv, rfl⟩ := List.mem_map.mp hp
        exact ⟨v, rfl, hv⟩
      refine wg_name ⟨rfl, ?_⟩ (Nat.le_of_ble_eq_true rfl) (by decide)
      refine wt_yes ⟨fun _ => ?_, fun z => nomatch z⟩
      walk_at "WK"
      refine ⟨v, rfl, trivial, ?_⟩
      rintro d m ⟨rfl, rfl⟩
      refine ⟨rfl, ?_⟩
      rw [decide_eq_true (show -(10 ^ 30) ≤ v ∧ v ≤ 10 ^ 30 from hx v hv)]
      walk_at "WK"
      rw [List.replicate_succ', List.map_append]
      rfl
    · rintro acc m' ⟨rfl, rfl⟩
      walk_at "WK"
      refine cw_all rfl (one_mk (ls_py ⟨_, rfl, ?_⟩))
      have e : (List.replicate ((nums x).map D.py).length true).all id = true := List.all_eq_true.mpr fun b hb => by rw [List.eq_of_mem_replicate hb]; rfl
      dsimp only
      rw [e]
      exact ⟨rfl, rfl⟩
abbrev sp_require_stack (K : PySem.W.Frag) : Sp := SpX (ι := List Int) K (fun x => [.py (.tuple (nums x))]) (fun x _ => x.length ≤ 100 ∧ ∀ v ∈ x, okX v) fun _ n d m => d = .py .none ∧ m = n
theorem ln_require_stack (x : List Int) : [D.py (.tuple (nums x))].length = 1 := rfl
theorem nm_require_stack (x : List Int) : [D.py (.tuple (nums x))].all D.nm = true := rfl
theorem sc_require_stack : FnScope ["value"] ["value"] (defScope (top 51)) := ⟨rfl, rfl, rfl, by decide +kernel, rfl, by decide +kernel, by decide +kernel⟩
theorem ok_require_stack (F : FnP K "require_stack" "require_stack" (top 51) f fd) (S_is_stack : Std P w K mg base 4 "is_stack" ["value"] (sp_is_stack K)) : FnOk P w K mg base CX0 5 f fd ["value"] (sp_require_stack K) := by
  refine F.ok sc_require_stack (sx_len ln_require_stack) (fun cdv A outer s H vs Q E hr h => ?_)
  have nd := sc_require_stack.nd
  refine ⟨_, PSs.nox (pss_one (ps_if (pt_not (truK (K := K) rfl (pe_std S_is_stack hr rfl (pa_cons (pv 0) (pa_nil))) (by intro _; rfl))) (pss_one (ps_never)) (pss_nil))), ?_⟩
  refine body_x nm_require_stack ?_ vs H Q E h
  clear h hr
  intro c n x hK hp
  (subst hK)
  try clear S_is_stack F
  walk_at "WK"
  refine ⟨x, rfl, hp, ?_⟩
  rintro d m ⟨rfl, rfl⟩
  refine ⟨rfl, ?_⟩
  walk_at "WK"
  refine ⟨fun z => (nomatch z), fun _ => ?_⟩
  walk_at "WK"
  exact rfl
/-! ## a call -/
abbrev sp_Effect___call__ (K : PySem.W.Frag) (C : Addr) : Sp := SpX (ι := Int × List Src × List Int) K (fun x => [effD C x.1 x.2.1, .py (.tuple (nums x.2.2))]) (fun x _ => okE x.1 x.2.1 ∧ x.1 ≤ x.2.2.length ∧ x.2.2.length ≤ 100 ∧ ∀ v ∈ x.2.2, okX v) fun x n d m => d = .py (.tuple (nums (putS x.1 x.2.1 x.2.2))) ∧ m = n
theorem ln_Effect___call__ (x : Int × List Src × List Int) : [effD C x.1 x.2.1, .py (.tuple (nums x.2.2))].length = 2 := rfl
theorem nm_Effect___call__ (x : Int × List Src × List Int) : [effD C x.1 x.2.1, .py (.tuple (nums x.2.2))].all D.nm = true := rfl
theorem sc_Effect___call__ : FnScope ["self", "stack"] ["self", "stack"] (defScope (meth 65 6)) := ⟨rfl, rfl, rfl, by decide +kernel, rfl, by decide +kernel, by decide +kernel⟩
theorem ok_Effect___call__ (F : FnP K "__call__" "Effect.__call__" (meth 65 6) f fd) (S_require_stack : Std P w K mg base 5 "require_stack" ["value"] (sp_require_stack K)) (g_len : mg "len" = none) (S_after_pair : Std P w K mg base 1 "after_pair" ["pair", "cells"] (sp_after_pair K)) (kc : KitC K C) (a1 : NoAttr K C "kept_taken") (a2 : NoAttr K C "kept_left") (gE : mg "Effect" = some (.ref C)) : FnOk P w K mg base CX0 6 f fd ["self", "stack"] (sp_Effect___call__ K C) := by
  refine F.ok sc_Effect___call__ (sx_len ln_Effect___call__) (fun cdv A outer s H vs Q E hr h => ?_)
  have nd := sc_Effect___call__.nd
  refine ⟨_, PSs.nox (pss_cons (ps_expr (pe_std S_require_stack hr rfl (pa_cons (pv 1) (pa_nil))))
 (pss_cons (ps_if (pt_cmpR op_lt (pe_callB (lenK (K := K) rfl) rfl g_len PySem.boot_len (pa_cons (pv 1) (pa_nil))) (pe_fld (pv 0) rfl) (nomark _)) (pss_one (ps_never)) (pss_nil))
 (pss_one (ps_ret (pe_std S_after_pair (hr.mono (by decide)) rfl (pa_cons (pe_tup (pa_cons (pe_fld (pv 0) rfl) (pa_cons (pe_fld (pv 0) rfl) (pa_nil)))) (pa_cons (pv 1) (pa_nil)))))))), ?_⟩
  refine body_x nm_Effect___call__ ?_ vs H Q E h
  clear h hr
  intro c n x hK hp
  (subst hK)
  try clear S_require_stack g_len S_after_pair gE F
  obtain ⟨t, l, xs⟩ := x
  dsimp only
  obtain ⟨hE, hx, hl, hv⟩ : okE t l ∧ t ≤ xs.length ∧ xs.length ≤ 100 ∧ ∀ v ∈ xs, okX v := hp
  have nl : (nums xs).length = xs.length := List.length_map _
  walk_at "WK"
  refine ⟨xs, rfl, ⟨hl, hv⟩, ?_⟩
  rintro d m ⟨rfl, rfl⟩
  refine ⟨rfl, ?_⟩
  walk_at "WK"
  refine ⟨C, _, _, rfl, kc.cl, a1, rfl, ?_⟩
  walk_at "WK"
  rw [nl, decide_eq_false (show ¬ (xs.length : Int) < t by omega)]
  refine ⟨fun z => (nomatch z), fun _ => ?_⟩
  walk_at "WK"
  refine ⟨C, _, _, rfl, kc.cl, a1, rfl, ?_⟩
  walk_at "WK"
  refine ⟨C, _, _, rfl, kc.cl, a2, rfl, ?_⟩
  walk_at "WK"
  refine ⟨(t, l, xs), rfl, ⟨hE, hx, Nat.le_trans hl (by decide)⟩, ?_⟩
  rintro d m ⟨rfl, rfl⟩
  exact ⟨rfl, rfl, rfl⟩
end
end Wx

/-! ### part Xe -/
set_option Elab.async false
set_option linter.all false
set_option maxRecDepth 100000
set_option maxHeartbeats 2000000
set_option autoImplicit false
/-! enumerate of a tuple. -/
namespace PySem
open AutoSeq1 (wpAny_loadPart')
section
variable {prog : Program} {w : World} {A : Around} {E : Value → Shared → Prop} {s : Shared}
end
theorem Draws.tup {prog : Program} {w : World} {A : Around} (hh : A.handled = none) (it l : Addr) (hne : l ≠ it) (items : Array Value) :
    Draws prog w A it [it, l] items.size (fun i v => items[i]? = some v) (fun i h => h.IsTupleIter it l i ∧ h.IsTuple l items) where
  live := fun _ _ st => let ⟨o, ho, _⟩ := st.1; ⟨o, ho⟩
  frame := fun _ _ _ st hk => ⟨st.1.at fun o e => hk it (by simp) o e, st.2.at fun o e => hk l (by simp) o e⟩
  item := fun i s Q E hi st hQ => by
    refine RZ.nextOf_tuple_item st.1 st.2 (x := items[i]) (by simp [hi]) fun h' hit' hs' => ?_
    exact hQ _ h' s.toks (by simp [hi]) ⟨hit', st.2.extBut hs'.extBut hne⟩ hs'
  done := fun s Q E st hE => RZ.nextOf_tuple_end hh st.1 st.2 (by simp) hE
end PySem
namespace L2
open PySem PySem.Spec PyProof.Rows
end L2

/-! ### part Xr -/
set_option Elab.async false
set_option linter.all false
set_option maxRecDepth 100000
set_option maxHeartbeats 1000000
set_option autoImplicit false
/-! Texts, labels, dicts: more rules. -/
namespace L2
open PySem PySem.Spec PyProof.Rows
section
variable {X : Cx}
end
end L2

/-! ### part Xs -/
set_option Elab.async false
set_option linter.all false
set_option maxRecDepth 100000
set_option maxHeartbeats 1000000
set_option autoImplicit false
/-! Texts, labels, dicts: the rules, told by data. -/
namespace Wx
open PySem L2
/-! ## labels -/
instance memDec (s : Key) (l : List Key) : Decidable (s ∈ l) := @List.instDecidableMemOfLawfulBEq Key instBEqOfDecidableEq inferInstance s l
def lab : Key → PyData
  | .inl i => .int i
  | .inr s => .str s
theorem eqv_lab (k l : Key) : PyData.eqv (lab k) (lab l) = decide (k = l) := by
  cases k <;> cases l <;> simp [lab, PyData.eqv, Bool.beq_eq_decide_eq]
/-! ## the signs of a text -/
def signs (x : Str) : List D := x.cps.toList.map fun c => D.py (.str ⟨#[c]⟩)
theorem signs_len (x : Str) : (signs x).length = x.cps.size := by unfold signs; rw [List.length_map]; simp
theorem signs_item {x : Str} {i : Nat} {d : D} (h : (signs x)[i]? = some d) : ∃ c, x.cps[i]? = some c ∧ c ∈ x.cps.toList ∧ d = .py (.str ⟨#[c]⟩) := by
  unfold signs at h
  rw [List.getElem?_map] at h
  cases q : x.cps.toList[i]? with
  | none => rw [q] at h; cases h
  | some c => rw [q] at h; cases h; exact ⟨c, by simpa using q, List.mem_of_getElem? q, rfl⟩
def rInSg : R2 := fun x y H Q => ∃ (c : Nat) (z : Str), x = .str ⟨#[c]⟩ ∧ y = .str z ∧ Q (.bl (decide (c ∈ z.cps.toList))) H
theorem opInSg {X : Cx} : OpR X (compareOp .In) rInSg := op_in_sign
def GStr (mg : Str → Option Value) (x : Str) (s : Str) : Prop := ∃ t, mg x = some (.str s t)
theorem pe_gstr {X : Cx} {x s : Str} {pos : Pos} (h : GStr X.mg x s) (hg : Gl X x) (hd : (x == ("__debug__" : Str)) = false := by decide) : PE X (.Name x pos) (tC (.str s)) := by
  obtain ⟨t, h⟩ := h
  exact pe_glob hg h ⟨t, rfl⟩ hd
section
variable {c : Cy} {m : Bool} {K : PySem.W.Frag} {A M : Addr → Prop} {H : Hp} {v : V} {Θ : List D → Nat → Prop} {ta : TA} {te ty tx td : TE} {sl : List Slo} {n nn : Nat} {Φ : D → Nat → Prop} {Ψ : Ow → Nat → Prop} {P : Po}
theorem wi_str (h : Wp c te ⟨sl, nn⟩ fun d n => ∃ x, d = .py (.str x) ∧ Θ (signs x) n) : Wi c m (iStr te) ⟨sl, nn⟩ Θ := ⟨fun σ A H o R k => by
  refine h.run σ A H o _ fun v H1 d n p e1 g1 x => ?_
  obtain ⟨z, rfl, q⟩ := p
  cases Da.str_eq x
  refine ⟨z, rfl, k _ H1 _ n q e1 g1 ⟨fun H' i kk hi => by rw [signs_len] at hi; exact hi, fun H' i kk hi => by rw [signs_len] at hi; exact hi, fun H' i y H'' kk hi w => ?_⟩⟩
  obtain ⟨rfl, ch, hc, rfl⟩ := w
  refine ⟨.py (.str ⟨#[ch]⟩), ?_, .inl rfl, fun B _ _ _ => .str _⟩
  unfold signs
  rw [List.getElem?_map, show z.cps.toList[i]? = some ch by simpa using hc]
  rfl⟩
theorem rw_inSg {ch : Nat} {z : Str} (h : Φ (.py (.bool (decide (ch ∈ z.cps.toList)))) n) : Rw c rInSg (.py (.str ⟨#[ch]⟩)) (.py (.str z)) n Φ := ⟨fun A H v1 v2 a x1 x2 Q k => by
  cases Da.str_eq x1
  cases Da.str_eq x2
  exact ⟨ch, z, rfl, rfl, k _ H _ n h Ek.refl a.good (.bl _)⟩⟩
/-! ## d.get(k, x), k not in d -/
/-- what holds a dict to be read -/
def RdD (c : Cy) (A : Addr → Prop) (H : Hp) (v : V) (ds : List (Key × PyData)) : Prop := ∃ a kvs, v = .ref a ∧ Rd H a (.dK kvs) ∧ KvR c.K A H kvs ds
def Slo.dict (s : Slo) (ds : List (Key × PyData)) : Prop := s = .own (.dct ds) ∨ s = .val (.dct ds) ∨ s = .val (.dcl ds)
theorem Ok.dict {σ : St} {e : En} (o : Ok c A H σ e) {i : Nat} {s : Slo} {ds : List (Key × PyData)} (hi : e.sl[i]? = some s) (hs : s.dict ds) : ∃ v, σ[i]? = some (some v) ∧ RdD c A H v ds := by
  rcases hs with rfl | rfl | rfl
  · obtain ⟨a, h1, ⟨kvs, h2, h3⟩, h4⟩ := o.own i _ hi
    exact ⟨_, h1, a, kvs, rfl, .inl h2, h3⟩
  · obtain ⟨_, v, h1, a, kvs, rfl, na, h2, h3⟩ := o.val i _ hi
    exact ⟨_, h1, a, kvs, rfl, .inl h2, h3⟩
  · obtain ⟨_, v, h1, a, kvs, od, rfl, na, h2, h3⟩ := o.val i _ hi
    exact ⟨_, h1, a, kvs, rfl, .inr ⟨od, h2⟩, h3⟩
/-! ## enumerate, items, sum -/
def enumD (ds : List PyData) : List D := ds.mapIdx fun i p => D.py (.tuple [.int (i : Int), p])
theorem enumD_len (ds : List PyData) : (enumD ds).length = ds.length := List.length_mapIdx
theorem enumD_get {ds : List PyData} {i : Nat} : (enumD ds)[i]? = (ds[i]?).map fun p => D.py (.tuple [.int (i : Int), p]) := by unfold enumD; rw [List.getElem?_mapIdx]
theorem KvR.item : ∀ {kvs : List (Key × V)} {ds : List (Key × PyData)} {i : Nat} {k : Key} {v : V}, KvR K A H kvs ds → kvs[i]? = some (k, v) → ∃ p, ds[i]? = some (k, p) ∧ Da K A H v p
  | [], _, i, k, v, _, h => by simp at h
  | (x, u) :: r, (y, d) :: s, 0, k, v, ⟨e, h, t⟩, q => by
    simp at q
    obtain ⟨rfl, rfl⟩ := q
    exact ⟨d, by simp [e], h⟩
  | (x, u) :: r, (y, d) :: s, i + 1, k, v, ⟨e, h, t⟩, q => by
    obtain ⟨p, h1, h2⟩ := KvR.item (i := i) t (by simpa using q)
    exact ⟨p, by simpa using h1, h2⟩
  | _ :: _, [], _, _, _, h, _ => h.elim
def rSTR : List V → Hp → VK → Prop := fun xs H Q => ∃ i : Int, xs = [.int i] ∧ i.natAbs.log2 < 1920 ∧ Q (.str (toString i)) H
theorem callSTR {X : Cx} : CallR X (.type "str") rSTR := call_str_int
theorem cw_str {ds : List D} (h : One ds fun d => ∃ i : Int, d = .py (.int i) ∧ i.natAbs.log2 < 1920 ∧ Φ (.py (.str (toString i))) n) : Cw c rSTR ds n Φ := ⟨fun A H vs a x Q k => by
  obtain ⟨v, d, rfl, x, i, rfl, hz, q⟩ := one_of h x
  cases Da.int_eq x
  exact ⟨i, rfl, hz, k _ H _ n q Ek.refl a.good (.str _)⟩⟩
end
end Wx

/-! ### part Xt -/
set_option Elab.async false
set_option linter.all false
set_option maxRecDepth 100000
set_option maxHeartbeats 1000000
set_option autoImplicit false
/-! Locked dicts, three at once, insert, join, dict(..), dict comprehensions. -/
namespace Wx
open PySem L2
mutual
/-- data that stands beside a locked dict stays when the dict is unlocked -/
theorem Da.off {K : PySem.W.Frag} {A : Addr → Prop} {H : Hp} {a : Addr} {od : PySem.Obj} {kvs : List (Key × V)} {u : HO} (ha : H a = some (.frz od (.dK kvs))) : ∀ {v : V} {d : PyData}, Da K (fun b => A b ∧ b ≠ a) H v d → (A a) → Da K A (upd H a u) v d
  | _, _, .non, _ => .non
  | _, _, .bl b, _ => .bl b
  | _, _, .int i, _ => .int i
  | _, _, .str x, _ => .str x
  | _, _, .lst (a := b) n r t, aA => by
    have ne : b ≠ a := fun q => by
      subst q
      rcases r with r | ⟨o, r⟩ <;> rw [ha] at r <;> cases r
    exact .lst (fun z => n ⟨z, ne⟩) (by
      rcases r with r | ⟨o, r⟩
      · exact .inl (by rw [upd_ne ne]; exact r)
      · exact .inr ⟨o, by rw [upd_ne ne]; exact r⟩) (DaL.off ha t aA)
  | _, _, .tup (a := b) n r t, aA => by
    have ne : b ≠ a := fun q => by
      subst q
      rcases r with r | ⟨o, r⟩ <;> rw [ha] at r <;> cases r
    exact .tup (fun z => n ⟨z, ne⟩) (by
      rcases r with r | ⟨o, r⟩
      · exact .inl (by rw [upd_ne ne]; exact r)
      · exact .inr ⟨o, by rw [upd_ne ne]; exact r⟩) (DaL.off ha t aA)
  | _, _, .lstK r t, aA => .lstK r (DaL.off ha t aA)
  | _, _, .tupK r t, aA => .tupK r (DaL.off ha t aA)
theorem DaL.off {K : PySem.W.Frag} {A : Addr → Prop} {H : Hp} {a : Addr} {od : PySem.Obj} {kvs : List (Key × V)} {u : HO} (ha : H a = some (.frz od (.dK kvs))) : ∀ {vs : List V} {ds : List PyData}, DaL K (fun b => A b ∧ b ≠ a) H vs ds → (A a) → DaL K A (upd H a u) vs ds
  | _, _, .nil, _ => .nil
  | _, _, .cons h t, aA => .cons (Da.off ha h aA) (DaL.off ha t aA)
end
section
variable {c : Cy} {A B : Addr → Prop} {H : Hp} {σ : St} {e : En} {K : PySem.W.Frag} {te tb tc : TE} {sl : List Slo} {n nn : Nat} {Φ : D → Nat → Prop} {Ψ : Ow → Nat → Prop} {P : Po}
/-- a name is forgotten, what it holds stays -/
theorem Ok.drop {i : Nat} (o : Ok c A H σ e) : Ok c A H σ ⟨e.sl.set i .emp, e.n⟩ := by
  have f : ∀ {m : Nat} {s : Slo}, s ≠ .emp → (e.sl.set i Slo.emp)[m]? = some s → e.sl[m]? = some s ∧ i ≠ m := fun {m s} hs h => by
    by_cases q : i = m
    · subst q
      rw [List.getElem?_set] at h
      rw [if_pos rfl] at h
      split at h <;> cases h
      exact absurd rfl hs
    · rw [List.getElem?_set_ne q] at h
      exact ⟨h, q⟩
  refine ⟨by rw [List.length_set]; exact o.len, o.good, fun a z => o.sub a (z.elim .inl fun w => .inr (own_emp2 w)), o.al, fun j u h => o.val j u (f (s := .val u) (fun z => nomatch z) h).1, fun j w h => o.own j w (f (s := .own w) (fun z => nomatch z) h).1, fun j l w w' a h1 h2 h3 h4 => o.sep j l w w' a (f (s := .own w) (fun z => nomatch z) h1).1 (f (s := .own w') (fun z => nomatch z) h2).1 h3 h4⟩
/-- a name's value is told in other words -/
theorem Ok.tell {i : Nat} {v : V} {d : D} (o : Ok c A H σ ⟨e.sl.set i .emp, e.n⟩) (hi : i < e.sl.length) (hv : σ[i]? = some (some v)) (nm : d.nm = true) (x : DX c A H v d) : Ok c A H σ ⟨e.sl.set i (.val d), e.n⟩ := by
  have f : ∀ {m : Nat} {s : Slo}, i ≠ m → (e.sl.set i (.val d))[m]? = some s → (e.sl.set i Slo.emp)[m]? = some s := fun {m s} q h => by
    rw [List.getElem?_set_ne q] at h ⊢
    exact h
  have g : ∀ {w : Ow} {m : Nat}, (e.sl.set i (.val d))[m]? = some (.own w) → i ≠ m := fun {w m} h q => by
    subst q
    rw [List.getElem?_set_self hi] at h
    cases h
  refine ⟨by have := o.len; rw [List.length_set] at this ⊢; exact this, o.good, fun a z => o.sub a (z.elim .inl fun ⟨j, w, h1, h2⟩ => .inr ⟨j, w, f (g h1) h1, h2⟩), o.al, fun j u h => ?_, fun j w h => o.own j w (f (g h) h), fun j l w w' a h1 h2 h3 h4 => o.sep j l w w' a (f (g h1) h1) (f (g h2) h2) h3 h4⟩
  by_cases q : i = j
  · subst q
    have h' : (e.sl.set i (Slo.val d))[i]? = some (Slo.val u) := h
    rw [List.getElem?_set_self hi] at h'
    cases h'
    exact ⟨nm, v, hv, x⟩
  · exact o.val j u (f q h)
end
end Wx

/-! ### part Xu -/
set_option Elab.async false
set_option linter.all false
set_option maxRecDepth 100000
set_option maxHeartbeats 1000000
set_option autoImplicit false
/-! Dicts given back, dict comprehensions, dict(..), insert, join. -/
namespace Wx
open PySem L2
section
variable {c : Cy} {A B : Addr → Prop} {H : Hp} {σ : St} {e : En} {K : PySem.W.Frag} {te tb tc to : TE} {sl : List Slo} {n nn : Nat} {Φ : D → Nat → Prop} {Ψ : Ow → Nat → Prop} {P : Po}
/-- sep.join(a list of texts) -/
def rJoin (K : PySem.W.Frag) : V → List V → Hp → VK → Prop := fun x xs H Q => ∃ a p, ∃ ys : List Str, x = .str a ∧ xs = [.ref p] ∧ (SqL K H p (ys.map V.str) ∨ SqT K H p (ys.map V.str)) ∧
      (ys.map (·.length)).sum + ys.length * a.length ≤ 16777216 ∧ Q (.str (Txt.join a ys)) H
theorem pe_joinK {X : Cx} {o e : Expr} {apos pos : Pos} (hK : X.K = K) (ho : PE X o to) (he : PE X e te) (hs : starEach [e] X.env = [(false, eval e X.env)] := by rfl) (hbase : attributeBase o "join" X.env (eval o X.env) = eval o X.env := by rfl) (hline : (apos.endLine == pos.line) = true := by rfl) :
    PE X (.Call (.Attribute o "join" apos) [e] [] pos) (tM1 (rJoin K) to te) := hK ▸ pe_join ho he hs hbase hline
theorem da_strs {S : Addr → Prop} {H : Hp} : ∀ {xs : List V} {ys : List Str}, DaL K S H xs (ys.map PyData.str) → xs = ys.map V.str
  | [], [], _ => rfl
  | _ :: _, [], h => by cases h
  | [], _ :: _, h => by cases h
  | x :: xs, y :: ys, h => by
    cases h with
    | cons a b =>
      cases Da.str_eq a
      rw [da_strs b]
      rfl
theorem wp_join (hK : K = c.K) (h : Wp c to ⟨sl, nn⟩ fun d n => ∃ a, d = .py (.str a) ∧ Wp c te ⟨sl, n⟩ fun d2 m => ∃ ys : List Str, d2 = .py (.list (ys.map PyData.str)) ∧ (ys.map (·.length)).sum + ys.length * a.length ≤ 16777216 ∧ Φ (.py (.str (Txt.join a ys))) m) : Wp c (tM1 (rJoin K) to te) ⟨sl, nn⟩ Φ := ⟨fun σ A H o Q k => by
  subst hK
  refine h.run σ A H o _ fun v H1 d n p e1 g1 x => ?_
  obtain ⟨a, rfl, p⟩ := p
  cases Da.str_eq x
  refine ⟨⟨a, rfl⟩, p.run σ A H1 (o.keep e1 g1) _ fun w H2 d2 m q e2 g2 x2 => ?_⟩
  obtain ⟨ys, rfl, hz, q⟩ := q
  obtain ⟨b, xs, rfl, hs, t⟩ := Da.list_at x2
  rw [da_strs t] at hs
  exact ⟨a, b, ys, rfl, rfl, .inl hs, hz, k _ H2 _ m q (e1.trans e2) g2 (.str _)⟩⟩
end
end Wx

/-! ### part Xv -/
set_option Elab.async false
set_option linter.all false
set_option maxRecDepth 100000
set_option maxHeartbeats 1000000
set_option autoImplicit false
/-! Dict comprehensions. -/
namespace Wx
open PySem L2
section
variable {c : Cy}
end
end Wx

/-! ### part Xp -/
set_option Elab.async false
set_option linter.all false
set_option maxRecDepth 100000
set_option maxHeartbeats 1000000
set_option autoImplicit false
/-! The plain law of the fewest instructions. -/
namespace Wx
open PySem L2
/-! ## tallies -/
/-! ## the number -/
end Wx

/-! ### part T0 -/
set_option Elab.async false
set_option linter.all false
set_option maxRecDepth 100000
set_option maxHeartbeats 1000000
set_option autoImplicit false
/-! The texts of instructions. -/
namespace Wx
open PySem L2
/-- a number as a text -/
def txN (n : Nat) : Str := Str.ofString (toString ((n : Nat) : Int))
theorem txN_cps (n : Nat) : (txN n).cps.toList = TL.numL n := TL.tl_num n
theorem txN_len (n : Nat) : (txN n).length = (TL.numL n).length := by
  rw [← txN_cps]
  exact (Array.length_toList).symm
theorem txN_pos (n : Nat) : 1 ≤ (txN n).length := by
  rw [txN_len]
  exact List.length_pos_iff.mpr (TL.numL_ne n)
theorem txN_le {n k : Nat} (hk : 0 < k) (h : n < 10 ^ k) : (txN n).length ≤ k := by
  rw [txN_len]
  exact TL.numL_len hk h
theorem txN_int {n : Nat} (h : n < 10 ^ 200) : intText? (txN n) = some (n : Int) := TL.int_num (Nat.le_trans (TL.numL_len (by decide) h) (by decide))
theorem num_head (n : Nat) : ∃ c r, TL.numL n = c :: r ∧ 48 ≤ c ∧ c ≤ 57 ∧ (c = 48 → n = 0) := by
  induction n using Nat.strongRecOn with
  | ind n ih =>
    by_cases h : n < 10
    · exact ⟨48 + n, [], TL.numL_lt h, by omega, by omega, by omega⟩
    · obtain ⟨c, r, e, h1, h2, h3⟩ := ih (n / 10) (by omega)
      refine ⟨c, r ++ [48 + n % 10], by rw [TL.numL_step (by omega), e]; rfl, h1, h2, fun z => ?_⟩
      have := h3 z
      omega
theorem num_sign {n c : Nat} (h : c ∈ TL.numL n) : 48 ≤ c ∧ c ≤ 57 := by
  induction n using Nat.strongRecOn with
  | ind n ih =>
    by_cases g : n < 10
    · rw [TL.numL_lt g] at h
      have := List.mem_singleton.mp h
      omega
    · rw [TL.numL_step (by omega)] at h
      rcases List.mem_append.mp h with h | h
      · exact ih (n / 10) (by omega) h
      · have := List.mem_singleton.mp h
        omega
theorem txN_inj {m n : Nat} (h : txN m = txN n) : m = n := TL.numL_inj (by rw [← txN_cps, ← txN_cps, h])
/-! ## instructions -/
inductive Wd where
  | d
  | p (n : Nat)
  | r (n : Nat)
  | c (v : Int)
deriving DecidableEq
/-- a text from its signs -/
def sg (l : List Nat) : Str := ⟨l.toArray⟩
theorem sg_len (l : List Nat) : (sg l).length = l.length := by
  show l.toArray.size = _
  simp
theorem str_sg (z : Str) : z = sg z.cps.toList := by
  cases z
  rfl
theorem txN_sg (n : Nat) : txN n = sg (TL.numL n) := by
  rw [str_sg (txN n), txN_cps]
def Wd.sg : Wd → List Nat
  | .d => [100]
  | .p n => 112 :: TL.numL n
  | .r n => 114 :: TL.numL n
  | .c v => if v < 0 then 45 :: TL.numL v.natAbs else TL.numL v.natAbs
theorem wd_c (v : Int) : (Wd.c v).sg = if v < 0 then 45 :: TL.numL v.natAbs else TL.numL v.natAbs := rfl
def Wd.tx (w : Wd) : Str := Wx.sg w.sg
def okWd : Wd → Prop
  | .d => True
  | .p n => n ≤ 98
  | .r n => 1 ≤ n ∧ n ≤ 99
  | .c v => -(10 ^ 30) ≤ v ∧ v ≤ 10 ^ 30
theorem cut_head (z : Str) {c : Nat} {r : List Nat} (h : z.cps.toList = c :: r) : cutS z none (some 1) = sg [c] := by
  have hl : z.length = r.length + 1 := by
    show z.cps.size = _
    rw [← Array.length_toList, h]
    rfl
  unfold cutS
  rw [h, HT.sIx_none, show (some (1 : Int)) = some ((1 : Nat) : Int) from rfl, HT.sIx_nat, hl]
  simp [sg]
theorem cut_tail (z : Str) {c : Nat} {r : List Nat} (h : z.cps.toList = c :: r) : cutS z (some 1) none = sg r := by
  have hl : z.length = r.length + 1 := by
    show z.cps.size = _
    rw [← Array.length_toList, h]
    rfl
  unfold cutS
  rw [h, HT.sIx_none, show (some (1 : Int)) = some ((1 : Nat) : Int) from rfl, HT.sIx_nat, hl]
  simp [sg]
theorem wd_len {w : Wd} (h : okWd w) : 1 ≤ w.sg.length ∧ w.sg.length ≤ 33 := by
  have b : ∀ n : Nat, n < 10 ^ 31 → 1 ≤ (TL.numL n).length ∧ (TL.numL n).length ≤ 31 := fun n hn => ⟨List.length_pos_iff.mpr (TL.numL_ne n), TL.numL_len (by decide) hn⟩
  cases w with
  | d => exact ⟨by decide, by decide⟩
  | p n =>
    have h' : n ≤ 98 := h
    have := b n (by omega)
    show 1 ≤ _ + 1 ∧ _ + 1 ≤ 33
    omega
  | r n =>
    have h' : 1 ≤ n ∧ n ≤ 99 := h
    have := b n (by omega)
    show 1 ≤ _ + 1 ∧ _ + 1 ≤ 33
    omega
  | c v =>
    have h' : -(10 ^ 30) ≤ v ∧ v ≤ 10 ^ 30 := h
    have := b v.natAbs (by omega)
    rw [wd_c]
    split
    · show 1 ≤ _ + 1 ∧ _ + 1 ≤ 33
      omega
    · omega
theorem wd_sign {w : Wd} {x : Nat} (h : x ∈ w.sg) : 45 ≤ x ∧ x ≤ 114 := by
  cases w with
  | d =>
    have := List.mem_singleton.mp h
    omega
  | p n =>
    rcases List.mem_cons.mp h with h | h
    · omega
    · have := num_sign h; omega
  | r n =>
    rcases List.mem_cons.mp h with h | h
    · omega
    · have := num_sign h; omega
  | c v =>
    rw [wd_c] at h
    split at h
    · rcases List.mem_cons.mp h with h | h
      · omega
      · have := num_sign h; omega
    · have := num_sign h; omega
theorem sg_ok {l : List Nat} (h : ∀ x ∈ l, x < 1000) : PyData.strOk (sg l) = true := by
  unfold PyData.strOk
  rw [Array.all_eq_true_iff_forall_mem]
  intro ch hc
  have := h ch (by simpa [sg] using hc)
  exact decide_eq_true (by omega)
theorem wd_ok (w : Wd) : PyData.strOk w.tx = true := sg_ok fun x hx => by have := wd_sign hx; omega
theorem sg_inj {a b : List Nat} (h : sg a = sg b) : a = b := by
  have := congrArg (fun z : Str => z.cps.toList) h
  exact this
end Wx

/-! ### part T1 -/
set_option Elab.async false
set_option linter.all false
set_option maxRecDepth 100000
set_option maxHeartbeats 1000000
set_option autoImplicit false
namespace Wx
open PySem L2
def rINTS : List V → Hp → VK → Prop := fun xs H Q => ∃ a n, xs = [.str a] ∧ PySem.intText? a = some n ∧ a.length ≤ 640 ∧ Q (.int n) H
theorem callINTS {X : Cx} : CallR X (.type "int") rINTS := call_int_str
theorem cw_intS {c : Cy} {Φ : D → Nat → Prop} {n : Nat} {ds : List D} (h : One ds fun d => ∃ a v, d = .py (.str a) ∧ intText? a = some v ∧ a.length ≤ 640 ∧ Φ (.py (.int v)) n) : Cw c rINTS ds n Φ := ⟨fun A H vs at' x Q k => by
  obtain ⟨v, d, rfl, x, a, i, rfl, h1, h2, q⟩ := one_of h x
  cases Da.str_eq x
  exact ⟨a, i, rfl, h1, h2, k _ H _ n q Ek.refl at'.good (.int _)⟩⟩
theorem digit_in {ch v : Nat} (h : ch ∈ (txN v).cps.toList) : decide (ch ∈ (Str.ofString "0123456789").cps.toList) = true := by
  rw [txN_cps] at h
  have h2 := num_sign h
  refine decide_eq_true ?_
  have w : ∀ c : Fin 58, 48 ≤ c.val → c.val ∈ (Str.ofString "0123456789").cps.toList := by decide +kernel
  exact w ⟨ch, by omega⟩ h2.1
theorem txN_ok (v : Nat) : PyData.strOk (txN v) = true := by
  unfold PyData.strOk
  rw [Array.all_eq_true_iff_forall_mem]
  intro ch hc
  have h2 := num_sign (n := v) (by rw [← txN_cps]; simpa using hc)
  exact decide_eq_true (by omega)
theorem txN_zero {v : Nat} : decide (txN v = Str.ofString "0") = decide (v = 0) := by
  rw [decide_eq_decide]
  constructor
  · intro h
    exact txN_inj (h.trans (show Str.ofString "0" = txN 0 by decide +kernel))
  · rintro rfl
    decide +kernel
theorem eqv_strD (a b : Str) : PyData.eqv (.str a) (.str b) = decide (a = b) := by
  have h := eqv_lab (.inr a) (.inr b)
  rw [show PyData.eqv (.str a) (.str b) = PyData.eqv (lab (.inr a)) (lab (.inr b)) from rfl, h, decide_eq_decide]
  exact ⟨fun z => Sum.inr.inj z, fun z => by rw [z]⟩

section
variable {P : Program} {w : World} {K : PySem.W.Frag} {mg : Str → Option Value} {base : Heap} {f C : Addr} {fd : FuncData}
abbrev sp_is_decimal (K : PySem.W.Frag) : Sp := SpX (ι := Nat × Int × Int) K (fun x => [.py (.str (txN x.1)), .py (.int x.2.1), .py (.int x.2.2)]) (fun x _ => x.1 < 10 ^ 31) fun x n d m => d = .py (.bool (decide (x.2.1 ≤ x.1 ∧ (x.1 : Int) ≤ x.2.2))) ∧ m = n
theorem ln_is_decimal (x : Nat × Int × Int) : [D.py (.str (txN x.1)), .py (.int x.2.1), .py (.int x.2.2)].length = 3 := rfl
theorem nm_is_decimal (x : Nat × Int × Int) : [D.py (.str (txN x.1)), .py (.int x.2.1), .py (.int x.2.2)].all D.nm = true := rfl
theorem sc_is_decimal : FnScope ["signs", "low", "high", "sign"] ["signs", "low", "high"] (defScope (top 25)) := ⟨rfl, rfl, rfl, by decide +kernel, rfl, by decide +kernel, by decide +kernel⟩
theorem ok_is_decimal (F : FnP K "is_decimal" "is_decimal" (top 25) f fd) (i_MOST_DIGITS : GInt mg "MOST_DIGITS" 31) (g_all : mg "all" = none) (g_len : mg "len" = none) (s_DIGITS : GStr mg "DIGITS" "0123456789") (g_int : mg "int" = none) : FnOk P w K mg base CX0 1 f fd ["signs", "low", "high"] (sp_is_decimal K) := by
  refine F.ok sc_is_decimal (sx_len ln_is_decimal) (fun cdv A outer s H vs Q E hr h => ?_)
  have nd := sc_is_decimal.nd
  refine ⟨_, PSs.nox (pss_cons (ps_if (PW.pt (pw_or (pt_not (pt_chain op_le op_le (pe_int) (pe_callB (lenK (K := K) rfl) rfl g_len PySem.boot_len (pa_cons (pv 0) (pa_nil))) (pe_gint i_MOST_DIGITS rfl))) (pw_or1 (pt_not (truK (K := K) rfl (pe_callB (allK (K := K) rfl rfl) rfl g_all bt_all (pa_cons (pe_lc (own := [("sign", 3)]) rfl nd (pi_str (pv 0)) (blkOk_by (N := ["signs", "low", "high", "sign"]) (sc := (defScope (top 25))) (by decide +kernel)) (fun _ _ _ _ _ => pg_name (i := 3) nd rfl (Or.inl rfl) (.inr rfl)) (fun _ _ _ _ _ => pts_nil) (fun _ _ _ _ _ => pe_cmpR opInSg (pv 3) (pe_gstr s_DIGITS rfl) (by rfl))) (pa_nil))) (by intro _; rfl)))))) (pss_one (ps_ret (pe_bl))) (pss_nil))
 (pss_one (ps_ret (pe_and (pe_or (pe_cmpR (eqK (K := K) rfl (room64 hr)) (pv 0) (pe_str) (nomark _)) (pe_one (pe_cmpR (neK (K := K) rfl (room64 hr)) (pe_ix (ixK (K := K) rfl) (pv 0) (pe_int) (fun _ _ => rfl)) (pe_str) (nomark _)))) (pe_one (pe_chain op_le op_le (pv 1) (pe_callTy callINTS rfl g_int bt_int (pa_cons (pv 0) (pa_nil))) (pv 2))))))), ?_⟩
  refine body_x nm_is_decimal ?_ vs H Q E h
  clear h hr
  intro c n x hK hp
  (subst hK)
  try clear i_MOST_DIGITS g_all g_len s_DIGITS g_int F
  obtain ⟨v, lo, hh⟩ := x
  have hv : v < 10 ^ 31 := hp
  have l1 := txN_pos v
  have l2 := txN_le (k := 31) (by decide) hv
  have l3 : (txN v).length ≤ sizeLine := Nat.le_trans l2 (by rw [sizeLine_eq]; decide)
  dsimp only
  walk_at "WK"
  refine ⟨l3, ?_⟩
  walk_at "WK"
  refine ⟨fun _ => ?_, fun c1 => absurd (of_decide_eq_false c1) (by omega)⟩
  walk_at "WK"
  rw [decide_eq_true (show ((txN v).length : Int) ≤ 31 by omega)]
  refine ⟨fun _ => ?_, fun z => (nomatch z)⟩
  walk_at "WK"
  refine wp_new (wn_lc (fun v hv => ?_) (wi_str ?_))
  · have : v = 3 := by simpa using hv
    subst this
    exact Nat.le_of_ble_eq_true rfl
  walk_at "WK"
  refine ⟨txN v, rfl, ?_⟩
  refine ⟨fun i acc m' => m' = n ∧ acc = (List.replicate i true).map PyData.bool, ⟨rfl, rfl⟩, by rw [signs_len]; exact Nat.lt_of_le_of_lt l2 (by decide), ?_, ?_⟩
  · rintro i acc m' d hd ⟨rfl, rfl⟩
    obtain ⟨s, _, hs, rfl⟩ := signs_item hd
    refine wg_name ⟨rfl, ?_⟩ (Nat.le_of_ble_eq_true rfl) (by decide)
    refine wt_yes ⟨fun _ => ?_, fun z => nomatch z⟩
    walk_at "WK"
    refine rw_inSg ?_
    rw [digit_in hs]
    refine ⟨rfl, ?_⟩
    rw [List.replicate_succ', List.map_append]
    rfl
  rintro acc m' ⟨rfl, rfl⟩
  walk_at "WK"
  refine cw_all rfl (one_mk (ls_py ⟨_, rfl, ?_⟩))
  have e : (List.replicate (signs (txN v)).length true).all id = true := List.all_eq_true.mpr fun b hb => by rw [List.eq_of_mem_replicate hb]; rfl
  dsimp only
  rw [e]
  walk_at "WK"
  refine ⟨fun z => (nomatch z), fun _ => ?_⟩
  walk_at "WK"
  refine ⟨shp_str (txN_ok v), shp_str (by decide +kernel), ?_⟩
  rw [eqv_strD, txN_zero]
  have rest : Wp c (tChain (rI0 fun i j => V.bl (decide (i ≤ j))) (rI0 fun i j => V.bl (decide (i ≤ j))) (tVar 1) (tCB rINTS (tCons (tVar 0) tNil)) (tVar 2)) ⟨[.val (.py (.str (txN v))), .val (.py (.int lo)), .val (.py (.int hh)), .emp], m'⟩ fun d n => frz d = .py (.bool (decide (lo ≤ v ∧ (v : Int) ≤ hh))) ∧ n = m' := by
    walk_at "WK"
    refine cw_intS (one_mk ⟨_, _, rfl, txN_int (Nat.lt_of_lt_of_le hv (by decide)), Nat.le_trans l2 (by decide), ?_⟩)
    walk_at "WK"
    refine ⟨fun q1 => ?_, fun q1 => ?_⟩
    · have q1' := of_decide_eq_true q1
      walk_at "WK"
      refine ⟨?_, rfl⟩
      show D.py (.bool (decide ((v : Int) ≤ hh))) = _
      simp [q1']
    · have q1' := of_decide_eq_false q1
      refine ⟨?_, rfl⟩
      show D.py (.bool false) = _
      simp [q1']
  refine ⟨fun q0 => ?_, fun q0 => ?_⟩
  · have q0' := of_decide_eq_false q0
    obtain ⟨ch, r, e1, h1, h2, h3⟩ := num_head v
    walk_at "WK"
    refine ⟨l3, ch, atI_nat (by rw [txN_cps, e1]; rfl), ?_⟩
    walk_at "WK"
    have ok1 : PyData.strOk ⟨#[ch]⟩ = true := by
      unfold PyData.strOk
      rw [Array.all_eq_true_iff_forall_mem]
      intro x hx
      have hx' : x = ch := by simpa using hx
      exact decide_eq_true (by omega)
    refine ⟨shp_str ok1, shp_str (by decide +kernel), ?_⟩
    have ne : ¬ ((⟨#[ch]⟩ : Str) = Str.ofString "0") := fun z => by
      have e2 : (⟨#[ch]⟩ : Str).cps.toList = (Str.ofString "0").cps.toList := by rw [z]
      have e3 : [ch] = [48] := e2.trans (by decide +kernel)
      exact q0' (h3 (List.cons.inj e3).1)
    rw [eqv_strD, decide_eq_false ne]
    walk_at "WK"
    refine ⟨fun _ => ?_, fun z => (nomatch z)⟩
    exact rest
  · walk_at "WK"
    refine ⟨fun _ => ?_, fun z => (nomatch z)⟩
    exact rest
end
end Wx

/-! ### part T2 -/
set_option Elab.async false
set_option linter.all false
set_option maxRecDepth 100000
set_option maxHeartbeats 1000000
set_option autoImplicit false
namespace Wx
open PySem L2
theorem shp_sg {l : List Nat} (h : ∀ x ∈ l, x < 1000) : SeqAt.shaped (.str (sg l)) = true := shp_str (sg_ok h)
theorem shp_wd (w : Wd) : SeqAt.shaped (.str w.tx) = true := shp_str (wd_ok w)
theorem eqv_sg (a b : List Nat) : PyData.eqv (.str (sg a)) (.str (sg b)) = decide (a = b) := by
  rw [eqv_strD, decide_eq_decide]
  exact ⟨sg_inj, fun z => by rw [z]⟩
theorem txt_m : Str.ofString "-" = sg [45] := by decide +kernel
theorem txt_p : Str.ofString "p" = sg [112] := by decide +kernel
theorem txt_r : Str.ofString "r" = sg [114] := by decide +kernel
theorem txt_d : Str.ofString "d" = sg [100] := by decide +kernel

section
variable {P : Program} {w : World} {K : PySem.W.Frag} {mg : Str → Option Value} {base : Heap} {f C : Addr} {fd : FuncData}
abbrev sp_is_constant_word (K : PySem.W.Frag) : Sp := SpX (ι := Int) K (fun v => [.py (.str (Wd.c v).tx)]) (fun v _ => okWd (.c v)) fun x n d m => d = .py (.bool true) ∧ m = n
theorem ln_is_constant_word (v : Int) : [D.py (.str (Wd.c v).tx)].length = 1 := rfl
theorem nm_is_constant_word (v : Int) : [D.py (.str (Wd.c v).tx)].all D.nm = true := rfl
theorem sc_is_constant_word : FnScope ["word"] ["word"] (defScope (top 26)) := ⟨rfl, rfl, rfl, by decide +kernel, rfl, by decide +kernel, by decide +kernel⟩
theorem ok_is_constant_word (F : FnP K "is_constant_word" "is_constant_word" (top 26) f fd) (S_is_decimal : Std P w K mg base 1 "is_decimal" ["signs", "low", "high"] (sp_is_decimal K)) (i_GREATEST : GInt mg "GREATEST" (10 ^ 30)) : FnOk P w K mg base CX0 2 f fd ["word"] (sp_is_constant_word K) := by
  refine F.ok sc_is_constant_word (sx_len ln_is_constant_word) (fun cdv A outer s H vs Q E hr h => ?_)
  have nd := sc_is_constant_word.nd
  refine ⟨_, PSs.nox (pss_one (ps_ret (pe_ifExp (pt_cmpR (eqK (K := K) rfl (room64 hr)) (pe_slice (slK (K := K) rfl) (pv 0) po_none (po_some (pe_int))) (pe_str) (nomark _)) (pe_std S_is_decimal hr rfl (pa_cons (pe_slice (slK (K := K) rfl) (pv 0) (po_some (pe_int)) po_none) (pa_cons (pe_int) (pa_cons (pe_gint i_GREATEST rfl) (pa_nil))))) (pe_std S_is_decimal hr rfl (pa_cons (pv 0) (pa_cons (pe_int) (pa_cons (pe_gint i_GREATEST rfl) (pa_nil)))))))), ?_⟩
  refine body_x nm_is_constant_word ?_ vs H Q E h
  clear h hr
  intro c n x hK hp
  (subst hK)
  try clear S_is_decimal i_GREATEST F
  have hx : -(10 ^ 30) ≤ x ∧ x ≤ 10 ^ 30 := hp
  have hw := wd_len (w := .c x) hp
  have l3 : (Wd.c x).tx.length ≤ sizeLine := by unfold Wd.tx; rw [sg_len]; exact Nat.le_trans hw.2 (by rw [sizeLine_eq]; decide)
  walk_at "WK"
  refine ⟨l3, ?_⟩
  by_cases hn : x < 0
  · have e : (Wd.c x).tx.cps.toList = 45 :: TL.numL x.natAbs := by
      show (Wd.c x).sg = _
      rw [wd_c, if_pos hn]
    rw [cut_head _ e, txt_m]
    walk_at "WK"
    refine ⟨fun _ => ?_, fun z => absurd z (by decide)⟩
    walk_at "WK"
    refine ⟨l3, ?_⟩
    rw [cut_tail _ e, ← txN_sg]
    walk_at "WK"
    refine ⟨(x.natAbs, 1, 10 ^ 30), rfl, by show x.natAbs < 10 ^ 31; omega, ?_⟩
    rintro d m ⟨rfl, rfl⟩
    refine ⟨rfl, ?_, rfl⟩
    show D.py (.bool (decide ((1 : Int) ≤ (x.natAbs : Int) ∧ (x.natAbs : Int) ≤ 10 ^ 30))) = _
    rw [decide_eq_true (by omega)]
  · obtain ⟨ch, r, e1, h1, h2, _⟩ := num_head x.natAbs
    have e0 : (Wd.c x).sg = TL.numL x.natAbs := by rw [wd_c, if_neg hn]
    have e : (Wd.c x).tx.cps.toList = ch :: r := by
      show (Wd.c x).sg = _
      rw [e0, e1]
    rw [cut_head _ e, txt_m]
    walk_at "WK"
    refine ⟨shp_sg (by simp; omega), shp_sg (by simp), ?_⟩
    rw [eqv_sg, decide_eq_false (fun z => by have := (List.cons.inj z).1; omega)]
    refine ⟨fun z => (nomatch z), fun _ => ?_⟩
    walk_at "WK"
    refine ⟨(x.natAbs, 0, 10 ^ 30), ?_, by show x.natAbs < 10 ^ 31; omega, ?_⟩
    · show [D.py (.str (sg (Wd.c x).sg)), _, _] = [D.py (.str (txN x.natAbs)), _, _]
      rw [e0, ← txN_sg]
      rfl
    rintro d m ⟨rfl, rfl⟩
    refine ⟨rfl, ?_, rfl⟩
    show D.py (.bool (decide ((0 : Int) ≤ (x.natAbs : Int) ∧ (x.natAbs : Int) ≤ 10 ^ 30))) = _
    rw [decide_eq_true (by omega)]
abbrev sp_is_instruction (K : PySem.W.Frag) : Sp := SpX (ι := Wd) K (fun w => [.py (.str w.tx)]) (fun w _ => okWd w) fun x n d m => d = .py (.bool true) ∧ m = n
theorem ln_is_instruction (w : Wd) : [D.py (.str w.tx)].length = 1 := rfl
theorem nm_is_instruction (w : Wd) : [D.py (.str w.tx)].all D.nm = true := rfl
theorem sc_is_instruction : FnScope ["word"] ["word"] (defScope (top 27)) := ⟨rfl, rfl, rfl, by decide +kernel, rfl, by decide +kernel, by decide +kernel⟩
theorem ok_is_instruction (F : FnP K "is_instruction" "is_instruction" (top 27) f fd) (S_is_decimal : Std P w K mg base 1 "is_decimal" ["signs", "low", "high"] (sp_is_decimal K)) (i_MOST_HIGH : GInt mg "MOST_HIGH" 100) (S_is_constant_word : Std P w K mg base 2 "is_constant_word" ["word"] (sp_is_constant_word K)) : FnOk P w K mg base CX0 3 f fd ["word"] (sp_is_instruction K) := by
  refine F.ok sc_is_instruction (sx_len ln_is_instruction) (fun cdv A outer s H vs Q E hr h => ?_)
  have nd := sc_is_instruction.nd
  refine ⟨_, PSs.nox (pss_cons (ps_if (pt_cmpR (eqK (K := K) rfl (room64 hr)) (pe_slice (slK (K := K) rfl) (pv 0) po_none (po_some (pe_int))) (pe_str) (nomark _)) (pss_one (ps_ret (pe_std S_is_decimal (hr.mono (by decide)) rfl (pa_cons (pe_slice (slK (K := K) rfl) (pv 0) (po_some (pe_int)) po_none) (pa_cons (pe_int) (pa_cons (pe_op op_sub (pe_gint i_MOST_HIGH rfl) (pe_int)) (pa_nil))))))) (pss_nil))
 (pss_cons (ps_if (pt_cmpR (eqK (K := K) rfl (room64 hr)) (pe_slice (slK (K := K) rfl) (pv 0) po_none (po_some (pe_int))) (pe_str) (nomark _)) (pss_one (ps_ret (pe_std S_is_decimal (hr.mono (by decide)) rfl (pa_cons (pe_slice (slK (K := K) rfl) (pv 0) (po_some (pe_int)) po_none) (pa_cons (pe_int) (pa_cons (pe_op op_sub (pe_gint i_MOST_HIGH rfl) (pe_int)) (pa_nil))))))) (pss_nil))
 (pss_one (ps_ret (pe_or (pe_cmpR (eqK (K := K) rfl (room64 hr)) (pv 0) (pe_str) (nomark _)) (pe_one (pe_std S_is_constant_word hr rfl (pa_cons (pv 0) (pa_nil))))))))), ?_⟩
  refine body_x nm_is_instruction ?_ vs H Q E h
  clear h hr
  intro c n x hK hp
  (subst hK)
  try clear S_is_decimal i_MOST_HIGH S_is_constant_word F
  have hw := wd_len hp
  have l3 : x.tx.length ≤ sizeLine := by unfold Wd.tx; rw [sg_len]; exact Nat.le_trans hw.2 (by rw [sizeLine_eq]; decide)
  cases x with
  | p v =>
    have hv : v ≤ 98 := hp
    have e : (Wd.p v).tx.cps.toList = 112 :: TL.numL v := rfl
    walk_at "WK"
    refine ⟨l3, ?_⟩
    rw [cut_head _ e, txt_p]
    walk_at "WK"
    walk_at "WK"
    refine ⟨fun _ => ?_, fun z => absurd z (by decide)⟩
    walk_at "WK"
    refine ⟨l3, ?_⟩
    rw [cut_tail _ e, ← txN_sg]
    walk_at "WK"
    refine ⟨(v, 0, 100 - 2), rfl, by show v < 10 ^ 31; omega, ?_⟩
    rintro d m ⟨rfl, rfl⟩
    refine ⟨rfl, ?_, rfl⟩
    show D.py (.bool (decide ((0 : Int) ≤ (v : Int) ∧ (v : Int) ≤ 100 - 2))) = _
    rw [decide_eq_true (by omega)]
  | r v =>
    have hv : 1 ≤ v ∧ v ≤ 99 := hp
    have e : (Wd.r v).tx.cps.toList = 114 :: TL.numL v := rfl
    walk_at "WK"
    refine ⟨l3, ?_⟩
    rw [cut_head _ e, txt_p]
    walk_at "WK"
    walk_at "WK"
    refine ⟨fun z => absurd z (by decide), fun _ => ?_⟩
    walk_at "WK"
    refine ⟨l3, ?_⟩
    rw [cut_head _ e, txt_r]
    walk_at "WK"
    walk_at "WK"
    refine ⟨fun _ => ?_, fun z => absurd z (by decide)⟩
    walk_at "WK"
    refine ⟨l3, ?_⟩
    rw [cut_tail _ e, ← txN_sg]
    walk_at "WK"
    refine ⟨(v, 1, 100 - 1), rfl, by show v < 10 ^ 31; omega, ?_⟩
    rintro d m ⟨rfl, rfl⟩
    refine ⟨rfl, ?_, rfl⟩
    show D.py (.bool (decide ((1 : Int) ≤ (v : Int) ∧ (v : Int) ≤ 100 - 1))) = _
    rw [decide_eq_true (by omega)]
  | d =>
    have e : Wd.d.tx.cps.toList = 100 :: [] := rfl
    walk_at "WK"
    refine ⟨l3, ?_⟩
    rw [cut_head _ e, txt_p]
    walk_at "WK"
    walk_at "WK"
    refine ⟨fun z => absurd z (by decide), fun _ => ?_⟩
    walk_at "WK"
    refine ⟨l3, ?_⟩
    rw [cut_head _ e, txt_r]
    walk_at "WK"
    walk_at "WK"
    refine ⟨fun z => absurd z (by decide), fun _ => ?_⟩
    walk_at "WK"
    refine ⟨fun z => absurd z (by decide), fun _ => ?_⟩
    exact ⟨rfl, rfl⟩
  | c v =>
    have hv : -(10 ^ 30) ≤ v ∧ v ≤ 10 ^ 30 := hp
    obtain ⟨ch, r, e, h1, h2⟩ : ∃ ch r, (Wd.c v).sg = ch :: r ∧ 45 ≤ ch ∧ ch ≤ 57 := by
      rw [wd_c]
      split
      · exact ⟨45, _, rfl, by decide, by decide⟩
      · obtain ⟨ch, r, e1, h1, h2, _⟩ := num_head v.natAbs
        exact ⟨ch, r, e1, by omega, h2⟩
    have e' : (Wd.c v).tx.cps.toList = ch :: r := e
    walk_at "WK"
    refine ⟨l3, ?_⟩
    rw [cut_head _ e', txt_p]
    walk_at "WK"
    refine ⟨shp_sg (by simp; omega), shp_sg (by simp), ?_⟩
    rw [eqv_sg, decide_eq_false (fun z => by have := (List.cons.inj z).1; omega)]
    walk_at "WK"
    refine ⟨fun z => (nomatch z), fun _ => ?_⟩
    walk_at "WK"
    refine ⟨l3, ?_⟩
    rw [cut_head _ e', txt_r]
    walk_at "WK"
    refine ⟨shp_sg (by simp; omega), shp_sg (by simp), ?_⟩
    rw [eqv_sg, decide_eq_false (fun z => by have := (List.cons.inj z).1; omega)]
    walk_at "WK"
    refine ⟨fun z => (nomatch z), fun _ => ?_⟩
    walk_at "WK"
    refine ⟨shp_wd (.c v), shp_str (by decide +kernel), ?_⟩
    rw [txt_d, show (Wd.c v).tx = sg (Wd.c v).sg from rfl, eqv_sg, decide_eq_false (fun z => by rw [e] at z; have := (List.cons.inj z).1; omega)]
    walk_at "WK"
    refine ⟨fun _ => ?_, fun z => (nomatch z)⟩
    walk_at "WK"
    refine ⟨v, rfl, hp, ?_⟩
    rintro d m ⟨rfl, rfl⟩
    exact ⟨rfl, rfl, rfl⟩
end
end Wx

/-! ### part T4 -/
set_option Elab.async false
set_option linter.all false
set_option maxRecDepth 100000
set_option maxHeartbeats 1000000
set_option autoImplicit false
/-! enumerate of a list. -/
namespace Wx
open PySem L2
section
variable {c : Cy} {sl : List Slo} {nn : Nat} {ta : TA} {K : PySem.W.Frag} {m : Bool} {Θ : List D → Nat → Prop}
theorem Da.lst_st {S : Addr → Prop} {H : Hp} {v : V} {M : Addr → Prop} {ds : List PyData} (hM : ∀ a, M a → S a) (x : Da K S H v (.list ds)) : ∃ a xs, v = .ref a ∧ (∀ H', Kept M H H' → SqL K H' a xs) ∧ DaL K S H xs ds := by
  cases x with
  | lst na r t => exact ⟨_, _, rfl, fun H' kk => .inl ((kk.mono hM).rd na r), t⟩
  | lstK r t => exact ⟨_, _, rfl, fun H' _ => r H', t⟩
theorem wi_enumL (hK : K = c.K) (h : Wa c ta ⟨sl, nn⟩ fun ds n => One ds fun d => ∃ xs, d = .py (.list xs) ∧ Θ (enumD xs) n) : Wi c m (iEnum K ta) ⟨sl, nn⟩ Θ := ⟨fun σ A H o R k => by
  subst hK
  refine h.run σ A H o _ fun vs H1 ds n p e1 g1 x => ?_
  obtain ⟨v, d, rfl, x1, xs, rfl, q⟩ := one_of p x
  obtain ⟨a, us, rfl, s1, t1⟩ := Da.lst_st (M := Mm c m σ ⟨sl, nn⟩) (fun a z => Mm.sub o a z) x1
  have lu := t1.len
  refine ⟨a, us, rfl, s1 H1 Kept.refl, k _ H1 _ n q e1 g1 ⟨fun H' i kk hi => ?_, fun H' i kk hi => ?_, fun H' i z H'' kk hi y => ?_⟩⟩
  · rw [enumD_len] at hi
    exact ⟨us, us[i]'(by omega), s1 H' kk, List.getElem?_eq_getElem _⟩
  · rw [enumD_len] at hi
    exact ⟨us, s1 H' kk, by omega⟩
  · rw [enumD_len] at hi
    obtain ⟨T, x', rfl, hT, rfl, z1⟩ := y
    obtain ⟨p1, h1, d1⟩ := t1.got (z1 us (s1 H' kk))
    refine ⟨.py (.tuple [.int (i : Int), p1]), by rw [enumD_get, h1]; rfl, .inr ⟨T, _, hT, rfl⟩, fun B w w2 _ => ?_⟩
    have kT : Kept B H' (upd H' T (.tup [.int (i : Nat), x'])) := fun b u nb q => by rw [upd_ne (ne_of_none q hT)]; exact q
    have e1 : Da c.K B H' x' p1 := Da.to (kk.mono fun a z => Mm.sub o a z) w d1
    exact .tup (fun z => w2 T z hT) (.inl upd_same) (.cons (.int _) (.cons (e1.keep kT) .nil))⟩
theorem enumLK {X : Cx} {e : Expr} {p pos tpos : Pos} {elts : List Expr} {kk : Nat} (hK : X.K = K) (hg : Gl X "enumerate") (hm : X.mg "enumerate" = none) (ha : PA X [e] ta) (hs : starEach [e] X.env = [(false, eval e X.env)] := by rfl) :
    PI X (.Tuple elts kk tpos) (.Call (.Name "enumerate" p) [e] [] pos) (iEnum K ta) := hK ▸ pi_enum hg hm ha hs
end
section
variable {c : Cy} {d : D} {e : En} {Φ : En → Prop} {js : List Nat}
theorem wg_quad {K : PySem.W.Frag} {t1 t2 t3 t4 : TG} (hK : K = c.K) (h : ∃ p q r s, d = .py (.tuple [p, q, r, s]) ∧ Wg c t1 js (.py p) e fun e1 => Wg c t2 js (.py q) e1 fun e2 => Wg c t3 js (.py r) e2 fun e3 => Wg c t4 js (.py s) e3 Φ) : Wg c (gTup K 4 (gCons t1 (gCons t2 (gCons t3 (gCons t4 gNil))))) js d e Φ := ⟨fun σ A H v o x Q k => by
  subst hK
  obtain ⟨p, q, r, s, rfl, h⟩ := h
  obtain ⟨a, xs, rfl, hs, t⟩ := Da.tuple_at x
  cases t with
  | cons y1 t =>
    cases t with
    | cons y2 t =>
      cases t with
      | cons y3 t =>
        cases t with
        | cons y4 t =>
          cases t
          refine ⟨a, _, rfl, hs, rfl, _, _, rfl, h.run σ A H _ o y1 _ fun σ1 e1 h1 o1 w1 u1 => ⟨_, _, rfl, h1.run σ1 A H _ o1 y2 _ fun σ2 e2 h2 o2 w2 u2 => ⟨_, _, rfl, h2.run σ2 A H _ o2 y3 _ fun σ3 e3 h3 o3 w3 u3 => ⟨_, _, rfl, h3.run σ3 A H _ o3 y4 _ fun σ4 e4 h4 o4 w4 u4 => ⟨rfl, k σ4 e4 h4 o4 (((w1.trans w2).trans w3).trans w4) fun b z => u1 b (u2 b (u3 b (u4 b z)))⟩⟩⟩⟩⟩⟩
end
section
variable {c : Cy} {d : D} {e : En} {Φ : En → Prop} {js : List Nat}
theorem wg_trip {K : PySem.W.Frag} {t1 t2 t3 : TG} (hK : K = c.K) (h : ∃ p q r, d = .py (.tuple [p, q, r]) ∧ Wg c t1 js (.py p) e fun e1 => Wg c t2 js (.py q) e1 fun e2 => Wg c t3 js (.py r) e2 Φ) : Wg c (gTup K 3 (gCons t1 (gCons t2 (gCons t3 gNil)))) js d e Φ := ⟨fun σ A H v o x Q k => by
  subst hK
  obtain ⟨p, q, r, rfl, h⟩ := h
  obtain ⟨a, xs, rfl, hs, t⟩ := Da.tuple_at x
  cases t with
  | cons y1 t =>
    cases t with
    | cons y2 t =>
      cases t with
      | cons y3 t =>
        cases t
        refine ⟨a, _, rfl, hs, rfl, _, _, rfl, h.run σ A H _ o y1 _ fun σ1 e1 h1 o1 w1 u1 => ⟨_, _, rfl, h1.run σ1 A H _ o1 y2 _ fun σ2 e2 h2 o2 w2 u2 => ⟨_, _, rfl, h2.run σ2 A H _ o2 y3 _ fun σ3 e3 h3 o3 w3 u3 => ⟨rfl, k σ3 e3 h3 o3 ((w1.trans w2).trans w3) fun b z => u1 b (u2 b (u3 b z))⟩⟩⟩⟩⟩
end
end Wx

/-! ### part U0 -/
set_option Elab.async false
set_option linter.all false
set_option maxRecDepth 100000
set_option maxHeartbeats 1000000
set_option autoImplicit false
/-! Programs as trees; their words. -/
namespace Wx
open PySem L2
/-- a sequence of nodes -/
inductive Ns where
  | nil
  | dow (w : Wd) (r : Ns)
  | rep (n : Nat) (b r : Ns)
  | cho (a b r : Ns)
deriving DecidableEq
inductive Tk where
  | w (w : Wd)
  | op
  | cl (n : Nat)
  | bo
  | bi
  | bc
deriving DecidableEq
def Tk.sg : Tk → List Nat
  | .w v => v.sg
  | .op => [40]
  | .cl n => 41 :: TL.numL n
  | .bo => [123]
  | .bi => [124]
  | .bc => [125]
def Tk.tx (t : Tk) : Str := Wx.sg t.sg
def okTk : Tk → Prop
  | .w w => okWd w
  | .cl n => 2 ≤ n ∧ n ≤ 10 ^ 30
  | _ => True
def toks : Ns → List Tk
  | .nil => []
  | .dow w r => .w w :: toks r
  | .rep n b r => .op :: (toks b ++ .cl n :: toks r)
  | .cho a b r => .bo :: (toks a ++ .bi :: (toks b ++ .bc :: toks r))
/-- the number of words -/
def tkN : Ns → Nat
  | .nil => 0
  | .dow _ r => 1 + tkN r
  | .rep _ b r => 2 + tkN b + tkN r
  | .cho a b r => 3 + tkN a + tkN b + tkN r
theorem toks_len : ∀ ns, (toks ns).length = tkN ns
  | .nil => rfl
  | .dow w r => by show (toks r).length + 1 = _; rw [toks_len r]; show _ = 1 + tkN r; omega
  | .rep n b r => by
    show (toks b ++ .cl n :: toks r).length + 1 = 2 + tkN b + tkN r
    rw [List.length_append, List.length_cons, toks_len b, toks_len r]; omega
  | .cho a b r => by
    show (toks a ++ .bi :: (toks b ++ .bc :: toks r)).length + 1 = 3 + tkN a + tkN b + tkN r
    rw [List.length_append, List.length_cons, List.length_append, List.length_cons, toks_len a, toks_len b, toks_len r]; omega
theorem wd_cons0 {w : Wd} : ∃ c r, w.sg = c :: r ∧ 45 ≤ c ∧ c ≤ 114 := by
  cases q : w.sg with
  | nil =>
    cases w with
    | d => cases q
    | p n => cases q
    | r n => cases q
    | c v =>
      rw [wd_c] at q
      split at q
      · cases q
      · exact absurd q (TL.numL_ne _)
  | cons c r => exact ⟨c, r, rfl, (wd_sign (w := w) (x := c) (by rw [q]; exact List.mem_cons_self)).1, (wd_sign (w := w) (x := c) (by rw [q]; exact List.mem_cons_self)).2⟩
theorem tk_sign {t : Tk} {x : Nat} (h : x ∈ t.sg) : 40 ≤ x ∧ x ≤ 125 := by
  cases t with
  | w w => have := wd_sign (w := w) (x := x) h; omega
  | cl n =>
    rcases List.mem_cons.mp h with h | h
    · omega
    · have := num_sign h; omega
  | op => have := List.mem_singleton.mp (show x ∈ [40] from h); omega
  | bo => have := List.mem_singleton.mp (show x ∈ [123] from h); omega
  | bi => have := List.mem_singleton.mp (show x ∈ [124] from h); omega
  | bc => have := List.mem_singleton.mp (show x ∈ [125] from h); omega
/-- the first sign tells the kind -/
theorem tk_cons (t : Tk) : ∃ c r, t.sg = c :: r ∧ match t with
    | .w _ => 45 ≤ c ∧ c ≤ 114
    | .op => c = 40 ∧ r = []
    | .cl n => c = 41 ∧ r = TL.numL n
    | .bo => c = 123 ∧ r = []
    | .bi => c = 124 ∧ r = []
    | .bc => c = 125 ∧ r = [] := by
  cases t with
  | w w => exact wd_cons0
  | cl n => exact ⟨41, _, rfl, rfl, rfl⟩
  | op => exact ⟨40, [], rfl, rfl, rfl⟩
  | bo => exact ⟨123, [], rfl, rfl, rfl⟩
  | bi => exact ⟨124, [], rfl, rfl, rfl⟩
  | bc => exact ⟨125, [], rfl, rfl, rfl⟩
theorem tk_len {t : Tk} (h : okTk t) : 1 ≤ t.sg.length ∧ t.sg.length ≤ 33 := by
  cases t with
  | w w => exact wd_len h
  | cl n =>
    have h' : 2 ≤ n ∧ n ≤ 10 ^ 30 := h
    have b : n < 10 ^ 31 := by omega
    have := TL.numL_len (k := 31) (by decide) b
    show 1 ≤ _ + 1 ∧ _ + 1 ≤ 33
    omega
  | op => exact ⟨Nat.le_refl _, by show 1 ≤ 33; decide⟩
  | bo => exact ⟨Nat.le_refl _, by show 1 ≤ 33; decide⟩
  | bi => exact ⟨Nat.le_refl _, by show 1 ≤ 33; decide⟩
  | bc => exact ⟨Nat.le_refl _, by show 1 ≤ 33; decide⟩
theorem tk_ok (t : Tk) : PyData.strOk t.tx = true := sg_ok fun x hx => by have := tk_sign hx; omega
theorem tk_tx_eq (t : Tk) (l : List Nat) : decide (t.tx = sg l) = decide (t.sg = l) := by
  rw [decide_eq_decide]
  exact ⟨fun h => sg_inj h, fun h => by unfold Tk.tx; rw [h]⟩
/-! ## what a program text asks of a tree -/
def dpN : Ns → Nat
  | .nil => 0
  | .dow _ r => dpN r
  | .rep _ b r => max (1 + dpN b) (dpN r)
  | .cho a b r => max (1 + max (dpN a) (dpN b)) (dpN r)
def plainN : Ns → Bool
  | .nil => true
  | .dow _ r => plainN r
  | .rep _ b r => plainN b && plainN r
  | .cho _ _ _ => false
/-! ## measures -/
def mW : Wd → Int × Int × Int
  | .d => (1, 0, -1)
  | .p n => ((n : Int) + 1, 1, 1)
  | .r n => ((n : Int) + 1, 0, 0)
  | .c _ => (0, 1, 1)
def mxI (i j : Int) : Int := if j > i then j else i
def joinM (a b : Int × Int × Int) : Int × Int × Int := (mxI a.1 (b.1 - a.2.2), mxI a.2.1 (a.2.2 + b.2.1), a.2.2 + b.2.2)
def repM (a : Int × Int × Int) (n : Int) : Int × Int × Int := (a.1 + (n - 1) * mxI 0 (-a.2.2), a.2.1 + (n - 1) * mxI 0 a.2.2, n * a.2.2)
def choM (a b : Int × Int × Int) : Int × Int × Int := (mxI a.1 b.1, mxI a.2.1 b.2.1, a.2.2)
def mA (m : Int × Int × Int) : Ns → Int × Int × Int
  | .nil => m
  | .dow w r => mA (joinM m (mW w)) r
  | .rep n b r => mA (joinM m (repM (mA (0, 0, 0) b) n)) r
  | .cho a b r => mA (joinM m (choM (mA (0, 0, 0) a) (mA (0, 0, 0) b))) r
def mN (ns : Ns) : Int × Int × Int := mA (0, 0, 0) ns
/-- the growth alone -/
def gN : Ns → Int
  | .nil => 0
  | .dow w r => (mW w).2.2 + gN r
  | .rep n b r => (n : Int) * gN b + gN r
  | .cho a _ r => gN a + gN r
theorem mA_g : ∀ (ns : Ns) (m : Int × Int × Int), (mA m ns).2.2 = m.2.2 + gN ns
  | .nil, m => by show m.2.2 = m.2.2 + 0; omega
  | .dow w r, m => by
    show (mA (joinM m (mW w)) r).2.2 = _
    rw [mA_g r]
    show m.2.2 + (mW w).2.2 + gN r = m.2.2 + ((mW w).2.2 + gN r)
    omega
  | .rep n b r, m => by
    show (mA (joinM m (repM (mA (0, 0, 0) b) n)) r).2.2 = _
    rw [mA_g r]
    show m.2.2 + n * (mA (0, 0, 0) b).2.2 + gN r = m.2.2 + (n * gN b + gN r)
    rw [mA_g b]
    show m.2.2 + n * (0 + gN b) + gN r = _
    rw [Int.zero_add]
    omega
  | .cho a b r, m => by
    show (mA (joinM m (choM (mA (0, 0, 0) a) (mA (0, 0, 0) b))) r).2.2 = _
    rw [mA_g r]
    show m.2.2 + (mA (0, 0, 0) a).2.2 + gN r = m.2.2 + (gN a + gN r)
    rw [mA_g a]
    show m.2.2 + (0 + gN a) + gN r = _
    omega
/-- a program's tree: what its text may be -/
def wfN : Ns → Prop
  | .nil => True
  | .dow w r => okWd w ∧ wfN r
  | .rep n b r => (2 ≤ n ∧ n ≤ 10 ^ 30 ∧ b ≠ .nil ∧ (mN b).1 + (mN b).2.1 ≤ 100 ∧ (repM (mN b) n).1 + (repM (mN b) n).2.1 ≤ 100) ∧ wfN b ∧ wfN r
  | .cho a b r => (gN a = gN b ∧ (mN a).1 + (mN a).2.1 ≤ 100 ∧ (mN b).1 + (mN b).2.1 ≤ 100) ∧ wfN a ∧ wfN b ∧ wfN r
theorem wf_toks : ∀ {ns : Ns}, wfN ns → ∀ t ∈ toks ns, okTk t
  | .nil, _, t, h => by cases h
  | .dow w r, h, t, ht => by
    rcases List.mem_cons.mp ht with rfl | ht
    · exact h.1
    · exact wf_toks h.2 t ht
  | .rep n b r, h, t, ht => by
    rcases List.mem_cons.mp ht with rfl | ht
    · trivial
    · rcases List.mem_append.mp ht with ht | ht
      · exact wf_toks h.2.1 t ht
      · rcases List.mem_cons.mp ht with rfl | ht
        · exact ⟨h.1.1, h.1.2.1⟩
        · exact wf_toks h.2.2 t ht
  | .cho a b r, h, t, ht => by
    rcases List.mem_cons.mp ht with rfl | ht
    · trivial
    · rcases List.mem_append.mp ht with ht | ht
      · exact wf_toks h.2.1 t ht
      · rcases List.mem_cons.mp ht with rfl | ht
        · trivial
        · rcases List.mem_append.mp ht with ht | ht
          · exact wf_toks h.2.2.1 t ht
          · rcases List.mem_cons.mp ht with rfl | ht
            · trivial
            · exact wf_toks h.2.2.2 t ht
end Wx

/-! ### part U1 -/
set_option Elab.async false
set_option linter.all false
set_option maxRecDepth 100000
set_option maxHeartbeats 1000000
set_option autoImplicit false
namespace Wx
open PySem L2
/-! ## split -/
def rSplit1 : V → List V → Hp → VK → Prop := fun x xs H Q => ∃ a b, x = .str a ∧ xs = [.str b] ∧ (b.length == 0) = false ∧ a.length + 2 ≤ sizeLine ∧ rNewStrs (Txt.split a b) H Q
theorem pe_splitS {X : Cx} {o e : Expr} {to te : TE} {apos pos : Pos} (ho : PE X o to) (he : PE X e te) (hs : starEach [e] X.env = [(false, eval e X.env)] := by rfl) (hbase : attributeBase o "split" X.env (eval o X.env) = eval o X.env := by rfl) (hline : (apos.endLine == pos.line) = true := by rfl) :
    PE X (.Call (.Attribute o "split" apos) [e] [] pos) (tM1 rSplit1 to te) := pe_split ho he hs hbase hline
theorem da_strs2 {K : PySem.W.Frag} {S : Addr → Prop} {H : Hp} : ∀ ys : List Str, DaL K S H (ys.map V.str) (ys.map PyData.str)
  | [] => .nil
  | y :: ys => .cons (.str y) (da_strs2 ys)
theorem wn_split {c : Cy} {sl : List Slo} {nn : Nat} {to te : TE} {Ψ : Ow → Nat → Prop} (h : Wp c to ⟨sl, nn⟩ fun d n => ∃ a, d = .py (.str a) ∧ Wp c te ⟨sl, n⟩ fun d2 m => ∃ b, d2 = .py (.str b) ∧ (b.length == 0) = false ∧ a.length + 2 ≤ sizeLine ∧ Ψ (.lst ((Txt.split a b).map PyData.str)) m) : Wn c (tM1 rSplit1 to te) ⟨sl, nn⟩ Ψ := ⟨fun σ A H o Q k => by
  refine h.run σ A H o _ fun v H1 d n p e1 g1 x => ?_
  obtain ⟨a, rfl, p⟩ := p
  cases Da.str_eq x
  refine ⟨⟨a, rfl⟩, p.run σ A H1 (o.keep e1 g1) _ fun w H2 d2 m q e2 g2 x2 => ?_⟩
  obtain ⟨b, rfl, hb, hz, q⟩ := q
  cases Da.str_eq x2
  refine ⟨a, b, rfl, rfl, hb, hz, fun p hp => ?_⟩
  exact k p _ _ m q ((e1.trans e2).trans (Ek.new hp)) (g2.new hp) (fresh_of (e1.trans e2) g2 hp) ⟨_, upd_same, da_strs2 _⟩⟩
/-! ## the text of words -/
def joinT (ts : List Tk) : Str := Txt.join (Str.ofString " ") (ts.map Tk.tx)
def ttx (ts : List Tk) : List PyData := ts.map fun t => .str t.tx
theorem ttx_len (ts : List Tk) : (ttx ts).length = ts.length := List.length_map _
theorem ttx_at {ts : List Tk} {i : Nat} {p : PyData} (h : (ttx ts)[i]? = some p) : ∃ t, ts[i]? = some t ∧ t ∈ ts ∧ p = .str t.tx := by
  unfold ttx at h
  rw [List.getElem?_map] at h
  cases q : ts[i]? with
  | none => rw [q] at h; cases h
  | some t => rw [q] at h; cases h; exact ⟨t, rfl, List.mem_of_getElem? q, rfl⟩
theorem ttx_item {ts : List Tk} {i : Nat} {d : D} (h : ((ttx ts).map D.py)[i]? = some d) : ∃ t, ts[i]? = some t ∧ t ∈ ts ∧ d = .py (.str t.tx) := by
  rw [List.getElem?_map] at h
  cases q : (ttx ts)[i]? with
  | none => rw [q] at h; cases h
  | some p =>
    obtain ⟨t, a, b, rfl⟩ := ttx_at q
    rw [q] at h
    cases h
    exact ⟨t, a, b, rfl⟩
theorem ttx_get {ts : List Tk} {i : Nat} {t : Tk} (h : ts[i]? = some t) : atI (ttx ts) (i : Int) = some (.str t.tx) := atI_nat (by unfold ttx; rw [List.getElem?_map, h] <;> rfl)
theorem split_joinT {ts : List Tk} (h : ts ≠ []) : Txt.split (joinT ts) (Str.ofString " ") = ts.map Tk.tx := by
  refine TL.split_join (s := 32) (S := []) (by decide +kernel) (by decide +kernel) (fun z => h (List.map_eq_nil_iff.mp z)) fun p hp => ?_
  obtain ⟨w, _, rfl⟩ := List.mem_map.mp hp
  intro hm
  have := tk_sign (t := w) (x := 32) hm
  omega
theorem join_sum (y : Str) : ∀ ps : List Str, (Str.join y ps).length ≤ (ps.map (·.length)).sum + ps.length * y.length
  | [] => Nat.zero_le _
  | [p] => by
    show p.length ≤ p.length + 0 + 1 * y.length
    omega
  | p :: q :: r => by
    have ih := join_sum y (q :: r)
    show (p ++ y ++ Str.join y (q :: r)).length ≤ _
    rw [PySem.Str.length_append, PySem.Str.length_append]
    simp only [List.map_cons, List.sum_cons, List.length_cons] at ih ⊢
    have : (r.length + 1 + 1) * y.length = (r.length + 1) * y.length + y.length := by rw [Nat.add_mul, Nat.one_mul]
    omega
theorem sumT {ts : List Tk} (h : ∀ t ∈ ts, okTk t) : ((ts.map Tk.tx).map (·.length)).sum ≤ 33 * ts.length := by
  induction ts with
  | nil => exact Nat.le_refl _
  | cons w ts ih =>
    have h1 := (tk_len (h w List.mem_cons_self)).2
    have h2 := ih fun x hx => h x (List.mem_cons_of_mem _ hx)
    simp only [List.map_cons, List.sum_cons, List.length_cons]
    have : w.tx.length = w.sg.length := sg_len _
    omega
theorem joinT_len {ts : List Tk} (h : ∀ t ∈ ts, okTk t) : (joinT ts).length ≤ 34 * ts.length := by
  have h1 := join_sum (Str.ofString " ") (ts.map Tk.tx)
  have h2 := sumT h
  have e : joinT ts = Str.join (Str.ofString " ") (ts.map Tk.tx) := TL.join_eq _ _
  rw [e]
  rw [show (Str.ofString " ").length = 1 by decide +kernel, List.length_map] at h1
  omega
theorem joinT_nil : joinT [] = Str.ofString "" := by decide +kernel
theorem joinT_ne {ts : List Tk} (h : ts ≠ []) : ¬ joinT ts = Str.ofString "" := fun e => by
  have h1 := split_joinT h
  rw [e] at h1
  cases ts with
  | nil => exact h rfl
  | cons w ts =>
    have h2 : Txt.split (Str.ofString "") (Str.ofString " ") = [Str.ofString ""] := by decide +kernel
    rw [h2, List.map_cons] at h1
    have h3 := (List.cons.inj h1).1
    have h4 : (Str.ofString "").cps.toList = w.sg := by rw [h3]; rfl
    obtain ⟨c, r, ec, _⟩ := tk_cons w
    rw [ec, show (Str.ofString "").cps.toList = [] by decide +kernel] at h4
    cases h4
theorem joinT_ok (ts : List Tk) : PyData.strOk (joinT ts) = true := by
  unfold PyData.strOk
  rw [Array.all_eq_true_iff_forall_mem]
  have e : joinT ts = Str.join (Str.ofString " ") (ts.map Tk.tx) := TL.join_eq _ _
  rw [e]
  have w : ∀ (l : List Tk) (ch : Nat), ch ∈ (Str.join (Str.ofString " ") (l.map Tk.tx)).cps.toList → ch < 1000 := fun l => by
    induction l with
    | nil => intro ch h; cases h
    | cons a l ih =>
      intro ch h
      cases l with
      | nil =>
        have := tk_sign (t := a) (x := ch) h
        omega
      | cons b l =>
        have h' : ch ∈ (a.tx ++ Str.ofString " " ++ Str.join (Str.ofString " ") ((b :: l).map Tk.tx)).cps.toList := h
        have app : ∀ x y : Str, (x ++ y).cps.toList = x.cps.toList ++ y.cps.toList := fun x y => by
          show (x.cps ++ y.cps).toList = _
          simp
        rw [app, app] at h'
        rcases List.mem_append.mp h' with h' | h'
        · rcases List.mem_append.mp h' with h' | h'
          · have := tk_sign (t := a) (x := ch) h'
            omega
          · have : ch = 32 := by
              have h2 : (Str.ofString " ").cps.toList = [32] := by decide +kernel
              rw [h2] at h'
              exact List.mem_singleton.mp h'
            omega
        · exact ih ch h'
  intro ch hc
  have := w ts ch (by simpa using hc)
  exact decide_eq_true (by omega)
section
variable {P : Program} {w : World} {K : PySem.W.Frag} {mg : Str → Option Value} {base : Heap} {f C : Addr} {fd : FuncData}
abbrev sp_words_of (K : PySem.W.Frag) : Sp := SpX (ι := List Tk) K (fun ts => [.py (.str (joinT ts))]) (fun ts _ => ts.length ≤ 1000 ∧ ∀ t ∈ ts, okTk t) fun ts n d m => d = .py (.list (ttx ts)) ∧ m = n
theorem ln_words_of (ts : List Tk) : [D.py (.str (joinT ts))].length = 1 := rfl
theorem nm_words_of (ts : List Tk) : [D.py (.str (joinT ts))].all D.nm = true := rfl
theorem sc_words_of : FnScope ["text"] ["text"] (defScope (top 29)) := ⟨rfl, rfl, rfl, by decide +kernel, rfl, by decide +kernel, by decide +kernel⟩
theorem ok_words_of (F : FnP K "words_of" "words_of" (top 29) f fd)  : FnOk P w K mg base CX0 1 f fd ["text"] (sp_words_of K) := by
  refine F.ok sc_words_of (sx_len ln_words_of) (fun cdv A outer s H vs Q E hr h => ?_)
  have nd := sc_words_of.nd
  refine ⟨_, PSs.nox (pss_one (ps_ret (pe_ifExp (pt_cmpR (neK (K := K) rfl (room64 hr)) (pv 0) (pe_str) (nomark _)) (pe_splitS (pv 0) (pe_str)) (pe_lst (pa_nil))))), ?_⟩
  refine body_x nm_words_of ?_ vs H Q E h
  clear h hr
  intro c n x hK hp
  (subst hK)
  try clear F
  obtain ⟨h1, h2⟩ : x.length ≤ 1000 ∧ ∀ t ∈ x, okTk t := hp
  walk_at "WK"
  refine ⟨shp_str (joinT_ok x), shp_str (by decide +kernel), ?_⟩
  rw [eqv_strD]
  by_cases e : x = []
  · subst e
    rw [decide_eq_true joinT_nil]
    refine ⟨fun z => (nomatch z), fun _ => ?_⟩
    walk_at "WK"
    first | exact ⟨rfl, rfl⟩ | exact rfl
  · rw [decide_eq_false (joinT_ne e)]
    refine ⟨fun _ => ?_, fun z => (nomatch z)⟩
    refine wp_new (wn_split ?_)
    walk_at "WK"
    refine ⟨_, rfl, ?_⟩
    walk_at "WK"
    have hl := joinT_len h2
    refine ⟨_, rfl, by decide +kernel, Nat.le_trans (show _ ≤ 34002 by omega) (by rw [sizeLine_eq]; decide), ?_⟩
    rw [split_joinT e, List.map_map]
    exact ⟨rfl, rfl⟩
theorem at0 {l : List Nat} {c : Nat} {r : List Nat} (h : l = c :: r) : atI l 0 = some c := by
  subst h
  exact atI_nat (show (c :: r)[0]? = some c from rfl)
abbrev t3 (m : Int × Int × Int) : PyData := .tuple [.int m.1, .int m.2.1, .int m.2.2]
abbrev sp_measure_of (K : PySem.W.Frag) : Sp := SpX (ι := Wd) K (fun w => [.py (.str w.tx)]) (fun w _ => okWd w) fun w n d m => d = .py (t3 (mW w)) ∧ m = n
theorem ln_measure_of (w : Wd) : [D.py (.str w.tx)].length = 1 := rfl
theorem nm_measure_of (w : Wd) : [D.py (.str w.tx)].all D.nm = true := rfl
theorem sc_measure_of : FnScope ["word"] ["word"] (defScope (top 28)) := ⟨rfl, rfl, rfl, by decide +kernel, rfl, by decide +kernel, by decide +kernel⟩
theorem ok_measure_of (F : FnP K "measure_of" "measure_of" (top 28) f fd) (g_int : mg "int" = none) : FnOk P w K mg base CX0 1 f fd ["word"] (sp_measure_of K) := by
  refine F.ok sc_measure_of (sx_len ln_measure_of) (fun cdv A outer s H vs Q E hr h => ?_)
  have nd := sc_measure_of.nd
  refine ⟨_, PSs.nox (pss_cons (ps_if (pt_cmpR (eqK (K := K) rfl (room64 hr)) (pe_ix (ixK (K := K) rfl) (pv 0) (pe_int) (fun _ _ => rfl)) (pe_str) (nomark _)) (pss_one (ps_ret (pe_tup (pa_cons (pe_op (addK (K := K) rfl) (pe_callTy callINTS rfl g_int bt_int (pa_cons (pe_slice (slK (K := K) rfl) (pv 0) (po_some (pe_int)) po_none) (pa_nil))) (pe_int)) (pa_cons (pe_int) (pa_cons (pe_int) (pa_nil))))))) (pss_nil))
 (pss_cons (ps_if (pt_cmpR (eqK (K := K) rfl (room64 hr)) (pe_ix (ixK (K := K) rfl) (pv 0) (pe_int) (fun _ _ => rfl)) (pe_str) (nomark _)) (pss_one (ps_ret (pe_tup (pa_cons (pe_op (addK (K := K) rfl) (pe_callTy callINTS rfl g_int bt_int (pa_cons (pe_slice (slK (K := K) rfl) (pv 0) (po_some (pe_int)) po_none) (pa_nil))) (pe_int)) (pa_cons (pe_int) (pa_cons (pe_int) (pa_nil))))))) (pss_nil))
 (pss_one (ps_ret (pe_ifExp (pt_cmpR (eqK (K := K) rfl (room64 hr)) (pv 0) (pe_str) (nomark _)) (pe_tup (pa_cons (pe_int) (pa_cons (pe_int) (pa_cons (pe_un un_neg (pe_int)) (pa_nil))))) (pe_tup (pa_cons (pe_int) (pa_cons (pe_int) (pa_cons (pe_int) (pa_nil)))))))))), ?_⟩
  refine body_x nm_measure_of ?_ vs H Q E h
  clear h hr
  intro c n x hK hp
  (subst hK)
  try clear g_int F
  have hw := wd_len hp
  have l3 : x.tx.length ≤ sizeLine := by unfold Wd.tx; rw [sg_len]; exact Nat.le_trans hw.2 (by rw [sizeLine_eq]; decide)
  cases x with
  | p v =>
    have hv : v ≤ 98 := hp
    have e : (Wd.p v).tx.cps.toList = 112 :: TL.numL v := rfl
    walk_at "WK"
    refine ⟨l3, 112, at0 rfl, ?_⟩
    walk_at "WK"
    refine ⟨fun _ => ?_, fun z => absurd z (by decide)⟩
    walk_at "WK"
    refine ⟨l3, ?_⟩
    rw [cut_tail _ e, ← txN_sg]
    walk_at "WK"
    refine cw_intS (one_mk ⟨_, _, rfl, txN_int (show v < 10 ^ 200 by omega), Nat.le_trans (txN_le (k := 31) (by decide) (show v < 10 ^ 31 by omega)) (by decide), ?_⟩)
    walk_at "WK"
    first | exact ⟨rfl, rfl⟩ | exact rfl
  | r v =>
    have hv : 1 ≤ v ∧ v ≤ 99 := hp
    have e : (Wd.r v).tx.cps.toList = 114 :: TL.numL v := rfl
    walk_at "WK"
    refine ⟨l3, 114, at0 rfl, ?_⟩
    walk_at "WK"
    refine ⟨fun z => absurd z (by decide), fun _ => ?_⟩
    walk_at "WK"
    refine ⟨l3, 114, at0 rfl, ?_⟩
    walk_at "WK"
    refine ⟨fun _ => ?_, fun z => absurd z (by decide)⟩
    walk_at "WK"
    refine ⟨l3, ?_⟩
    rw [cut_tail _ e, ← txN_sg]
    walk_at "WK"
    refine cw_intS (one_mk ⟨_, _, rfl, txN_int (show v < 10 ^ 200 by omega), Nat.le_trans (txN_le (k := 31) (by decide) (show v < 10 ^ 31 by omega)) (by decide), ?_⟩)
    walk_at "WK"
    first | exact ⟨rfl, rfl⟩ | exact rfl
  | d =>
    walk_at "WK"
    refine ⟨l3, 100, at0 rfl, ?_⟩
    walk_at "WK"
    refine ⟨fun z => absurd z (by decide), fun _ => ?_⟩
    walk_at "WK"
    refine ⟨l3, 100, at0 rfl, ?_⟩
    walk_at "WK"
    refine ⟨fun z => absurd z (by decide), fun _ => ?_⟩
    walk_at "WK"
    refine ⟨fun _ => ?_, fun z => absurd z (by decide)⟩
    walk_at "WK"
    first | exact ⟨rfl, rfl⟩ | exact rfl
  | c v =>
    have hv : -(10 ^ 30) ≤ v ∧ v ≤ 10 ^ 30 := hp
    obtain ⟨ch, r, e, h1, h2⟩ : ∃ ch r, (Wd.c v).sg = ch :: r ∧ 45 ≤ ch ∧ ch ≤ 57 := by
      rw [wd_c]
      split
      · exact ⟨45, _, rfl, by decide, by decide⟩
      · obtain ⟨ch, r, e1, h1, h2, _⟩ := num_head v.natAbs
        exact ⟨ch, r, e1, by omega, h2⟩
    have hat : atI (Wd.c v).tx.cps.toList 0 = some ch := at0 e
    walk_at "WK"
    refine ⟨l3, ch, hat, ?_⟩
    walk_at "WK"
    rw [txt_p]
    refine ⟨shp_sg (l := [ch]) (by simp; omega), shp_sg (by simp), ?_⟩
    rw [show (⟨#[ch]⟩ : Str) = sg [ch] from rfl, eqv_sg, decide_eq_false (fun z => by have := (List.cons.inj z).1; omega)]
    walk_at "WK"
    refine ⟨fun z => (nomatch z), fun _ => ?_⟩
    walk_at "WK"
    refine ⟨l3, ch, hat, ?_⟩
    walk_at "WK"
    rw [txt_r]
    refine ⟨shp_sg (l := [ch]) (by simp; omega), shp_sg (by simp), ?_⟩
    rw [show (⟨#[ch]⟩ : Str) = sg [ch] from rfl, eqv_sg, decide_eq_false (fun z => by have := (List.cons.inj z).1; omega)]
    walk_at "WK"
    refine ⟨fun z => (nomatch z), fun _ => ?_⟩
    walk_at "WK"
    rw [txt_d]
    refine ⟨shp_wd (.c v), shp_sg (by simp), ?_⟩
    rw [show (Wd.c v).tx = sg (Wd.c v).sg from rfl, eqv_sg, decide_eq_false (fun z => by rw [e] at z; have := (List.cons.inj z).1; omega)]
    walk_at "WK"
    refine ⟨fun z => (nomatch z), fun _ => ?_⟩
    walk_at "WK"
    first | exact ⟨rfl, rfl⟩ | exact rfl
end
end Wx

/-! ### part U2 -/
set_option Elab.async false
set_option linter.all false
set_option maxRecDepth 100000
set_option maxHeartbeats 1000000
set_option autoImplicit false
/-! What is open: frames, and how words change them. -/
namespace Wx
open PySem L2
inductive Kd where
  | all
  | rep
  | one
  | two
deriving DecidableEq
def Kd.nm : Kd → Str
  | .all => Str.ofString "all"
  | .rep => Str.ofString "repeat"
  | .one => Str.ofString "first"
  | .two => Str.ofString "second"
structure Fr where
  k : Kd
  g : Int
  fl : Bool
  b : Int
def Fr.d (f : Fr) : PyData := .tuple [.str f.k.nm, .int f.g, .bool f.fl, .int f.b]
def frL (fs : List Fr) : List PyData := fs.reverse.map Fr.d
inductive Run : List Tk → List Fr → Prop
  | nil {f : Fr} : Run [] [f]
  | w {w : Wd} {ts : List Tk} {k : Kd} {g b : Int} {fl : Bool} {r : List Fr} : okWd w → Run ts (⟨k, g + (mW w).2.2, true, b⟩ :: r) → Run (.w w :: ts) (⟨k, g, fl, b⟩ :: r)
  | op {ts : List Tk} {f : Fr} {r : List Fr} : r.length + 1 ≤ 12 → Run ts (⟨.rep, 0, false, 0⟩ :: f :: r) → Run (.op :: ts) (f :: r)
  | bo {ts : List Tk} {f : Fr} {r : List Fr} : r.length + 1 ≤ 12 → Run ts (⟨.one, 0, false, 0⟩ :: f :: r) → Run (.bo :: ts) (f :: r)
  | bi {ts : List Tk} {g b : Int} {fl : Bool} {r : List Fr} : Run ts (⟨.two, 0, false, g⟩ :: r) → Run (.bi :: ts) (⟨.one, g, fl, b⟩ :: r)
  | cl {n : Nat} {ts : List Tk} {k : Kd} {g g1 b b1 : Int} {fl1 : Bool} {r : List Fr} : 2 ≤ n → n ≤ 10 ^ 30 → -100 ≤ g ∧ g ≤ 100 → Run ts (⟨k, g1 + n * g, true, b1⟩ :: r) → Run (.cl n :: ts) (⟨.rep, g, true, b⟩ :: ⟨k, g1, fl1, b1⟩ :: r)
  | bc {ts : List Tk} {k : Kd} {g g1 b1 : Int} {fl fl1 : Bool} {r : List Fr} : Run ts (⟨k, g1 + g, true, b1⟩ :: r) → Run (.bc :: ts) (⟨.two, g, fl, g⟩ :: ⟨k, g1, fl1, b1⟩ :: r)
/-! ## what holds for all measures -/
def okMs (m : Int × Int × Int) : Prop := 0 ≤ m.1 ∧ 0 ≤ m.2.1 ∧ -m.1 ≤ m.2.2 ∧ m.2.2 ≤ m.2.1
theorem mxI_eq (i j : Int) : mxI i j = max i j := by
  unfold mxI
  split <;> omega
theorem okMs_join {a b : Int × Int × Int} (ha : okMs a) (hb : okMs b) : okMs (joinM a b) := by
  obtain ⟨a1, a2, a3, a4⟩ := ha
  obtain ⟨b1, b2, b3, b4⟩ := hb
  unfold okMs joinM
  dsimp only
  rw [mxI_eq, mxI_eq]
  refine ⟨?_, ?_, ?_, ?_⟩ <;> omega
theorem okMs_rep {a : Int × Int × Int} {n : Int} (ha : okMs a) (hn : 1 ≤ n) : okMs (repM a n) := by
  obtain ⟨a1, a2, a3, a4⟩ := ha
  unfold okMs repM
  dsimp only
  rw [mxI_eq, mxI_eq]
  have hn0 : (0 : Int) ≤ n - 1 := by omega
  have p1 : (0 : Int) ≤ (n - 1) * max 0 (-a.2.2) := Int.mul_nonneg hn0 (by omega)
  have p2 : (0 : Int) ≤ (n - 1) * max 0 a.2.2 := Int.mul_nonneg hn0 (by omega)
  have q1 : -((n - 1) * a.2.2) ≤ (n - 1) * max 0 (-a.2.2) := by
    rw [← Int.mul_neg]
    exact Int.mul_le_mul_of_nonneg_left (by omega) hn0
  have q2 : (n - 1) * a.2.2 ≤ (n - 1) * max 0 a.2.2 := Int.mul_le_mul_of_nonneg_left (by omega) hn0
  have e : n * a.2.2 = (n - 1) * a.2.2 + a.2.2 := by rw [Int.sub_mul, Int.one_mul]; omega
  refine ⟨?_, ?_, ?_, ?_⟩ <;> omega
theorem okMs_cho {a b : Int × Int × Int} (ha : okMs a) (hb : okMs b) : okMs (choM a b) := by
  obtain ⟨a1, a2, a3, a4⟩ := ha
  obtain ⟨b1, b2, b3, b4⟩ := hb
  unfold okMs choM
  dsimp only
  rw [mxI_eq, mxI_eq]
  refine ⟨?_, ?_, ?_, ?_⟩ <;> omega
theorem okMs_w (w : Wd) : okMs (mW w) := by
  cases w <;> (refine ⟨?_, ?_, ?_, ?_⟩ <;> (dsimp only [mW]; omega))
theorem okMs_mA : ∀ {ns : Ns} {m : Int × Int × Int}, wfN ns → okMs m → okMs (mA m ns)
  | .nil, m, _, h => h
  | .dow w r, m, hw, h => okMs_mA (ns := r) hw.2 (okMs_join h (okMs_w w))
  | .rep n b r, m, hw, h => okMs_mA (ns := r) hw.2.2 (okMs_join h (okMs_rep (okMs_mA hw.2.1 ⟨by decide, by decide, by decide, by decide⟩) (by have := hw.1.1; omega)))
  | .cho a b r, m, hw, h => okMs_mA (ns := r) hw.2.2.2 (okMs_join h (okMs_cho (okMs_mA hw.2.1 ⟨by decide, by decide, by decide, by decide⟩) (okMs_mA hw.2.2.1 ⟨by decide, by decide, by decide, by decide⟩)))
theorem okMs_mN {ns : Ns} (h : wfN ns) : okMs (mN ns) := okMs_mA h ⟨by decide, by decide, by decide, by decide⟩
theorem gN_m (ns : Ns) : (mN ns).2.2 = gN ns := by
  have := mA_g ns (0, 0, 0)
  rw [show (0, 0, 0).2.2 = (0 : Int) from rfl, Int.zero_add] at this
  exact this
theorem gN_le {ns : Ns} (h : wfN ns) (h2 : (mN ns).1 + (mN ns).2.1 ≤ 100) : -100 ≤ gN ns ∧ gN ns ≤ 100 := by
  obtain ⟨a, b, c, d⟩ := okMs_mN h
  rw [gN_m] at c d
  omega
def neN : Ns → Bool
  | .nil => false
  | _ => true
theorem neN_of {ns : Ns} (h : ns ≠ .nil) : neN ns = true := by
  cases ns with
  | nil => exact absurd rfl h
  | dow w r => rfl
  | rep n b r => rfl
  | cho a b r => rfl
theorem run_ns : ∀ {ns : Ns} {ts : List Tk} {k : Kd} {g b : Int} {fl : Bool} {r : List Fr}, wfN ns → dpN ns + r.length + 1 ≤ 13 → Run ts (⟨k, g + gN ns, fl || neN ns, b⟩ :: r) → Run (toks ns ++ ts) (⟨k, g, fl, b⟩ :: r)
  | .nil, ts, k, g, b, fl, r, _, _, h => by
    have e : (g + gN .nil) = g := Int.add_zero g
    have e2 : (fl || neN .nil) = fl := Bool.or_false fl
    rw [e, e2] at h
    exact h
  | .dow w q, ts, k, g, b, fl, r, hw, hd, h => by
    refine Run.w (ts := toks q ++ ts) hw.1 (run_ns hw.2 hd ?_)
    have e : g + gN (.dow w q) = g + (mW w).2.2 + gN q := by show g + ((mW w).2.2 + gN q) = _; omega
    have e2 : (fl || neN (.dow w q)) = (true || neN q) := by show (fl || true) = _; simp
    rw [e, e2] at h
    exact h
  | .rep n a q, ts, k, g, b, fl, r, hw, hd, h => by
    obtain ⟨⟨h2, h3, h4, h5, _⟩, ha, hq⟩ := hw
    have hd' : max (1 + dpN a) (dpN q) + r.length + 1 ≤ 13 := hd
    show Run (.op :: ((toks a ++ .cl n :: toks q) ++ ts)) _
    rw [List.append_assoc, List.cons_append]
    refine Run.op (by omega) (run_ns ha (by show dpN a + (r.length + 1) + 1 ≤ 13; omega) ?_)
    rw [neN_of h4]
    refine Run.cl h2 h3 (by have := gN_le ha h5; omega) (run_ns hq (by omega) ?_)
    have e : g + gN (.rep n a q) = g + (n : Int) * (0 + gN a) + gN q := by show g + ((n : Int) * gN a + gN q) = _; rw [Int.zero_add]; omega
    have e2 : (fl || neN (.rep n a q)) = (true || neN q) := by show (fl || true) = _; simp
    rw [e, e2] at h
    exact h
  | .cho a c q, ts, k, g, b, fl, r, hw, hd, h => by
    obtain ⟨⟨h2, _⟩, ha, hc, hq⟩ := hw
    have hd' : max (1 + max (dpN a) (dpN c)) (dpN q) + r.length + 1 ≤ 13 := hd
    show Run (.bo :: ((toks a ++ .bi :: (toks c ++ .bc :: toks q)) ++ ts)) _
    rw [List.append_assoc, List.cons_append, List.append_assoc, List.cons_append]
    refine Run.bo (by omega) (run_ns ha (by show dpN a + (r.length + 1) + 1 ≤ 13; omega) (Run.bi (run_ns hc (by show dpN c + (r.length + 1) + 1 ≤ 13; omega) ?_)))
    have e0 : (0 : Int) + gN c = 0 + gN a := by rw [h2]
    rw [e0]
    refine Run.bc (run_ns hq (by omega) ?_)
    have e : g + gN (.cho a c q) = g + (0 + gN a) + gN q := by show g + (gN a + gN q) = _; omega
    have e2 : (fl || neN (.cho a c q)) = (true || neN q) := by show (fl || true) = _; simp
    rw [e, e2] at h
    exact h
theorem run_all {ns : Ns} (hw : wfN ns) (hd : dpN ns ≤ 12) : Run (toks ns) [⟨.all, 0, false, 0⟩] := by
  have := run_ns (ts := []) (k := .all) (g := 0) (b := 0) (fl := false) (r := []) hw (by simp; omega) .nil
  rw [List.append_nil] at this
  exact this
theorem frL_cons (f : Fr) (r : List Fr) : frL (f :: r) = frL r ++ [f.d] := by unfold frL; rw [List.reverse_cons, List.map_append]; rfl
theorem frL_len (fs : List Fr) : (frL fs).length = fs.length := by unfold frL; rw [List.length_map, List.length_reverse]
theorem atI_last {α : Type} (xs : List α) (x : α) : atI (xs ++ [x]) (-1) = some x := by
  unfold atI ixN
  rw [List.length_append, if_neg (by decide), if_pos (by simp; omega)]
  have e : ((-1 : Int) + ((xs.length + [x].length : Nat) : Int)).toNat = xs.length := by
    show ((-1 : Int) + ((xs.length + 1 : Nat) : Int)).toNat = xs.length
    omega
  rw [e]
  simp
theorem frL_top (f : Fr) (r : List Fr) : atI (frL (f :: r)) (-1) = some f.d := by rw [frL_cons]; exact atI_last _ _
theorem cut_ini {α : Type} (xs : List α) (x : α) : cutD (xs ++ [x]) none (some (-1)) = xs := by
  unfold cutD
  have e : HT.sIx (xs ++ [x]).length (xs ++ [x]).length (some (-1)) = xs.length := by
    unfold HT.sIx
    rw [List.length_append]
    simp
    omega
  rw [HT.sIx_none, e]
  simp
theorem frL_pop (f : Fr) (r : List Fr) : cutD (frL (f :: r)) none (some (-1)) = frL r := by rw [frL_cons]; exact cut_ini _ _
end Wx

/-! ### part U3 -/
set_option Elab.async false
set_option linter.all false
set_option maxRecDepth 100000
set_option maxHeartbeats 1000000
set_option autoImplicit false
namespace Wx
open PySem L2
theorem txt_o : Str.ofString "(" = sg [40] := by decide +kernel
theorem txt_b : Str.ofString "{" = sg [123] := by decide +kernel
theorem txt_i : Str.ofString "|" = sg [124] := by decide +kernel
theorem txt_e : Str.ofString ")" = sg [41] := by decide +kernel
theorem txt_f : Str.ofString "}" = sg [125] := by decide +kernel
theorem shp_tk (t : Tk) : SeqAt.shaped (.str t.tx) = true := shp_str (tk_ok t)
/-- the tests of first_wrong, for each kind of word -/
def isOB : Tk → Bool
  | .op => true
  | .bo => true
  | _ => false
theorem mem_ob (t : Tk) : Mem (.str t.tx) [.str (Str.ofString "("), .str (Str.ofString "{")] = isOB t := by
  have key : ∀ a : Nat, (PyData.eqv (.str (sg [a])) (.str t.tx)) = decide (t.sg = [a]) := fun a => by
    rw [eqv_strD, decide_eq_decide]
    exact ⟨fun z => (sg_inj z).symm, fun z => by unfold Tk.tx; rw [z]⟩
  rw [txt_o, txt_b]
  unfold Mem
  simp only [List.any_cons, List.any_nil, key, Bool.or_false]
  obtain ⟨c, r, e, k⟩ := tk_cons t
  rw [e]
  cases t with
  | op => obtain ⟨rfl, rfl⟩ := k; rfl
  | bo => obtain ⟨rfl, rfl⟩ := k; rfl
  | bi => obtain ⟨rfl, rfl⟩ := k; rfl
  | bc => obtain ⟨rfl, rfl⟩ := k; rfl
  | w v =>
    dsimp only at k
    rw [decide_eq_false (fun z => by have := (List.cons.inj z).1; omega), decide_eq_false (fun z => by have := (List.cons.inj z).1; omega)]
    rfl
  | cl n =>
    dsimp only at k
    rw [decide_eq_false (fun z => by have := (List.cons.inj z).1; omega), decide_eq_false (fun z => by have := (List.cons.inj z).1; omega)]
    rfl
def isIC : Tk → Bool
  | .bi => true
  | .bc => true
  | _ => false
theorem mem_ic (t : Tk) : Mem (.str t.tx) [.str (Str.ofString "|"), .str (Str.ofString "}")] = isIC t := by
  have key : ∀ a : Nat, (PyData.eqv (.str (sg [a])) (.str t.tx)) = decide (t.sg = [a]) := fun a => by
    rw [eqv_strD, decide_eq_decide]
    exact ⟨fun z => (sg_inj z).symm, fun z => by unfold Tk.tx; rw [z]⟩
  rw [txt_i, txt_f]
  unfold Mem
  simp only [List.any_cons, List.any_nil, key, Bool.or_false]
  obtain ⟨c, r, e, k⟩ := tk_cons t
  rw [e]
  cases t with
  | op => obtain ⟨rfl, rfl⟩ := k; rfl
  | bo => obtain ⟨rfl, rfl⟩ := k; rfl
  | bi => obtain ⟨rfl, rfl⟩ := k; rfl
  | bc => obtain ⟨rfl, rfl⟩ := k; rfl
  | w v =>
    dsimp only at k
    rw [decide_eq_false (fun z => by have := (List.cons.inj z).1; omega), decide_eq_false (fun z => by have := (List.cons.inj z).1; omega)]
    rfl
  | cl n =>
    dsimp only at k
    rw [decide_eq_false (fun z => by have := (List.cons.inj z).1; omega), decide_eq_false (fun z => by have := (List.cons.inj z).1; omega)]
    rfl
theorem eqv_tk (t : Tk) (l : List Nat) : PyData.eqv (.str t.tx) (.str (sg l)) = decide (t.sg = l) := by
  rw [eqv_strD]
  exact tk_tx_eq t l
theorem frL_snoc {p : PyData} (f : Fr) (r : List Fr) (h : p = f.d) : frL r ++ [p] = frL (f :: r) := by rw [frL_cons, h]
theorem fw_end {x : List Tk} {n i : Nat} {fs : List Fr} {F : List PyData} {s3 s4 s5 s6 s7 s8 s9 : Slo} (hF : F = frL fs) (hr : Run (x.drop (i + 1)) fs) (hl : fs.length ≤ 13) :
    ∃ fs' t3 t4 t5 t6 t7 t8 t9, (⟨[.val (.py (.list (ttx x))), .val (.dct []), .val (.py (.list F)), s3, s4, s5, s6, s7, s8, s9], n⟩ : En) = ⟨[.val (.py (.list (ttx x))), .val (.dct []), .val (.py (.list (frL fs'))), t3, t4, t5, t6, t7, t8, t9], n⟩ ∧ Run (x.drop (i + 1)) fs' ∧ fs'.length ≤ 13 :=
  ⟨fs, s3, s4, s5, s6, s7, s8, s9, by rw [hF], hr, hl⟩
theorem fr_len {fs : List Fr} {p : PyData} (h : fs.length ≤ 13) : (frL fs).length + [p].length ≤ sizeLine := by rw [frL_len, sizeLine_eq]; simp; omega

section
variable {P : Program} {w : World} {K : PySem.W.Frag} {mg : Str → Option Value} {base : Heap} {f C : Addr} {fd : FuncData}
abbrev sp_first_wrong (K : PySem.W.Frag) : Sp := SpX (ι := List Tk) K (fun ws => [.py (.list (ttx ws)), .dct []]) (fun ws _ => ws.length ≤ 1000 ∧ (∀ t ∈ ws, okTk t) ∧ Run ws [⟨.all, 0, false, 0⟩]) fun ws n d m => d = .py .none ∧ m = n
theorem ln_first_wrong (ws : List Tk) : [D.py (.list (ttx ws)), .dct []].length = 2 := rfl
theorem nm_first_wrong (ws : List Tk) : [D.py (.list (ttx ws)), .dct []].all D.nm = true := rfl
theorem sc_first_wrong : FnScope ["words", "growths", "frames", "index", "word", "kind", "growth", "filled", "before", "more"] ["words", "growths"] (defScope (top 30)) := ⟨rfl, rfl, rfl, by decide +kernel, rfl, by decide +kernel, by decide +kernel⟩
theorem ok_first_wrong (F : FnP K "first_wrong" "first_wrong" (top 30) f fd) (g_enumerate : mg "enumerate" = none) (i_MOST_WORDS : GInt mg "MOST_WORDS" 1000) (i_MOST_OPEN : GInt mg "MOST_OPEN" 12) (g_len : mg "len" = none) (g_int : mg "int" = none) (S_is_instruction : Std P w K mg base 3 "is_instruction" ["word"] (sp_is_instruction K)) (S_is_decimal : Std P w K mg base 1 "is_decimal" ["signs", "low", "high"] (sp_is_decimal K)) (i_MOST_TIMES : GInt mg "MOST_TIMES" (10 ^ 30)) (S_measure_of : Std P w K mg base 1 "measure_of" ["word"] (sp_measure_of K)) : FnOk P w K mg base CX0 4 f fd ["words", "growths"] (sp_first_wrong K) := by
  refine F.ok sc_first_wrong (sx_len ln_first_wrong) (fun cdv A outer s H vs Q E hr h => ?_)
  have nd := sc_first_wrong.nd
  refine ⟨_, PSs.nox (pss_cons (ps_set (i := 2) nd rfl (Or.inl rfl) (pe_lst (pa_cons (pe_tup (pa_cons (pe_str) (pa_cons (pe_int) (pa_cons (pe_bl) (pa_cons (pe_int) (pa_nil)))))) (pa_nil))))
 (pss_cons (ps_for PassesOwn.never rfl (enumLK (K := K) rfl rfl g_enumerate (pa_cons (pv 0) (pa_nil))) (gtupK (K := K) (n := 2) rfl rfl (pgs_cons (pg_name (i := 3) nd rfl (Or.inl rfl)) (pgs_cons (pg_name (i := 4) nd rfl (Or.inl rfl)) (pgs_nil)))) (pss_cons (ps_asg (pe_ix (ixK (K := K) rfl) (pv 2) (pe_un un_neg (pe_int)) (fun _ _ => rfl)) (gtupK (K := K) (n := 4) rfl rfl (pgs_cons (pg_name (i := 5) nd rfl (Or.inl rfl)) (pgs_cons (pg_name (i := 6) nd rfl (Or.inl rfl)) (pgs_cons (pg_name (i := 7) nd rfl (Or.inl rfl)) (pgs_cons (pg_name (i := 8) nd rfl (Or.inl rfl)) (pgs_nil)))))))
 (pss_cons (ps_if (pt_cmpR op_ge (pv 3) (pe_gint i_MOST_WORDS rfl) (nomark _)) (pss_one (ps_ret (pv 3))) (pss_nil))
 (pss_one (ps_if (pt_cmpR (inK (K := K) rfl (room65 hr)) (pv 4) (pe_tup (pa_cons (pe_str) (pa_cons (pe_str) (pa_nil)))) (by rfl)) (pss_cons (ps_if (pt_cmpR op_gt (pe_callB (lenK (K := K) rfl) rfl g_len PySem.boot_len (pa_cons (pv 2) (pa_nil))) (pe_gint i_MOST_OPEN rfl) (nomark _)) (pss_one (ps_ret (pv 3))) (pss_nil))
 (pss_one (ps_set (i := 2) nd rfl (Or.inl rfl) (pe_op (addK (K := K) rfl) (pv 2) (pe_lst (pa_cons (pe_tup (pa_cons (pe_ifExp (pt_cmpR (eqK (K := K) rfl (room64 hr)) (pv 4) (pe_str) (nomark _)) (pe_str) (pe_str)) (pa_cons (pe_int) (pa_cons (pe_bl) (pa_cons (pe_int) (pa_nil)))))) (pa_nil))))))) (pss_one (ps_if (pt_cmpR (eqK (K := K) rfl (room64 hr)) (pv 4) (pe_str) (nomark _)) (pss_cons (ps_if (pt_cmpR (neK (K := K) rfl (room64 hr)) (pv 5) (pe_str) (nomark _)) (pss_one (ps_ret (pv 3))) (pss_nil))
 (pss_one (ps_set (i := 2) nd rfl (Or.inl rfl) (pe_op (addK (K := K) rfl) (pe_slice (slK (K := K) rfl) (pv 2) po_none (po_some (pe_un un_neg (pe_int)))) (pe_lst (pa_cons (pe_tup (pa_cons (pe_str) (pa_cons (pe_int) (pa_cons (pe_bl) (pa_cons (pv 6) (pa_nil)))))) (pa_nil))))))) (pss_cons (ps_set (i := 9) nd rfl (Or.inl rfl) (pe_int))
 (pss_cons (ps_if (pt_cmpR (eqK (K := K) rfl (room64 hr)) (pe_slice (slK (K := K) rfl) (pv 4) po_none (po_some (pe_int))) (pe_str) (nomark _)) (pss_cons (ps_if (PW.pt (pw_or (pt_cmpR (neK (K := K) rfl (room64 hr)) (pv 5) (pe_str) (nomark _)) (pw_or (pt_not (truK (K := K) rfl (pv 7) (by intro _; rfl))) (pw_or1 (pt_not (truK (K := K) rfl (pe_std S_is_decimal (hr.mono (by decide)) rfl (pa_cons (pe_slice (slK (K := K) rfl) (pv 4) (po_some (pe_int)) po_none) (pa_cons (pe_int) (pa_cons (pe_gint i_MOST_TIMES rfl) (pa_nil))))) (by intro _; rfl))))))) (pss_one (ps_ret (pv 3))) (pss_nil))
 (pss_cons (ps_set (i := 9) nd rfl (Or.inl rfl) (pe_op opMUL (pe_callTy callINTS rfl g_int bt_int (pa_cons (pe_slice (slK (K := K) rfl) (pv 4) (po_some (pe_int)) po_none) (pa_nil))) (pv 6)))
 (pss_one (ps_set (i := 2) nd rfl (Or.inl rfl) (pe_slice (slK (K := K) rfl) (pv 2) po_none (po_some (pe_un un_neg (pe_int)))))))) (pss_one (ps_if (pt_cmpR (eqK (K := K) rfl (room64 hr)) (pv 4) (pe_str) (nomark _)) (pss_cons (ps_if (PW.pt (pw_or (pt_cmpR (neK (K := K) rfl (room64 hr)) (pv 5) (pe_str) (nomark _)) (pw_or1 (pt_cmpR (neK (K := K) rfl (room64 hr)) (pv 6) (pv 8) (nomark _))))) (pss_one (ps_ret (pv 3))) (pss_nil))
 (pss_cons (ps_set (i := 9) nd rfl (Or.inl rfl) (pv 6))
 (pss_one (ps_set (i := 2) nd rfl (Or.inl rfl) (pe_slice (slK (K := K) rfl) (pv 2) po_none (po_some (pe_un un_neg (pe_int)))))))) (pss_one (ps_if (truK (K := K) rfl (pe_std S_is_instruction hr rfl (pa_cons (pv 4) (pa_nil))) (by intro _; rfl)) (pss_one (ps_set (i := 9) nd rfl (Or.inl rfl) (pe_ix (ixK (K := K) rfl) (pe_std S_measure_of (hr.mono (by decide)) rfl (pa_cons (pv 4) (pa_nil))) (pe_int) (fun _ _ => rfl)))) (pss_one (ps_if (pt_cmp (pc_din (hu_of hr) (pv 4) (pv 1)) (by rfl)) (pss_one (ps_never)) (pss_one (ps_ret (pv 3))))))))))
 (pss_cons (ps_asg (pe_ix (ixK (K := K) rfl) (pv 2) (pe_un un_neg (pe_int)) (fun _ _ => rfl)) (gtupK (K := K) (n := 4) rfl rfl (pgs_cons (pg_name (i := 5) nd rfl (Or.inl rfl)) (pgs_cons (pg_name (i := 6) nd rfl (Or.inl rfl)) (pgs_cons (pg_name (i := 7) nd rfl (Or.inl rfl)) (pgs_cons (pg_name (i := 8) nd rfl (Or.inl rfl)) (pgs_nil)))))))
 (pss_one (ps_set (i := 2) nd rfl (Or.inl rfl) (pe_op (addK (K := K) rfl) (pe_slice (slK (K := K) rfl) (pv 2) po_none (po_some (pe_un un_neg (pe_int)))) (pe_lst (pa_cons (pe_tup (pa_cons (pv 5) (pa_cons (pe_op (addK (K := K) rfl) (pv 6) (pv 9)) (pa_cons (pe_bl) (pa_cons (pv 8) (pa_nil)))))) (pa_nil))))))))))))))))
 (pss_one (ps_ret (pe_ifExp (pt_cmpR (eqK (K := K) rfl (room64 hr)) (pe_callB (lenK (K := K) rfl) rfl g_len PySem.boot_len (pa_cons (pv 2) (pa_nil))) (pe_int) (nomark _)) (pe_non) (pe_callB (lenK (K := K) rfl) rfl g_len PySem.boot_len (pa_cons (pv 0) (pa_nil)))))))), ?_⟩
  refine body_x nm_first_wrong ?_ vs H Q E h
  clear h hr
  intro c n x hK hp
  (subst hK)
  try clear g_enumerate i_MOST_WORDS i_MOST_OPEN g_len g_int S_is_instruction S_is_decimal i_MOST_TIMES S_measure_of F
  obtain ⟨h1, h2, h0⟩ : x.length ≤ 1000 ∧ (∀ t ∈ x, okTk t) ∧ Run x [⟨.all, 0, false, 0⟩] := hp
  walk_at "WK"
  refine ws_for [3, 4] (wi_enumL rfl ?_)
  walk_at "WK"
  refine ⟨_, rfl, ?_⟩
  refine ⟨fun i e1 => ∃ fs s3 s4 s5 s6 s7 s8 s9, e1 = ⟨[.val (.py (.list (ttx x))), .val (.dct []), .val (.py (.list (frL fs))), s3, s4, s5, s6, s7, s8, s9], n⟩ ∧ Run (x.drop i) fs ∧ fs.length ≤ 13, ⟨[⟨.all, 0, false, 0⟩], .emp, .emp, .emp, .emp, .emp, .emp, .emp, rfl, h0, by decide⟩, ?_, ?_⟩
  · rintro i d e1 hd ⟨fs, s3, s4, s5, s6, s7, s8, s9, rfl, hr, hlen⟩
    rw [enumD_get] at hd
    obtain ⟨t, ht, htm, rfl⟩ : ∃ w, x[i]? = some w ∧ w ∈ x ∧ d = .py (.tuple [.int (i : Int), .str w.tx]) := by
      cases q : (ttx x)[i]? with
      | none => rw [q] at hd; cases hd
      | some p =>
        obtain ⟨w, a, b, rfl⟩ := ttx_at q
        rw [q] at hd
        cases hd
        exact ⟨w, a, b, rfl⟩
    have hi : i < x.length := (List.getElem?_eq_some_iff.mp ht).1
    have ed : x.drop i = t :: x.drop (i + 1) := by
      rw [List.drop_eq_getElem_cons hi]
      congr 1
      exact (List.getElem?_eq_some_iff.mp ht).2
    rw [ed] at hr
    have okt := h2 t htm
    have ht33 := tk_len okt
    have l3 : t.tx.length ≤ sizeLine := by unfold Tk.tx; rw [sg_len]; exact Nat.le_trans ht33.2 (by rw [sizeLine_eq]; decide)
    obtain ⟨⟨k, g, fl, b⟩, r, rfl⟩ : ∃ f r, fs = f :: r := by cases hr <;> exact ⟨_, _, rfl⟩
    refine wg_pair rfl ⟨_, _, rfl, wg_name ⟨rfl, wg_name ⟨rfl, ?_⟩ (Nat.le_of_ble_eq_true rfl) (by decide)⟩ (Nat.le_of_ble_eq_true rfl) (by decide)⟩
    refine ws_seq ?_
    refine ws_asg [5, 6, 7, 8] ?_
    walk_at "WK"
    refine ⟨_, frL_top _ _, ?_⟩
    refine wg_quad rfl ⟨_, _, _, _, rfl, wg_name ⟨rfl, wg_name ⟨rfl, wg_name ⟨rfl, wg_name ⟨rfl, ?_⟩ (Nat.le_of_ble_eq_true rfl) (by decide)⟩ (Nat.le_of_ble_eq_true rfl) (by decide)⟩ (Nat.le_of_ble_eq_true rfl) (by decide)⟩ (Nat.le_of_ble_eq_true rfl) (by decide)⟩
    show Ws c _ ⟨[.val (.py (.list (ttx x))), .val (.dct []), .val (.py (.list (frL (⟨k, g, fl, b⟩ :: r)))), .val (.py (.int (i : Int))), .val (.py (.str t.tx)), .val (.py (.str k.nm)), .val (.py (.int g)), .val (.py (.bool fl)), .val (.py (.int b)), s9], n⟩ _
    refine ws_seq ?_
    walk_at "WK"
    refine ⟨fun z => absurd (of_decide_eq_true z) (by omega), fun _ => ?_⟩
    walk_at "WK"
    refine ⟨shp_tk t, by decide +kernel, ?_⟩
    rw [mem_ob]
    cases hr with
    | @w v _ _ _ _ _ _ hw hr =>
      rw [show isOB (.w v) = false from rfl]
      refine ⟨fun z => (nomatch z), fun _ => ?_⟩
      obtain ⟨ch, r1, ew, c1, c2⟩ := wd_cons0 (w := v)
      have e' : (Tk.w v).tx.cps.toList = ch :: r1 := ew
      have es : (Tk.w v).sg = ch :: r1 := ew
      walk_at "WK"
      rw [txt_i]
      refine ⟨shp_tk _, shp_sg (by simp), ?_⟩
      rw [eqv_tk, es, decide_eq_false (fun z => by have := (List.cons.inj z).1; omega)]
      walk_at "WK"
      refine ⟨fun z => (nomatch z), fun _ => ?_⟩
      walk_at "WK"
      refine ⟨l3, ?_⟩
      rw [cut_head _ e']
      walk_at "WK"
      rw [txt_e]
      refine ⟨shp_sg (l := [ch]) (by simp; omega), shp_sg (by simp), ?_⟩
      rw [eqv_sg, decide_eq_false (fun z => by have := (List.cons.inj z).1; omega)]
      walk_at "WK"
      refine ⟨fun z => (nomatch z), fun _ => ?_⟩
      walk_at "WK"
      rw [txt_f]
      refine ⟨shp_tk _, shp_sg (by simp), ?_⟩
      rw [eqv_tk, es, decide_eq_false (fun z => by have := (List.cons.inj z).1; omega)]
      walk_at "WK"
      refine ⟨fun z => (nomatch z), fun _ => ?_⟩
      walk_at "WK"
      refine ⟨v, rfl, hw, ?_⟩
      rintro d m ⟨rfl, rfl⟩
      refine ⟨rfl, ?_⟩
      walk_at "WK"
      refine ⟨fun _ => ?_, fun z => (nomatch z)⟩
      walk_at "WK"
      refine ⟨v, rfl, hw, ?_⟩
      rintro d m ⟨rfl, rfl⟩
      refine ⟨rfl, ?_⟩
      walk_at "WK"
      refine ⟨_, rfl, ?_⟩
      walk_at "WK"
      refine ws_asg [5, 6, 7, 8] ?_
      walk_at "WK"
      refine ⟨_, frL_top _ _, ?_⟩
      refine wg_quad rfl ⟨_, _, _, _, rfl, wg_name ⟨rfl, wg_name ⟨rfl, wg_name ⟨rfl, wg_name ⟨rfl, ?_⟩ (Nat.le_of_ble_eq_true rfl) (by decide)⟩ (Nat.le_of_ble_eq_true rfl) (by decide)⟩ (Nat.le_of_ble_eq_true rfl) (by decide)⟩ (Nat.le_of_ble_eq_true rfl) (by decide)⟩
      walk_at "WK"
      rw [frL_pop]
      refine ⟨fr_len (by simp at hlen ⊢; omega), rfl, fw_end (frL_snoc _ _ rfl) hr (by simp at hlen ⊢; omega)⟩
    | @op _ _ _ hl hr =>
      rw [show isOB .op = true from rfl]
      refine ⟨fun _ => ?_, fun z => (nomatch z)⟩
      walk_at "WK"
      refine ⟨fun z => (by have z' := of_decide_eq_true z; rw [frL_len] at z'; simp at z'; omega), fun _ => ?_⟩
      walk_at "WK"
      refine ⟨fun _ => ?_, fun z => (nomatch z)⟩
      walk_at "WK"
      exact ⟨fr_len hlen, rfl, fw_end (frL_snoc _ _ rfl) hr (by simp; omega)⟩
    | @bo _ _ _ hl hr =>
      rw [show isOB .bo = true from rfl]
      refine ⟨fun _ => ?_, fun z => (nomatch z)⟩
      walk_at "WK"
      refine ⟨fun z => (by have z' := of_decide_eq_true z; rw [frL_len] at z'; simp at z'; omega), fun _ => ?_⟩
      walk_at "WK"
      refine ⟨fun z => (nomatch z), fun _ => ?_⟩
      walk_at "WK"
      exact ⟨fr_len hlen, rfl, fw_end (frL_snoc _ _ rfl) hr (by simp; omega)⟩
    | @bi _ _ _ _ _ hr =>
      rw [show isOB .bi = false from rfl]
      refine ⟨fun z => (nomatch z), fun _ => ?_⟩
      walk_at "WK"
      refine ⟨fun _ => ?_, fun z => (nomatch z)⟩
      refine ws_seq ?_
      walk_at "WK"
      refine ⟨by decide +kernel, by decide +kernel, ?_⟩
      rw [show PyData.eqv (.str Kd.one.nm) (.str (Str.ofString "first")) = true by decide +kernel]
      walk_at "WK"
      refine ⟨fun z => (nomatch z), fun _ => ?_⟩
      walk_at "WK"
      rw [frL_pop]
      refine ⟨fr_len (by simp at hlen ⊢; omega), rfl, fw_end (frL_snoc _ _ rfl) hr (by simp at hlen ⊢; omega)⟩
    | @cl v _ k1 _ g1 _ b1 fl1 r1 hn1 hn2 hg hr =>
      have e' : (Tk.cl v).tx.cps.toList = 41 :: TL.numL v := rfl
      rw [show isOB (.cl v) = false from rfl]
      refine ⟨fun z => (nomatch z), fun _ => ?_⟩
      walk_at "WK"
      rw [txt_i]
      refine ⟨shp_tk _, shp_sg (by simp), ?_⟩
      rw [eqv_tk, show (Tk.cl v).sg = 41 :: TL.numL v from rfl, decide_eq_false (fun z => by have := (List.cons.inj z).1; omega)]
      walk_at "WK"
      refine ⟨fun z => (nomatch z), fun _ => ?_⟩
      walk_at "WK"
      refine ⟨l3, ?_⟩
      rw [cut_head _ e']
      walk_at "WK"
      refine ⟨fun _ => ?_, fun z => absurd z (by decide)⟩
      refine ws_seq ?_
      walk_at "WK"
      refine ⟨by decide +kernel, by decide +kernel, ?_⟩
      rw [show PyData.eqv (.str Kd.rep.nm) (.str (Str.ofString "repeat")) = true by decide +kernel]
      walk_at "WK"
      refine ⟨fun _ => ?_, fun z => (nomatch z)⟩
      walk_at "WK"
      refine ⟨fun _ => ?_, fun z => (nomatch z)⟩
      walk_at "WK"
      refine ⟨l3, ?_⟩
      rw [cut_tail _ e', ← txN_sg]
      walk_at "WK"
      refine ⟨(v, 2, 10 ^ 30), rfl, by show v < 10 ^ 31; omega, ?_⟩
      rintro d m ⟨rfl, rfl⟩
      refine ⟨rfl, ?_⟩
      rw [show decide (((v, (2 : Int), (10 ^ 30 : Int)).2.1 ≤ ((v, (2 : Int), (10 ^ 30 : Int)).1 : Int)) ∧ ((v, (2 : Int), (10 ^ 30 : Int)).1 : Int) ≤ (v, (2 : Int), (10 ^ 30 : Int)).2.2) = true from decide_eq_true (by dsimp only; omega)]
      walk_at "WK"
      refine ⟨fun z => absurd z (by simp), fun _ => ?_⟩
      walk_at "WK"
      refine ⟨l3, ?_⟩
      rw [cut_tail _ e', ← txN_sg]
      walk_at "WK"
      refine cw_intS (one_mk ⟨_, _, rfl, txN_int (show v < 10 ^ 200 by omega), Nat.le_trans (txN_le (k := 31) (by decide) (show v < 10 ^ 31 by omega)) (by decide), ?_⟩)
      walk_at "WK"
      refine rw_mI (wide_mul (a := 200) (b := 200) (by omega) (by omega) (by decide) (by decide) (by decide)) ?_
      walk_at "WK"
      rw [frL_pop]
      refine ws_asg [5, 6, 7, 8] ?_
      walk_at "WK"
      refine ⟨_, frL_top _ _, ?_⟩
      refine wg_quad rfl ⟨_, _, _, _, rfl, wg_name ⟨rfl, wg_name ⟨rfl, wg_name ⟨rfl, wg_name ⟨rfl, ?_⟩ (Nat.le_of_ble_eq_true rfl) (by decide)⟩ (Nat.le_of_ble_eq_true rfl) (by decide)⟩ (Nat.le_of_ble_eq_true rfl) (by decide)⟩ (Nat.le_of_ble_eq_true rfl) (by decide)⟩
      walk_at "WK"
      rw [frL_pop]
      refine ⟨fr_len (by simp at hlen ⊢; omega), rfl, fw_end (frL_snoc _ _ rfl) hr (by simp at hlen ⊢; omega)⟩
    | @bc _ k1 _ g1 b1 _ fl1 r1 hr =>
      rw [show isOB .bc = false from rfl]
      refine ⟨fun z => (nomatch z), fun _ => ?_⟩
      walk_at "WK"
      refine ⟨fun z => (nomatch z), fun _ => ?_⟩
      walk_at "WK"
      refine ⟨l3, ?_⟩
      rw [cut_head (c := 125) (r := []) _ rfl]
      walk_at "WK"
      refine ⟨fun z => absurd z (by decide), fun _ => ?_⟩
      walk_at "WK"
      refine ⟨fun _ => ?_, fun z => (nomatch z)⟩
      refine ws_seq ?_
      walk_at "WK"
      refine ⟨by decide +kernel, by decide +kernel, ?_⟩
      rw [show PyData.eqv (.str Kd.two.nm) (.str (Str.ofString "second")) = true by decide +kernel]
      walk_at "WK"
      refine ⟨fun _ => ?_, fun z => (nomatch z)⟩
      walk_at "WK"
      refine ⟨fun z => absurd z (by simp), fun _ => ?_⟩
      walk_at "WK"
      rw [frL_pop]
      refine ws_asg [5, 6, 7, 8] ?_
      walk_at "WK"
      refine ⟨_, frL_top _ _, ?_⟩
      refine wg_quad rfl ⟨_, _, _, _, rfl, wg_name ⟨rfl, wg_name ⟨rfl, wg_name ⟨rfl, wg_name ⟨rfl, ?_⟩ (Nat.le_of_ble_eq_true rfl) (by decide)⟩ (Nat.le_of_ble_eq_true rfl) (by decide)⟩ (Nat.le_of_ble_eq_true rfl) (by decide)⟩ (Nat.le_of_ble_eq_true rfl) (by decide)⟩
      walk_at "WK"
      rw [frL_pop]
      refine ⟨fr_len (by simp at hlen ⊢; omega), rfl, fw_end (frL_snoc _ _ rfl) hr (by simp at hlen ⊢; omega)⟩
  · rintro e1 ⟨fs, s3, s4, s5, s6, s7, s8, s9, rfl, hr, hlen⟩
    rw [List.drop_of_length_le (by rw [enumD_len, ttx_len]; exact Nat.le_refl _)] at hr
    cases hr
    walk_at "WK"
    refine ⟨fun _ => ?_, fun z => absurd (of_decide_eq_false z) (fun q => q rfl)⟩
    walk_at "WK"
    first | exact ⟨rfl, rfl⟩ | exact rfl
end
end Wx

/-! ### part U4 -/
set_option Elab.async false
set_option linter.all false
set_option maxRecDepth 100000
set_option maxHeartbeats 1000000
set_option autoImplicit false
/-! Nodes as data; recursion by depth. -/
namespace Wx
open PySem L2
def dat : Nat → Ns → List PyData
  | _, .nil => []
  | p, .dow w r => .tuple [.str (Str.ofString "do"), .str w.tx, .int (p : Int)] :: dat (p + 1) r
  | p, .rep n b r => .tuple [.str (Str.ofString "repeat"), .int (n : Int), .tuple (dat (p + 1) b), .int (p : Int)] :: dat (p + 2 + tkN b) r
  | p, .cho a b r => .tuple [.str (Str.ofString "choice"), .tuple (dat (p + 1) a), .tuple (dat (p + 2 + tkN a) b), .int (p : Int)] :: dat (p + 3 + tkN a + tkN b) r
/-- how many nodes -/
def nN : Ns → Nat
  | .nil => 0
  | .dow _ r => 1 + nN r
  | .rep _ _ r => 1 + nN r
  | .cho _ _ r => 1 + nN r
theorem dat_len : ∀ (p : Nat) (ns : Ns), (dat p ns).length = nN ns
  | _, .nil => rfl
  | p, .dow w r => by show (dat (p + 1) r).length + 1 = 1 + nN r; rw [dat_len]; omega
  | p, .rep n b r => by show (dat (p + 2 + tkN b) r).length + 1 = 1 + nN r; rw [dat_len]; omega
  | p, .cho a b r => by show (dat (p + 3 + tkN a + tkN b) r).length + 1 = 1 + nN r; rw [dat_len]; omega
theorem nN_le : ∀ ns : Ns, nN ns ≤ tkN ns
  | .nil => Nat.le_refl _
  | .dow w r => by have := nN_le r; show 1 + nN r ≤ 1 + tkN r; omega
  | .rep n b r => by have := nN_le r; show 1 + nN r ≤ 2 + tkN b + tkN r; omega
  | .cho a b r => by have := nN_le r; show 1 + nN r ≤ 3 + tkN a + tkN b + tkN r; omega
section
variable {P : Program} {w : World} {K : PySem.W.Frag} {mg : Str → Option Value} {base : Heap} {f : Addr} {fd : FuncData} {k : Nat} {ps : List Str}
/-- a promise that is never asked for -/
theorem fnok_void {sp : Sp} {CX : CXT} (h : ∀ vs H Q E, ¬ sp vs H Q E) : FnOk P w K mg base CX k f fd ps sp :=
  ⟨fun vs H Q E q => absurd q (h vs H Q E), fun _ _ _ H _ _ vs Q E _ _ _ _ q => absurd q (h vs H Q E)⟩
/-- a def that calls itself: its promise for depth 0, and one step -/
theorem rec_ok {sp : Nat → Sp} {x : Str} {k0 : Nat} (hm : mg x = some (.ref f)) (hk : PySem.W.keepIn K (.ref f) = true) (hb : Binds K fd ps [])
    (h0 : ∀ vs H Q E, ¬ sp 0 vs H Q E) (hs : ∀ d, Std P w K mg base (d + k0) x ps (sp d) → FnOk P w K mg base CX0 (d + k0 + 1) f fd ps (sp (d + 1))) : ∀ d, FnOk P w K mg base CX0 (d + k0) f fd ps (sp d)
  | 0 => fnok_void h0
  | d + 1 => by
    have := hs d ⟨f, fd, rec_ok hm hk hb h0 hs d, hm, hk, hb⟩
    rw [show d + 1 + k0 = d + k0 + 1 by omega]
    exact this
end
end Wx

/-! ### part U5 -/
set_option Elab.async false
set_option linter.all false
set_option maxRecDepth 100000
set_option maxHeartbeats 1000000
set_option autoImplicit false
namespace Wx
open PySem L2
def EndT : List Tk → Prop
  | [] => True
  | .bi :: _ => True
  | .bc :: _ => True
  | .cl _ :: _ => True
  | _ => False
def NfP (dp : Nat) (ts : List Tk) (p : Nat) (ns : Ns) : Prop := ts.length ≤ 1000 ∧ (∀ t ∈ ts, okTk t) ∧ dpN ns < dp ∧ ∃ rest, ts.drop p = toks ns ++ rest ∧ EndT rest
theorem drop_tk {ts : List Tk} {p : Nat} {t : Tk} {r : List Tk} (h : ts.drop p = t :: r) : ts[p]? = some t ∧ t ∈ ts ∧ p < ts.length ∧ ts.drop (p + 1) = r := by
  have e1 : ts[p]? = some t := by
    have := congrArg (fun l : List Tk => l[0]?) h
    rw [List.getElem?_drop] at this
    exact this
  have hp := (List.getElem?_eq_some_iff.mp e1).1
  refine ⟨e1, List.mem_of_getElem? e1, hp, ?_⟩
  rw [List.drop_eq_getElem_cons hp] at h
  exact (List.cons.inj h).2
theorem drop_app {ts a r : List Tk} {p : Nat} (h : ts.drop p = a ++ r) : ts.drop (p + a.length) = r := by
  rw [← List.drop_drop, h]
  simp
theorem nf_end {ts rest : List Tk} {p q' M n : Nat} {ns r' : Ns} {L' : List PyData} {s3 s4 s5 s6 s7 : Slo} {Q : Int} (hm : tkN r' < M) (hQ : Q = (q' : Int)) (a : L' ++ dat q' r' = dat p ns) (b : q' + tkN r' = p + tkN ns) (c : ts.drop q' = toks r' ++ rest) (d : dpN r' ≤ dpN ns) :
    ∃ m', m' < M ∧ ∃ q ms L t3 t4 t5 t6 t7, m' = tkN ms ∧ L ++ dat q ms = dat p ns ∧ q + tkN ms = p + tkN ns ∧ ts.drop q = toks ms ++ rest ∧ dpN ms ≤ dpN ns ∧
      (⟨[.val (.py (.list (ttx ts))), .val (.py (.int Q)), .own (.lst L'), s3, s4, s5, s6, s7], n⟩ : En) = ⟨[.val (.py (.list (ttx ts))), .val (.py (.int (q : Int))), .own (.lst L), t3, t4, t5, t6, t7], n⟩ :=
  ⟨tkN r', hm, q', r', L', s3, s4, s5, s6, s7, rfl, a, b, c, d, by rw [hQ]⟩

section
variable {P : Program} {w : World} {K : PySem.W.Frag} {mg : Str → Option Value} {base : Heap} {f C : Addr} {fd : FuncData} {dp : Nat}
abbrev sp_nodes_from (K : PySem.W.Frag) (dp : Nat) : Sp := SpX (ι := List Tk × Nat × Ns) K (fun x => [.py (.list (ttx x.1)), .py (.int (x.2.1 : Int))]) (fun x _ => NfP dp x.1 x.2.1 x.2.2) fun x n d m => d = .py (.tuple [.tuple (dat x.2.1 x.2.2), .int ((x.2.1 + tkN x.2.2 : Nat) : Int)]) ∧ m = n
theorem ln_nodes_from (x : List Tk × Nat × Ns) : [D.py (.list (ttx x.1)), .py (.int (x.2.1 : Int))].length = 2 := rfl
theorem nm_nodes_from (x : List Tk × Nat × Ns) : [D.py (.list (ttx x.1)), .py (.int (x.2.1 : Int))].all D.nm = true := rfl
theorem sc_nodes_from : FnScope ["words", "place", "found", "at", "body", "first", "middle", "second"] ["words", "place"] (defScope (top 31)) := ⟨rfl, rfl, rfl, by decide +kernel, rfl, by decide +kernel, by decide +kernel⟩
theorem ok_nodes_from (F : FnP K "nodes_from" "nodes_from" (top 31) f fd) (g_len : mg "len" = none) (S_nodes_from : Std P w K mg base (dp + 1) "nodes_from" ["words", "place"] (sp_nodes_from K dp)) (g_int : mg "int" = none) (g_tuple : mg "tuple" = none) : FnOk P w K mg base CX0 (dp + 1 + 1) f fd ["words", "place"] (sp_nodes_from K (dp + 1)) := by
  refine F.ok sc_nodes_from (sx_len ln_nodes_from) (fun cdv A outer s H vs Q E hr h => ?_)
  have nd := sc_nodes_from.nd
  refine ⟨_, PSs.nox (pss_cons (ps_setO (i := 2) nd rfl (Or.inl rfl) (pe_lst (pa_nil)))
 (pss_cons (ps_while PassesOwn.never (PW.pt (pw_and (pt_cmpR op_lt (pv 1) (pe_callB (lenK (K := K) rfl) rfl g_len PySem.boot_len (pa_cons (pv 0) (pa_nil))) (nomark _)) (pw_and (pt_cmpR (niK (K := K) rfl (room65 hr)) (pe_ix (ixK (K := K) rfl) (pv 0) (pv 1) (fun _ _ => rfl)) (pe_tup (pa_cons (pe_str) (pa_cons (pe_str) (pa_nil)))) (by rfl)) (pw_and1 (pt_cmpR (neK (K := K) rfl (room64 hr)) (pe_ix (ixK (K := K) rfl) (pe_ix (ixK (K := K) rfl) (pv 0) (pv 1) (fun _ _ => rfl)) (pe_int) (fun _ _ => rfl)) (pe_str) (nomark _)))))) (pss_cons (ps_set (i := 3) nd rfl (Or.inl rfl) (pv 1))
 (pss_cons (ps_if (pt_cmpR (eqK (K := K) rfl (room64 hr)) (pe_ix (ixK (K := K) rfl) (pv 0) (pv 3) (fun _ _ => rfl)) (pe_str) (nomark _)) (pss_cons (ps_asg (pe_std S_nodes_from hr rfl (pa_cons (pv 0) (pa_cons (pe_op (addK (K := K) rfl) (pv 3) (pe_int)) (pa_nil)))) (gtupK (K := K) (n := 2) rfl rfl (pgs_cons (pg_name (i := 4) nd rfl (Or.inl rfl)) (pgs_cons (pg_name (i := 1) nd rfl (Or.inl rfl)) (pgs_nil)))))
 (pss_one (ps_expr (pe_bm PySem.F.plainAttrs_list PySem.F.slot_list_append PySem.F.type_list_append mt_append (pv 2) (pa_cons (pe_tup (pa_cons (pe_str) (pa_cons (pe_callTy callINTS rfl g_int bt_int (pa_cons (pe_slice (slK (K := K) rfl) (pe_ix (ixK (K := K) rfl) (pv 0) (pv 1) (fun _ _ => rfl)) (po_some (pe_int)) po_none) (pa_nil))) (pa_cons (pv 4) (pa_cons (pv 3) (pa_nil)))))) (pa_nil)))))) (pss_one (ps_if (pt_cmpR (eqK (K := K) rfl (room64 hr)) (pe_ix (ixK (K := K) rfl) (pv 0) (pv 3) (fun _ _ => rfl)) (pe_str) (nomark _)) (pss_cons (ps_asg (pe_std S_nodes_from hr rfl (pa_cons (pv 0) (pa_cons (pe_op (addK (K := K) rfl) (pv 3) (pe_int)) (pa_nil)))) (gtupK (K := K) (n := 2) rfl rfl (pgs_cons (pg_name (i := 5) nd rfl (Or.inl rfl)) (pgs_cons (pg_name (i := 6) nd rfl (Or.inl rfl)) (pgs_nil)))))
 (pss_cons (ps_asg (pe_std S_nodes_from hr rfl (pa_cons (pv 0) (pa_cons (pe_op (addK (K := K) rfl) (pv 6) (pe_int)) (pa_nil)))) (gtupK (K := K) (n := 2) rfl rfl (pgs_cons (pg_name (i := 7) nd rfl (Or.inl rfl)) (pgs_cons (pg_name (i := 1) nd rfl (Or.inl rfl)) (pgs_nil)))))
 (pss_one (ps_expr (pe_bm PySem.F.plainAttrs_list PySem.F.slot_list_append PySem.F.type_list_append mt_append (pv 2) (pa_cons (pe_tup (pa_cons (pe_str) (pa_cons (pv 5) (pa_cons (pv 7) (pa_cons (pv 3) (pa_nil)))))) (pa_nil))))))) (pss_one (ps_expr (pe_bm PySem.F.plainAttrs_list PySem.F.slot_list_append PySem.F.type_list_append mt_append (pv 2) (pa_cons (pe_tup (pa_cons (pe_str) (pa_cons (pe_ix (ixK (K := K) rfl) (pv 0) (pv 3) (fun _ _ => rfl)) (pa_cons (pv 3) (pa_nil))))) (pa_nil))))))))
 (pss_one (ps_set (i := 1) nd rfl (Or.inl rfl) (pe_op (addK (K := K) rfl) (pv 1) (pe_int)))))))
 (pss_one (ps_ret (pe_tup (pa_cons (pe_callTy (tupK (K := K) rfl) rfl g_tuple bt_tuple (pa_cons (pv 2) (pa_nil))) (pa_cons (pv 1) (pa_nil)))))))), ?_⟩
  refine body_x nm_nodes_from ?_ vs H Q E h
  clear h hr
  intro c n x hK hp
  (subst hK)
  try clear g_len S_nodes_from g_int g_tuple F
  obtain ⟨ts, p, ns⟩ := x
  obtain ⟨h1, h2, h3, rest, h4, h5⟩ : NfP (dp + 1) ts p ns := hp
  dsimp only
  have z1 : 1001 ≤ sizeLine := by rw [sizeLine_eq]; decide
  have hlen : p + tkN ns ≤ max p ts.length := by
    have := congrArg List.length h4
    rw [List.length_drop, List.length_append, toks_len] at this
    omega
  have hnn : nN ns ≤ 1000 := by
    have := congrArg List.length h4
    rw [List.length_drop, List.length_append, toks_len] at this
    have := nN_le ns
    omega
  walk_at "WK"
  refine ws_mid (fun e1 => ∃ s3 s4 s5 s6 s7, e1 = ⟨[.val (.py (.list (ttx ts))), .val (.py (.int ((p + tkN ns : Nat) : Int))), .own (.lst (dat p ns)), s3, s4, s5, s6, s7], n⟩) ?_ ?_
  · refine ws_while (fun m e1 => ∃ q ms L s3 s4 s5 s6 s7, m = tkN ms ∧ L ++ dat q ms = dat p ns ∧ q + tkN ms = p + tkN ns ∧ ts.drop q = toks ms ++ rest ∧ dpN ms ≤ dpN ns ∧ e1 = ⟨[.val (.py (.list (ttx ts))), .val (.py (.int (q : Int))), .own (.lst L), s3, s4, s5, s6, s7], n⟩) ⟨tkN ns, p, ns, [], .emp, .emp, .emp, .emp, .emp, rfl, rfl, rfl, h4, Nat.le_refl _, rfl⟩ ?_
    rintro m e1 ⟨q, ms, L, s3, s4, s5, s6, s7, rfl, hL, hq, hd, hdp, rfl⟩
    have hLn : L.length + nN ms ≤ 1000 := by
      have := congrArg List.length hL
      rw [List.length_append, dat_len, dat_len] at this
      omega
    walk_at "WK"
    rw [ttx_len]
    cases ms with
    | nil =>
      have hd' : ts.drop q = rest := hd
      have hL' : L = dat p ns := by rw [← hL]; exact (List.append_nil L).symm
      have hq' : q = p + tkN ns := hq
      refine ⟨fun q1 => ?_, fun q1 => ⟨fun z => (nomatch z), fun _ => ?_⟩⟩
      · have q1' := of_decide_eq_true q1
        cases rest with
        | nil =>
          have := List.drop_eq_nil_iff.mp hd'
          omega
        | cons t rest =>
          obtain ⟨ht, htm, hlt, hd1⟩ := drop_tk hd'
          have ht33 := tk_len (h2 t htm)
          have l3 : t.tx.length ≤ sizeLine := by unfold Tk.tx; rw [sg_len]; exact Nat.le_trans ht33.2 (by rw [sizeLine_eq]; decide)
          walk_at "WK"
          refine ⟨_, ttx_get ht, ?_⟩
          walk_at "WK"
          refine ⟨shp_tk _, by decide +kernel, ?_⟩
          rw [mem_ic]
          cases t with
          | bi =>
            rw [show isIC .bi = true from rfl]
            walk_at "WK"
            refine ⟨fun z => (nomatch z), fun _ => ?_⟩
            walk_at "WK"
            refine ⟨fun z => (nomatch z), fun _ => ?_⟩
            subst hL' hq'
            exact ⟨_, _, _, _, _, rfl⟩
          | bc =>
            rw [show isIC .bc = true from rfl]
            walk_at "WK"
            refine ⟨fun z => (nomatch z), fun _ => ?_⟩
            walk_at "WK"
            refine ⟨fun z => (nomatch z), fun _ => ?_⟩
            subst hL' hq'
            exact ⟨_, _, _, _, _, rfl⟩
          | cl v =>
            rw [show isIC (.cl v) = false from rfl]
            walk_at "WK"
            refine ⟨fun _ => ?_, fun z => (nomatch z)⟩
            walk_at "WK"
            refine ⟨_, ttx_get ht, ?_⟩
            walk_at "WK"
            refine ⟨l3, 41, at0 rfl, ?_⟩
            walk_at "WK"
            refine ⟨by decide +kernel, by decide +kernel, ?_⟩
            rw [show (PyData.str { cps := #[41] }).eqv (PyData.str (Str.ofString ")")) = true by decide +kernel]
            walk_at "WK"
            refine ⟨fun z => (nomatch z), fun _ => ?_⟩
            subst hL' hq'
            exact ⟨_, _, _, _, _, rfl⟩
          | w v => exact h5.elim
          | op => exact h5.elim
          | bo => exact h5.elim
      · subst hL' hq'
        exact ⟨_, _, _, _, _, rfl⟩
    | dow v r =>
      obtain ⟨ht, htm, hlt, hd1⟩ := drop_tk (t := .w v) (r := toks r ++ rest) hd
      have okw : okWd v := h2 _ htm
      obtain ⟨ch, r1, ew, c1, c2⟩ := wd_cons0 (w := v)
      have es : (Tk.w v).sg = ch :: r1 := ew
      have ht33 := tk_len (h2 _ htm)
      have l3 : (Tk.w v).tx.length ≤ sizeLine := by unfold Tk.tx; rw [sg_len]; exact Nat.le_trans ht33.2 (by rw [sizeLine_eq]; decide)
      refine ⟨fun q1 => ?_, fun q1 => absurd (of_decide_eq_false q1) (fun z => z (by omega))⟩
      walk_at "WK"
      refine ⟨_, ttx_get ht, ?_⟩
      walk_at "WK"
      refine ⟨shp_tk _, by decide +kernel, ?_⟩
      rw [mem_ic, show isIC (.w v) = false from rfl]
      walk_at "WK"
      refine ⟨fun _ => ?_, fun z => (nomatch z)⟩
      walk_at "WK"
      refine ⟨_, ttx_get ht, ?_⟩
      walk_at "WK"
      refine ⟨l3, ch, at0 es, ?_⟩
      walk_at "WK"
      rw [txt_e]
      refine ⟨shp_sg (l := [ch]) (by simp; omega), shp_sg (by simp), ?_⟩
      rw [show (⟨#[ch]⟩ : Str) = sg [ch] from rfl, eqv_sg, decide_eq_false (fun z => by have := (List.cons.inj z).1; omega)]
      walk_at "WK"
      refine ⟨fun _ => ?_, fun z => (nomatch z)⟩
      walk_at "WK"
      refine ⟨_, ttx_get ht, ?_⟩
      walk_at "WK"
      rw [txt_o]
      refine ⟨shp_tk _, shp_sg (by simp), ?_⟩
      rw [eqv_tk, es, decide_eq_false (fun z => by have := (List.cons.inj z).1; omega)]
      walk_at "WK"
      refine ⟨fun z => (nomatch z), fun _ => ?_⟩
      walk_at "WK"
      refine ⟨_, ttx_get ht, ?_⟩
      walk_at "WK"
      rw [txt_b]
      refine ⟨shp_tk _, shp_sg (by simp), ?_⟩
      rw [eqv_tk, es, decide_eq_false (fun z => by have := (List.cons.inj z).1; omega)]
      walk_at "WK"
      refine ⟨fun z => (nomatch z), fun _ => ?_⟩
      walk_at "WK"
      refine ⟨_, ttx_get ht, ?_⟩
      walk_at "WK"
      have hn1 : nN (.dow v r) = 1 + nN r := rfl
      refine ⟨_, rfl, by omega, ?_⟩
      walk_at "WK"
      have hk : tkN (.dow v r) = 1 + tkN r := rfl
      have hdr : dpN (.dow v r) = dpN r := rfl
      refine ⟨tkN r, by omega, q + 1, r, L ++ [.tuple [.str (Str.ofString "do"), .str v.tx, .int (q : Int)]], .val (.py (.int (q : Int))), s4, s5, s6, s7, rfl, ?_, by omega, hd1, by omega, rfl⟩
      rw [List.append_assoc]
      exact hL
    | rep v b r =>
      obtain ⟨ht, htm, hlt, hd1⟩ := drop_tk (t := .op) (r := (toks b ++ .cl v :: toks r) ++ rest) hd
      have hd2 : ts.drop (q + 1) = toks b ++ (.cl v :: (toks r ++ rest)) := by rw [hd1, List.append_assoc]; rfl
      have hd3 := drop_app hd2
      rw [toks_len] at hd3
      obtain ⟨ht2, htm2, hlt2, hd4⟩ := drop_tk hd3
      have hk : tkN (.rep v b r) = 2 + tkN b + tkN r := rfl
      have hdr : dpN (.rep v b r) = max (1 + dpN b) (dpN r) := rfl
      have hn1 : nN (.rep v b r) = 1 + nN r := rfl
      have okv : 2 ≤ v ∧ v ≤ 10 ^ 30 := h2 _ htm2
      have ht33 := tk_len (h2 _ htm2)
      have l3 : (Tk.cl v).tx.length ≤ sizeLine := by unfold Tk.tx; rw [sg_len]; exact Nat.le_trans ht33.2 (by rw [sizeLine_eq]; decide)
      have e' : (Tk.cl v).tx.cps.toList = 41 :: TL.numL v := rfl
      refine ⟨fun q1 => ?_, fun q1 => absurd (of_decide_eq_false q1) (fun z => z (by omega))⟩
      walk_at "WK"
      refine ⟨_, ttx_get ht, ?_⟩
      walk_at "WK"
      refine ⟨shp_tk _, by decide +kernel, ?_⟩
      rw [mem_ic, show isIC .op = false from rfl]
      walk_at "WK"
      refine ⟨fun _ => ?_, fun z => (nomatch z)⟩
      walk_at "WK"
      refine ⟨_, ttx_get ht, ?_⟩
      walk_at "WK"
      refine ⟨Nat.le_trans (show Tk.op.tx.length ≤ 1 by decide +kernel) (by omega), 40, at0 rfl, ?_⟩
      walk_at "WK"
      refine ⟨by decide +kernel, by decide +kernel, ?_⟩
      rw [show (PyData.str { cps := #[40] }).eqv (PyData.str (Str.ofString ")")) = false by decide +kernel]
      walk_at "WK"
      refine ⟨fun _ => ?_, fun z => (nomatch z)⟩
      walk_at "WK"
      refine ⟨_, ttx_get ht, ?_⟩
      walk_at "WK"
      refine ⟨fun _ => ?_, fun z => (nomatch z)⟩
      walk_at "WK"
      refine ⟨(ts, q + 1, b), rfl, ⟨h1, h2, by show dpN b < dp; omega, .cl v :: (toks r ++ rest), hd2, trivial⟩, ?_⟩
      rintro d m ⟨rfl, rfl⟩
      refine ⟨rfl, ?_⟩
      walk_at "WK"
      refine ⟨_, ttx_get ht2, ?_⟩
      walk_at "WK"
      refine ⟨l3, ?_⟩
      rw [cut_tail _ e', ← txN_sg]
      walk_at "WK"
      refine cw_intS (one_mk ⟨_, _, rfl, txN_int (show v < 10 ^ 200 by omega), Nat.le_trans (txN_le (k := 31) (by decide) (show v < 10 ^ 31 by omega)) (by decide), ?_⟩)
      walk_at "WK"
      refine ⟨_, rfl, by omega, ?_⟩
      walk_at "WK"
      refine nf_end (r' := r) (q' := q + 2 + tkN b) (by omega) (by push_cast; omega) ?_ (by omega) (by rw [show q + 2 + tkN b = q + 1 + tkN b + 1 by omega]; exact hd4) (by omega)
      rw [List.append_assoc]
      exact hL
    | cho a b r =>
      obtain ⟨ht, htm, hlt, hd1⟩ := drop_tk (t := .bo) (r := (toks a ++ .bi :: (toks b ++ .bc :: toks r)) ++ rest) hd
      have hd2 : ts.drop (q + 1) = toks a ++ (.bi :: (toks b ++ (.bc :: (toks r ++ rest)))) := by rw [hd1, List.append_assoc, List.cons_append, List.append_assoc]; rfl
      have hd3 := drop_app hd2
      rw [toks_len] at hd3
      obtain ⟨ht2, htm2, hlt2, hd4⟩ := drop_tk hd3
      have hd5 := drop_app hd4
      rw [toks_len] at hd5
      obtain ⟨ht3, htm3, hlt3, hd6⟩ := drop_tk hd5
      have hk : tkN (.cho a b r) = 3 + tkN a + tkN b + tkN r := rfl
      have hdr : dpN (.cho a b r) = max (1 + max (dpN a) (dpN b)) (dpN r) := rfl
      have hn1 : nN (.cho a b r) = 1 + nN r := rfl
      refine ⟨fun q1 => ?_, fun q1 => absurd (of_decide_eq_false q1) (fun z => z (by omega))⟩
      walk_at "WK"
      refine ⟨_, ttx_get ht, ?_⟩
      walk_at "WK"
      refine ⟨shp_tk _, by decide +kernel, ?_⟩
      rw [mem_ic, show isIC .bo = false from rfl]
      walk_at "WK"
      refine ⟨fun _ => ?_, fun z => (nomatch z)⟩
      walk_at "WK"
      refine ⟨_, ttx_get ht, ?_⟩
      walk_at "WK"
      refine ⟨Nat.le_trans (show Tk.bo.tx.length ≤ 1 by decide +kernel) (by omega), 123, at0 rfl, ?_⟩
      walk_at "WK"
      refine ⟨by decide +kernel, by decide +kernel, ?_⟩
      rw [show (PyData.str { cps := #[123] }).eqv (PyData.str (Str.ofString ")")) = false by decide +kernel]
      walk_at "WK"
      refine ⟨fun _ => ?_, fun z => (nomatch z)⟩
      walk_at "WK"
      refine ⟨_, ttx_get ht, ?_⟩
      walk_at "WK"
      refine ⟨fun z => (nomatch z), fun _ => ?_⟩
      walk_at "WK"
      refine ⟨_, ttx_get ht, ?_⟩
      walk_at "WK"
      refine ⟨fun _ => ?_, fun z => (nomatch z)⟩
      walk_at "WK"
      refine ⟨(ts, q + 1, a), rfl, ⟨h1, h2, by show dpN a < dp; omega, .bi :: (toks b ++ (.bc :: (toks r ++ rest))), hd2, trivial⟩, ?_⟩
      rintro d m ⟨rfl, rfl⟩
      refine ⟨rfl, ?_⟩
      walk_at "WK"
      refine ⟨(ts, q + 1 + tkN a + 1, b), rfl, ⟨h1, h2, by show dpN b < dp; omega, .bc :: (toks r ++ rest), hd4, trivial⟩, ?_⟩
      rintro d m ⟨rfl, rfl⟩
      refine ⟨rfl, ?_⟩
      walk_at "WK"
      refine ⟨_, rfl, by omega, ?_⟩
      walk_at "WK"
      refine nf_end (r' := r) (q' := q + 3 + tkN a + tkN b) (by omega) (by push_cast; omega) ?_ (by omega) (by rw [show q + 3 + tkN a + tkN b = q + 1 + tkN a + 1 + tkN b + 1 by omega]; exact hd6) (by omega)
      rw [List.append_assoc, show q + 1 + tkN a + 1 = q + 2 + tkN a by omega]
      exact hL
  rintro e1 ⟨s3, s4, s5, s6, s7, rfl⟩
  walk_at "WK"
  first | exact ⟨rfl, rfl⟩ | rfl
end
end Wx

/-! ### part U6 -/
set_option Elab.async false
set_option linter.all false
set_option maxRecDepth 100000
set_option maxHeartbeats 1000000
set_option autoImplicit false
namespace Wx
open PySem L2
theorem dat_at {l r : List PyData} {i : Nat} {x : PyData} {d : D} (hd : (l.map D.py)[i]? = some d) (h : l.drop i = x :: r) : d = .py x ∧ l.drop (i + 1) = r := by
  have e1 : l[i]? = some x := by
    have := congrArg (fun l : List PyData => l[0]?) h
    rw [List.getElem?_drop] at this
    exact this
  have hp := (List.getElem?_eq_some_iff.mp e1).1
  rw [List.getElem?_map, e1] at hd
  rw [List.drop_eq_getElem_cons hp] at h
  exact ⟨(Option.some.inj hd).symm, (List.cons.inj h).2⟩
theorem dat_no {l : List PyData} {i : Nat} {d : D} (hd : (l.map D.py)[i]? = some d) (h : l.drop i = []) : False := by
  have h1 := (List.getElem?_eq_some_iff.mp hd).1
  rw [List.length_map] at h1
  have := List.drop_eq_nil_iff.mp h
  omega
/-! ## the number of steps -/
def lnN : Ns → Nat
  | .nil => 0
  | .dow _ r => 1 + lnN r
  | .rep n b r => n * lnN b + lnN r
  | .cho _ _ r => lnN r
theorem lnN_le : ∀ {ns : Ns} {D : Nat}, wfN ns → dpN ns ≤ D → lnN ns ≤ tkN ns * (10 ^ 30) ^ D
  | .nil, D, _, _ => Nat.zero_le _
  | .dow w r, D, hw, h => by
    have ih := lnN_le (ns := r) hw.2 h
    have h1 : 1 ≤ (10 ^ 30) ^ D := Nat.pow_pos (by decide)
    show 1 + lnN r ≤ (1 + tkN r) * (10 ^ 30) ^ D
    rw [Nat.add_mul, Nat.one_mul]
    omega
  | .rep n b r, D, hw, h => by
    have hd : max (1 + dpN b) (dpN r) ≤ D := h
    have ih := lnN_le (ns := r) hw.2.2 (show dpN r ≤ D by omega)
    obtain ⟨E, rfl⟩ : ∃ E, D = E + 1 := ⟨D - 1, by omega⟩
    have ib := lnN_le (ns := b) hw.2.1 (show dpN b ≤ E by omega)
    have hn := hw.1.2.1
    show n * lnN b + lnN r ≤ (2 + tkN b + tkN r) * (10 ^ 30) ^ (E + 1)
    have k1 : n * lnN b ≤ 10 ^ 30 * (tkN b * (10 ^ 30) ^ E) := Nat.mul_le_mul hn ib
    have k2 : ∀ X : Nat, X * (tkN b * X ^ E) = tkN b * X ^ (E + 1) := fun X => by
      rw [Nat.pow_succ, Nat.mul_left_comm, Nat.mul_comm X (X ^ E)]
    have k2 := k2 (10 ^ 30)
    rw [Nat.add_mul, Nat.add_mul]
    omega
  | .cho a b r, D, hw, h => by
    have hd : max (1 + max (dpN a) (dpN b)) (dpN r) ≤ D := h
    have ih := lnN_le (ns := r) hw.2.2.2 (show dpN r ≤ D by omega)
    show lnN r ≤ (3 + tkN a + tkN b + tkN r) * (10 ^ 30) ^ D
    rw [Nat.add_mul]
    omega
theorem lnN_lt {ns : Ns} (hw : wfN ns) (hd : dpN ns ≤ 12) (ht : tkN ns ≤ 1000) : lnN ns < 2 ^ 1300 :=
  Nat.lt_of_le_of_lt (Nat.le_trans (lnN_le hw hd) (Nat.mul_le_mul_right _ ht)) (by decide +kernel)
/-! ## whether nodes are plain -/
def plL : Ns → List Bool
  | .nil => []
  | .dow _ r => true :: plL r
  | .rep _ b r => plainN b :: plL r
  | .cho _ _ r => false :: plL r
theorem plL_all : ∀ ns : Ns, (plL ns).all id = plainN ns
  | .nil => rfl
  | .dow _ r => by show (true && (plL r).all id) = plainN r; rw [plL_all r]; rfl
  | .rep _ b r => by show (plainN b && (plL r).all id) = _; rw [plL_all r]; rfl
  | .cho _ _ r => rfl
section
variable {P : Program} {w : World} {K : PySem.W.Frag} {mg : Str → Option Value} {base : Heap} {f C : Addr} {fd : FuncData} {dp : Nat}
abbrev sp_nodes_in (K : PySem.W.Frag) : Sp := SpX (ι := Ns) K (fun ns => [.py (.list (ttx (toks ns)))]) (fun ns _ => wfN ns ∧ dpN ns ≤ 12 ∧ tkN ns ≤ 1000) fun ns n d m => d = .py (.tuple (dat 0 ns)) ∧ m = n
theorem ln_nodes_in (ns : Ns) : [D.py (.list (ttx (toks ns)))].length = 1 := rfl
theorem nm_nodes_in (ns : Ns) : [D.py (.list (ttx (toks ns)))].all D.nm = true := rfl
theorem sc_nodes_in : FnScope ["words"] ["words"] (defScope (top 32)) := ⟨rfl, rfl, rfl, by decide +kernel, rfl, by decide +kernel, by decide +kernel⟩
theorem ok_nodes_in (F : FnP K "nodes_in" "nodes_in" (top 32) f fd) (S_nodes_from : Std P w K mg base 14 "nodes_from" ["words", "place"] (sp_nodes_from K 13)) : FnOk P w K mg base CX0 15 f fd ["words"] (sp_nodes_in K) := by
  refine F.ok sc_nodes_in (sx_len ln_nodes_in) (fun cdv A outer s H vs Q E hr h => ?_)
  have nd := sc_nodes_in.nd
  refine ⟨_, PSs.nox (pss_one (ps_ret (pe_ix (ixK (K := K) rfl) (pe_std S_nodes_from hr rfl (pa_cons (pv 0) (pa_cons (pe_int) (pa_nil)))) (pe_int) (fun _ _ => rfl)))), ?_⟩
  refine body_x nm_nodes_in ?_ vs H Q E h
  clear h hr
  intro c n x hK hp
  (subst hK)
  try clear S_nodes_from F
  obtain ⟨h1, h2, h3⟩ : wfN x ∧ dpN x ≤ 12 ∧ tkN x ≤ 1000 := hp
  walk_at "WK"
  refine ⟨(toks x, 0, x), rfl, ⟨by rw [toks_len]; exact h3, wf_toks h1, by show dpN x < 13; omega, [], (List.append_nil _).symm, trivial⟩, ?_⟩
  rintro d m ⟨rfl, rfl⟩
  refine ⟨rfl, ?_⟩
  walk_at "WK"
  refine ⟨_, rfl, ?_⟩
  exact ⟨rfl, rfl⟩
abbrev sp_joined_measure (K : PySem.W.Frag) : Sp := SpX (ι := (Int × Int × Int) × (Int × Int × Int)) K (fun x => [.py (t3 x.1), .py (t3 x.2)]) (fun _ _ => True) fun x n d m => d = .py (t3 (joinM x.1 x.2)) ∧ m = n
theorem ln_joined_measure (x : (Int × Int × Int) × (Int × Int × Int)) : [D.py (t3 x.1), .py (t3 x.2)].length = 2 := rfl
theorem nm_joined_measure (x : (Int × Int × Int) × (Int × Int × Int)) : [D.py (t3 x.1), .py (t3 x.2)].all D.nm = true := rfl
theorem sc_joined_measure : FnScope ["measure", "other", "need", "rise", "growth"] ["measure", "other"] (defScope (top 33)) := ⟨rfl, rfl, rfl, by decide +kernel, rfl, by decide +kernel, by decide +kernel⟩
theorem ok_joined_measure (F : FnP K "joined_measure" "joined_measure" (top 33) f fd) (g_max : mg "max" = none) : FnOk P w K mg base CX0 1 f fd ["measure", "other"] (sp_joined_measure K) := by
  refine F.ok sc_joined_measure (sx_len ln_joined_measure) (fun cdv A outer s H vs Q E hr h => ?_)
  have nd := sc_joined_measure.nd
  refine ⟨_, PSs.nox (pss_cons (ps_asg (pv 0) (gtupK (K := K) (n := 3) rfl rfl (pgs_cons (pg_name (i := 2) nd rfl (Or.inl rfl)) (pgs_cons (pg_name (i := 3) nd rfl (Or.inl rfl)) (pgs_cons (pg_name (i := 4) nd rfl (Or.inl rfl)) (pgs_nil))))))
 (pss_one (ps_ret (pe_tup (pa_cons (pe_callB (callMAX2 rfl) rfl g_max bt_max (pa_cons (pv 2) (pa_cons (pe_op op_sub (pe_ix (ixK (K := K) rfl) (pv 1) (pe_int) (fun _ _ => rfl)) (pv 4)) (pa_nil)))) (pa_cons (pe_callB (callMAX2 rfl) rfl g_max bt_max (pa_cons (pv 3) (pa_cons (pe_op (addK (K := K) rfl) (pv 4) (pe_ix (ixK (K := K) rfl) (pv 1) (pe_int) (fun _ _ => rfl))) (pa_nil)))) (pa_cons (pe_op (addK (K := K) rfl) (pv 4) (pe_ix (ixK (K := K) rfl) (pv 1) (pe_int) (fun _ _ => rfl))) (pa_nil)))))))), ?_⟩
  refine body_x nm_joined_measure ?_ vs H Q E h
  clear h hr
  intro c n x hK hp
  (subst hK)
  try clear g_max F
  obtain ⟨⟨a1, a2, a3⟩, ⟨b1, b2, b3⟩⟩ := x
  dsimp only
  refine ws_seq (ws_asg [2, 3, 4] ?_)
  walk_at "WK"
  refine wg_trip rfl ⟨_, _, _, rfl, wg_name ⟨rfl, wg_name ⟨rfl, wg_name ⟨rfl, ?_⟩ (Nat.le_of_ble_eq_true rfl) (by decide)⟩ (Nat.le_of_ble_eq_true rfl) (by decide)⟩ (Nat.le_of_ble_eq_true rfl) (by decide)⟩
  walk_at "WK"
  refine ⟨_, rfl, ?_⟩
  walk_at "WK"
  refine ⟨_, rfl, ?_⟩
  walk_at "WK"
  refine ⟨_, rfl, ?_⟩
  walk_at "WK"
  first | exact ⟨rfl, rfl⟩ | rfl
abbrev sp_repeated_measure (K : PySem.W.Frag) : Sp := SpX (ι := (Int × Int × Int) × Int) K (fun x => [.py (t3 x.1), .py (.int x.2)]) (fun x _ => 1 ≤ x.2 ∧ x.2 ≤ 10 ^ 30 ∧ -100 ≤ x.1.2.2 ∧ x.1.2.2 ≤ 100) fun x n d m => d = .py (t3 (repM x.1 x.2)) ∧ m = n
theorem ln_repeated_measure (x : (Int × Int × Int) × Int) : [D.py (t3 x.1), .py (.int x.2)].length = 2 := rfl
theorem nm_repeated_measure (x : (Int × Int × Int) × Int) : [D.py (t3 x.1), .py (.int x.2)].all D.nm = true := rfl
theorem sc_repeated_measure : FnScope ["measure", "number", "need", "rise", "growth"] ["measure", "number"] (defScope (top 34)) := ⟨rfl, rfl, rfl, by decide +kernel, rfl, by decide +kernel, by decide +kernel⟩
theorem ok_repeated_measure (F : FnP K "repeated_measure" "repeated_measure" (top 34) f fd) (g_max : mg "max" = none) : FnOk P w K mg base CX0 1 f fd ["measure", "number"] (sp_repeated_measure K) := by
  refine F.ok sc_repeated_measure (sx_len ln_repeated_measure) (fun cdv A outer s H vs Q E hr h => ?_)
  have nd := sc_repeated_measure.nd
  refine ⟨_, PSs.nox (pss_cons (ps_asg (pv 0) (gtupK (K := K) (n := 3) rfl rfl (pgs_cons (pg_name (i := 2) nd rfl (Or.inl rfl)) (pgs_cons (pg_name (i := 3) nd rfl (Or.inl rfl)) (pgs_cons (pg_name (i := 4) nd rfl (Or.inl rfl)) (pgs_nil))))))
 (pss_one (ps_ret (pe_tup (pa_cons (pe_op (addK (K := K) rfl) (pv 2) (pe_op opMUL (pe_op op_sub (pv 1) (pe_int)) (pe_callB (callMAX2 rfl) rfl g_max bt_max (pa_cons (pe_int) (pa_cons (pe_un un_neg (pv 4)) (pa_nil)))))) (pa_cons (pe_op (addK (K := K) rfl) (pv 3) (pe_op opMUL (pe_op op_sub (pv 1) (pe_int)) (pe_callB (callMAX2 rfl) rfl g_max bt_max (pa_cons (pe_int) (pa_cons (pv 4) (pa_nil)))))) (pa_cons (pe_op opMUL (pv 1) (pv 4)) (pa_nil)))))))), ?_⟩
  refine body_x nm_repeated_measure ?_ vs H Q E h
  clear h hr
  intro c n x hK hp
  (subst hK)
  try clear g_max F
  obtain ⟨⟨a1, a2, a3⟩, k⟩ := x
  obtain ⟨h1, h2, h3, h4⟩ : 1 ≤ k ∧ k ≤ 10 ^ 30 ∧ -100 ≤ a3 ∧ a3 ≤ 100 := hp
  dsimp only
  refine ws_seq (ws_asg [2, 3, 4] ?_)
  walk_at "WK"
  refine wg_trip rfl ⟨_, _, _, rfl, wg_name ⟨rfl, wg_name ⟨rfl, wg_name ⟨rfl, ?_⟩ (Nat.le_of_ble_eq_true rfl) (by decide)⟩ (Nat.le_of_ble_eq_true rfl) (by decide)⟩ (Nat.le_of_ble_eq_true rfl) (by decide)⟩
  walk_at "WK"
  refine rw_mI (wide_mul (a := 200) (b := 200) (by omega) (by dsimp only; split <;> omega) (by decide) (by decide) (by decide)) ?_
  walk_at "WK"
  refine rw_mI (wide_mul (a := 200) (b := 200) (by omega) (by dsimp only; split <;> omega) (by decide) (by decide) (by decide)) ?_
  walk_at "WK"
  refine rw_mI (wide_mul (a := 200) (b := 200) (by omega) (by dsimp only; omega) (by decide) (by decide) (by decide)) ?_
  walk_at "WK"
  first | exact ⟨rfl, rfl⟩ | rfl
end
end Wx

/-! ### part U7 -/
set_option Elab.async false
set_option linter.all false
set_option maxRecDepth 100000
set_option maxHeartbeats 1000000
set_option autoImplicit false
namespace Wx
open PySem L2

section
variable {P : Program} {w : World} {K : PySem.W.Frag} {mg : Str → Option Value} {base : Heap} {f C : Addr} {fd : FuncData} {dp : Nat}
abbrev sp_measure_in (K : PySem.W.Frag) (dp : Nat) : Sp := SpX (ι := Nat × Ns) K (fun x => [.py (.tuple (dat x.1 x.2))]) (fun x _ => wfN x.2 ∧ dpN x.2 < dp) fun x n d m => d = .py (t3 (mN x.2)) ∧ m = n
theorem ln_measure_in (x : Nat × Ns) : [D.py (.tuple (dat x.1 x.2))].length = 1 := rfl
theorem nm_measure_in (x : Nat × Ns) : [D.py (.tuple (dat x.1 x.2))].all D.nm = true := rfl
theorem sc_measure_in : FnScope ["nodes", "found", "node", "first", "second"] ["nodes"] (defScope (top 35)) := ⟨rfl, rfl, rfl, by decide +kernel, rfl, by decide +kernel, by decide +kernel⟩
theorem ok_measure_in (F : FnP K "measure_in" "measure_in" (top 35) f fd) (S_joined_measure : Std P w K mg base 1 "joined_measure" ["measure", "other"] (sp_joined_measure K)) (S_measure_of : Std P w K mg base 1 "measure_of" ["word"] (sp_measure_of K)) (S_repeated_measure : Std P w K mg base 1 "repeated_measure" ["measure", "number"] (sp_repeated_measure K)) (S_measure_in : Std P w K mg base (dp + 1) "measure_in" ["nodes"] (sp_measure_in K dp)) (g_max : mg "max" = none) : FnOk P w K mg base CX0 (dp + 1 + 1) f fd ["nodes"] (sp_measure_in K (dp + 1)) := by
  refine F.ok sc_measure_in (sx_len ln_measure_in) (fun cdv A outer s H vs Q E hr h => ?_)
  have nd := sc_measure_in.nd
  refine ⟨_, PSs.nox (pss_cons (ps_set (i := 1) nd rfl (Or.inl rfl) (pe_tup (pa_cons (pe_int) (pa_cons (pe_int) (pa_cons (pe_int) (pa_nil))))))
 (pss_cons (ps_for PassesOwn.never rfl (itupK (K := K) rfl (pv 0)) (pg_name (i := 2) nd rfl (Or.inl rfl)) (pss_one (ps_if (pt_cmpR (eqK (K := K) rfl (room64 hr)) (pe_ix (ixK (K := K) rfl) (pv 2) (pe_int) (fun _ _ => rfl)) (pe_str) (nomark _)) (pss_one (ps_set (i := 1) nd rfl (Or.inl rfl) (pe_std S_joined_measure (hr.mono (by omega)) rfl (pa_cons (pv 1) (pa_cons (pe_std S_measure_of (hr.mono (by omega)) rfl (pa_cons (pe_ix (ixK (K := K) rfl) (pv 2) (pe_int) (fun _ _ => rfl)) (pa_nil))) (pa_nil)))))) (pss_one (ps_if (pt_cmpR (eqK (K := K) rfl (room64 hr)) (pe_ix (ixK (K := K) rfl) (pv 2) (pe_int) (fun _ _ => rfl)) (pe_str) (nomark _)) (pss_one (ps_set (i := 1) nd rfl (Or.inl rfl) (pe_std S_joined_measure (hr.mono (by omega)) rfl (pa_cons (pv 1) (pa_cons (pe_std S_repeated_measure (hr.mono (by omega)) rfl (pa_cons (pe_std S_measure_in hr rfl (pa_cons (pe_ix (ixK (K := K) rfl) (pv 2) (pe_int) (fun _ _ => rfl)) (pa_nil))) (pa_cons (pe_ix (ixK (K := K) rfl) (pv 2) (pe_int) (fun _ _ => rfl)) (pa_nil)))) (pa_nil)))))) (pss_cons (ps_par (i := 3) (j := 4) rfl nd rfl rfl (by decide) rfl rfl (pa_cons (pe_std S_measure_in hr rfl (pa_cons (pe_ix (ixK (K := K) rfl) (pv 2) (pe_int) (fun _ _ => rfl)) (pa_nil))) (pa_cons (pe_std S_measure_in hr rfl (pa_cons (pe_ix (ixK (K := K) rfl) (pv 2) (pe_int) (fun _ _ => rfl)) (pa_nil))) (pa_nil))) rfl)
 (pss_one (ps_set (i := 1) nd rfl (Or.inl rfl) (pe_std S_joined_measure (hr.mono (by omega)) rfl (pa_cons (pv 1) (pa_cons (pe_tup (pa_cons (pe_callB (callMAX2 rfl) rfl g_max bt_max (pa_cons (pe_ix (ixK (K := K) rfl) (pv 3) (pe_int) (fun _ _ => rfl)) (pa_cons (pe_ix (ixK (K := K) rfl) (pv 4) (pe_int) (fun _ _ => rfl)) (pa_nil)))) (pa_cons (pe_callB (callMAX2 rfl) rfl g_max bt_max (pa_cons (pe_ix (ixK (K := K) rfl) (pv 3) (pe_int) (fun _ _ => rfl)) (pa_cons (pe_ix (ixK (K := K) rfl) (pv 4) (pe_int) (fun _ _ => rfl)) (pa_nil)))) (pa_cons (pe_ix (ixK (K := K) rfl) (pv 3) (pe_int) (fun _ _ => rfl)) (pa_nil))))) (pa_nil))))))))))))
 (pss_one (ps_ret (pv 1))))), ?_⟩
  refine body_x nm_measure_in ?_ vs H Q E h
  clear h hr
  intro c n x hK hp
  (subst hK)
  try clear S_joined_measure S_measure_of S_repeated_measure S_measure_in g_max F
  obtain ⟨p, ns⟩ := x
  obtain ⟨h1, h2⟩ : wfN ns ∧ dpN ns < dp + 1 := hp
  dsimp only
  walk_at "WK"
  refine ws_for [2] (wi_tup rfl ?_)
  walk_at "WK"
  refine ⟨fun i e1 => ∃ q ms mm s2 s3 s4, (dat p ns).drop i = dat q ms ∧ mA mm ms = mN ns ∧ wfN ms ∧ dpN ms ≤ dpN ns ∧ e1 = ⟨[.val (.py (.tuple (dat p ns))), .val (.py (t3 mm)), s2, s3, s4], n⟩, ⟨p, ns, (0, 0, 0), .emp, .emp, .emp, rfl, rfl, h1, Nat.le_refl _, rfl⟩, ?_, ?_⟩
  · rintro i d e1 hd ⟨q, ms, mm, s2, s3, s4, hq, hm, hw, hdp, rfl⟩
    cases ms with
    | nil => exact (dat_no hd hq).elim
    | dow v r =>
      obtain ⟨rfl, hq'⟩ := dat_at hd hq
      refine wg_name ⟨rfl, ?_⟩ (Nat.le_of_ble_eq_true rfl) (by decide)
      walk_at "WK"
      refine ⟨_, rfl, ?_⟩
      walk_at "WK"
      refine ⟨fun _ => ?_, fun z => absurd z (by decide)⟩
      walk_at "WK"
      refine ⟨_, rfl, ?_⟩
      walk_at "WK"
      refine ⟨v, rfl, hw.1, ?_⟩
      rintro d m ⟨rfl, rfl⟩
      refine ⟨rfl, ?_⟩
      walk_at "WK"
      refine ⟨(mm, mW v), rfl, trivial, ?_⟩
      rintro d m ⟨rfl, rfl⟩
      refine ⟨rfl, ?_⟩
      walk_at "WK"
      exact ⟨q + 1, r, joinM mm (mW v), _, _, _, hq', hm, hw.2, hdp, rfl⟩
    | rep k b r =>
      obtain ⟨rfl, hq'⟩ := dat_at hd hq
      obtain ⟨⟨k1, k2, k3, k4, k5⟩, wb, wr⟩ := hw
      have hdr : dpN (.rep k b r) = max (1 + dpN b) (dpN r) := rfl
      refine wg_name ⟨rfl, ?_⟩ (Nat.le_of_ble_eq_true rfl) (by decide)
      walk_at "WK"
      refine ⟨_, rfl, ?_⟩
      walk_at "WK"
      refine ⟨fun z => absurd z (by decide), fun _ => ?_⟩
      walk_at "WK"
      refine ⟨_, rfl, ?_⟩
      walk_at "WK"
      refine ⟨fun _ => ?_, fun z => absurd z (by decide)⟩
      walk_at "WK"
      refine ⟨_, rfl, ?_⟩
      walk_at "WK"
      refine ⟨(q + 1, b), rfl, ⟨wb, by show dpN b < dp; omega⟩, ?_⟩
      rintro d m ⟨rfl, rfl⟩
      refine ⟨rfl, ?_⟩
      walk_at "WK"
      refine ⟨_, rfl, ?_⟩
      walk_at "WK"
      have hg := gN_le wb k4
      refine ⟨(mN b, (k : Int)), rfl, ⟨by show (1 : Int) ≤ k; omega, by show (k : Int) ≤ 10 ^ 30; omega, by show -100 ≤ (mN b).2.2; rw [gN_m]; omega, by show (mN b).2.2 ≤ 100; rw [gN_m]; omega⟩, ?_⟩
      rintro d m ⟨rfl, rfl⟩
      refine ⟨rfl, ?_⟩
      walk_at "WK"
      refine ⟨(mm, repM (mN b) k), rfl, trivial, ?_⟩
      rintro d m ⟨rfl, rfl⟩
      refine ⟨rfl, ?_⟩
      walk_at "WK"
      exact ⟨q + 2 + tkN b, r, joinM mm (repM (mN b) k), _, _, _, hq', hm, wr, by omega, rfl⟩
    | cho a b r =>
      obtain ⟨rfl, hq'⟩ := dat_at hd hq
      obtain ⟨k1, wa, wb, wr⟩ := hw
      have hdr : dpN (.cho a b r) = max (1 + max (dpN a) (dpN b)) (dpN r) := rfl
      refine wg_name ⟨rfl, ?_⟩ (Nat.le_of_ble_eq_true rfl) (by decide)
      walk_at "WK"
      refine ⟨_, rfl, ?_⟩
      walk_at "WK"
      refine ⟨fun z => absurd z (by decide), fun _ => ?_⟩
      walk_at "WK"
      refine ⟨_, rfl, ?_⟩
      walk_at "WK"
      refine ⟨fun z => absurd z (by decide), fun _ => ?_⟩
      walk_at "WK"
      refine ⟨_, rfl, ?_⟩
      walk_at "WK"
      refine ⟨(q + 1, a), rfl, ⟨wa, by show dpN a < dp; omega⟩, ?_⟩
      rintro d m ⟨rfl, rfl⟩
      refine ⟨rfl, ?_⟩
      walk_at "WK"
      refine ⟨_, rfl, ?_⟩
      walk_at "WK"
      refine ⟨(q + 2 + tkN a, b), rfl, ⟨wb, by show dpN b < dp; omega⟩, ?_⟩
      rintro d m ⟨rfl, rfl⟩
      refine ⟨rfl, ?_⟩
      walk_at "WK"
      refine ⟨_, rfl, ?_⟩
      walk_at "WK"
      refine ⟨_, rfl, ?_⟩
      walk_at "WK"
      refine ⟨_, rfl, ?_⟩
      walk_at "WK"
      refine ⟨_, rfl, ?_⟩
      walk_at "WK"
      refine ⟨_, rfl, ?_⟩
      walk_at "WK"
      refine ⟨(mm, choM (mN a) (mN b)), rfl, trivial, ?_⟩
      rintro d m ⟨rfl, rfl⟩
      refine ⟨rfl, ?_⟩
      walk_at "WK"
      exact ⟨q + 3 + tkN a + tkN b, r, joinM mm (choM (mN a) (mN b)), _, _, _, hq', hm, wr, by omega, rfl⟩
  · rintro e1 ⟨q, ms, mm, s2, s3, s4, hq, hm, hw, hdp, rfl⟩
    rw [List.length_map, List.drop_of_length_le (Nat.le_refl _)] at hq
    have hn : ms = .nil := by cases ms <;> first | rfl | cases hq
    subst hn
    have hm' : mm = mN ns := hm
    subst hm'
    walk_at "WK"
    first | exact ⟨rfl, rfl⟩ | rfl
abbrev sp_length_in (K : PySem.W.Frag) (dp : Nat) : Sp := SpX (ι := Nat × Ns) K (fun x => [.py (.tuple (dat x.1 x.2))]) (fun x _ => wfN x.2 ∧ plainN x.2 = true ∧ dpN x.2 ≤ 12 ∧ tkN x.2 ≤ 1000 ∧ dpN x.2 < dp) fun x n d m => d = .py (.int (lnN x.2 : Int)) ∧ m = n
theorem ln_length_in (x : Nat × Ns) : [D.py (.tuple (dat x.1 x.2))].length = 1 := rfl
theorem nm_length_in (x : Nat × Ns) : [D.py (.tuple (dat x.1 x.2))].all D.nm = true := rfl
theorem sc_length_in : FnScope ["nodes", "found", "node"] ["nodes"] (defScope (top 37)) := ⟨rfl, rfl, rfl, by decide +kernel, rfl, by decide +kernel, by decide +kernel⟩
theorem ok_length_in (F : FnP K "length_in" "length_in" (top 37) f fd) (S_length_in : Std P w K mg base (dp + 1) "length_in" ["nodes"] (sp_length_in K dp)) : FnOk P w K mg base CX0 (dp + 1 + 1) f fd ["nodes"] (sp_length_in K (dp + 1)) := by
  refine F.ok sc_length_in (sx_len ln_length_in) (fun cdv A outer s H vs Q E hr h => ?_)
  have nd := sc_length_in.nd
  refine ⟨_, PSs.nox (pss_cons (ps_set (i := 1) nd rfl (Or.inl rfl) (pe_int))
 (pss_cons (ps_for PassesOwn.never rfl (itupK (K := K) rfl (pv 0)) (pg_name (i := 2) nd rfl (Or.inl rfl)) (pss_one (ps_set (i := 1) nd rfl (Or.inl rfl) (pe_op (addK (K := K) rfl) (pv 1) (pe_ifExp (pt_cmpR (eqK (K := K) rfl (room64 hr)) (pe_ix (ixK (K := K) rfl) (pv 2) (pe_int) (fun _ _ => rfl)) (pe_str) (nomark _)) (pe_int) (pe_op opMUL (pe_ix (ixK (K := K) rfl) (pv 2) (pe_int) (fun _ _ => rfl)) (pe_std S_length_in hr rfl (pa_cons (pe_ix (ixK (K := K) rfl) (pv 2) (pe_int) (fun _ _ => rfl)) (pa_nil)))))))))
 (pss_one (ps_ret (pv 1))))), ?_⟩
  refine body_x nm_length_in ?_ vs H Q E h
  clear h hr
  intro c n x hK hp
  (subst hK)
  try clear S_length_in F
  obtain ⟨p, ns⟩ := x
  obtain ⟨h1, h0, h3, h4, h2⟩ : wfN ns ∧ plainN ns = true ∧ dpN ns ≤ 12 ∧ tkN ns ≤ 1000 ∧ dpN ns < dp + 1 := hp
  dsimp only
  walk_at "WK"
  refine ws_for [2] (wi_tup rfl ?_)
  walk_at "WK"
  refine ⟨fun i e1 => ∃ q ms mm s2, (dat p ns).drop i = dat q ms ∧ mm + lnN ms = lnN ns ∧ wfN ms ∧ plainN ms = true ∧ dpN ms ≤ dpN ns ∧ tkN ms ≤ 1000 ∧ e1 = ⟨[.val (.py (.tuple (dat p ns))), .val (.py (.int (mm : Nat))), s2], n⟩, ⟨p, ns, 0, .emp, rfl, Nat.zero_add _, h1, h0, Nat.le_refl _, h4, rfl⟩, ?_, ?_⟩
  · rintro i d e1 hd ⟨q, ms, mm, s2, hq, hm, hw, hpl, hdp, htk, rfl⟩
    cases ms with
    | nil => exact (dat_no hd hq).elim
    | dow v r =>
      obtain ⟨rfl, hq'⟩ := dat_at hd hq
      have htr : tkN (.dow v r) = 1 + tkN r := rfl
      have hlr : lnN (.dow v r) = 1 + lnN r := rfl
      refine wg_name ⟨rfl, ?_⟩ (Nat.le_of_ble_eq_true rfl) (by decide)
      walk_at "WK"
      refine ⟨_, rfl, ?_⟩
      walk_at "WK"
      refine ⟨fun _ => ?_, fun z => absurd z (by decide)⟩
      walk_at "WK"
      exact ⟨q + 1, r, mm + 1, _, hq', by omega, hw.2, hpl, hdp, by omega, rfl⟩
    | rep k b r =>
      obtain ⟨rfl, hq'⟩ := dat_at hd hq
      obtain ⟨⟨k1, k2, k3, k4, k5⟩, wb, wr⟩ := hw
      have hdr : dpN (.rep k b r) = max (1 + dpN b) (dpN r) := rfl
      have htr : tkN (.rep k b r) = 2 + tkN b + tkN r := rfl
      have hlr : lnN (.rep k b r) = k * lnN b + lnN r := rfl
      have hpb : plainN b = true ∧ plainN r = true := by
        have : (plainN b && plainN r) = true := hpl
        simpa using this
      refine wg_name ⟨rfl, ?_⟩ (Nat.le_of_ble_eq_true rfl) (by decide)
      walk_at "WK"
      refine ⟨_, rfl, ?_⟩
      walk_at "WK"
      refine ⟨fun z => absurd z (by decide), fun _ => ?_⟩
      walk_at "WK"
      refine ⟨_, rfl, ?_⟩
      walk_at "WK"
      refine ⟨_, rfl, ?_⟩
      walk_at "WK"
      refine ⟨(q + 1, b), rfl, ⟨wb, hpb.1, by show dpN b ≤ 12; omega, by show tkN b ≤ 1000; omega, by show dpN b < dp; omega⟩, ?_⟩
      rintro d m ⟨rfl, rfl⟩
      refine ⟨rfl, ?_⟩
      have hlt := lnN_lt wb (by omega) (by omega)
      walk_at "WK"
      refine rw_mI (wide_mul (a := 200) (b := 1300) (by omega) (by rw [Int.natAbs_natCast]; exact hlt) (by decide) (by decide) (by decide)) ?_
      walk_at "WK"
      exact ⟨q + 2 + tkN b, r, mm + k * lnN b, _, hq', by omega, wr, hpb.2, by omega, by omega, by rw [Int.natCast_add, Int.natCast_mul]; rfl⟩
    | cho a b r => cases hpl
  · rintro e1 ⟨q, ms, mm, s2, hq, hm, hw, hpl, hdp, htk, rfl⟩
    rw [List.length_map, List.drop_of_length_le (Nat.le_refl _)] at hq
    have hn : ms = .nil := by cases ms <;> first | rfl | cases hq
    subst hn
    have hm' : mm = lnN ns := hm
    subst hm'
    walk_at "WK"
    first | exact ⟨rfl, rfl⟩ | rfl
abbrev sp_is_plain_in (K : PySem.W.Frag) (dp : Nat) : Sp := SpX (ι := Nat × Ns) K (fun x => [.py (.tuple (dat x.1 x.2))]) (fun x _ => tkN x.2 ≤ 1000 ∧ dpN x.2 < dp) fun x n d m => d = .py (.bool (plainN x.2)) ∧ m = n
theorem ln_is_plain_in (x : Nat × Ns) : [D.py (.tuple (dat x.1 x.2))].length = 1 := rfl
theorem nm_is_plain_in (x : Nat × Ns) : [D.py (.tuple (dat x.1 x.2))].all D.nm = true := rfl
theorem sc_is_plain_in : FnScope ["nodes", "node"] ["nodes"] (defScope (top 36)) := ⟨rfl, rfl, rfl, by decide +kernel, rfl, by decide +kernel, by decide +kernel⟩
theorem ok_is_plain_in (F : FnP K "is_plain_in" "is_plain_in" (top 36) f fd) (g_all : mg "all" = none) (S_is_plain_in : Std P w K mg base (dp + 1) "is_plain_in" ["nodes"] (sp_is_plain_in K dp)) : FnOk P w K mg base CX0 (dp + 1 + 1) f fd ["nodes"] (sp_is_plain_in K (dp + 1)) := by
  refine F.ok sc_is_plain_in (sx_len ln_is_plain_in) (fun cdv A outer s H vs Q E hr h => ?_)
  have nd := sc_is_plain_in.nd
  refine ⟨_, PSs.nox (pss_one (ps_ret (pe_callB (allK (K := K) rfl rfl) rfl g_all bt_all (pa_cons (pe_lc (own := [("node", 1)]) rfl nd (itupK (K := K) rfl (pv 0)) (blkOk_by (N := ["nodes", "node"]) (sc := (defScope (top 36))) (by decide +kernel)) (fun _ _ _ _ _ => pg_name (i := 1) nd rfl (Or.inl rfl) (.inr rfl)) (fun _ _ _ _ _ => pts_nil) (fun _ _ _ _ _ => pe_or (pe_cmpR (eqK (K := K) rfl (room64 hr)) (pe_ix (ixK (K := K) rfl) (pv 1) (pe_int) (fun _ _ => rfl)) (pe_str) (nomark _)) (pe_one (pe_and (pe_cmpR (eqK (K := K) rfl (room64 hr)) (pe_ix (ixK (K := K) rfl) (pv 1) (pe_int) (fun _ _ => rfl)) (pe_str) (nomark _)) (pe_one (pe_std S_is_plain_in hr rfl (pa_cons (pe_ix (ixK (K := K) rfl) (pv 1) (pe_int) (fun _ _ => rfl)) (pa_nil)))))))) (pa_nil))))), ?_⟩
  refine body_x nm_is_plain_in ?_ vs H Q E h
  clear h hr
  intro c n x hK hp
  (subst hK)
  try clear g_all S_is_plain_in F
  obtain ⟨p, ns⟩ := x
  obtain ⟨h1, h2⟩ : tkN ns ≤ 1000 ∧ dpN ns < dp + 1 := hp
  dsimp only
  walk_at "WK"
  refine wp_new (wn_lc (fun v hv => ?_) (wi_tup rfl ?_))
  · have : v = 1 := by simpa using hv
    subst this
    exact Nat.le_of_ble_eq_true rfl
  walk_at "WK"
  refine ⟨fun i acc m' => m' = n ∧ ∃ q ms L, (dat p ns).drop i = dat q ms ∧ L ++ plL ms = plL ns ∧ tkN ms ≤ 1000 ∧ dpN ms ≤ dpN ns ∧ acc = L.map PyData.bool, ⟨rfl, p, ns, [], rfl, rfl, h1, Nat.le_refl _, rfl⟩, by rw [List.length_map, dat_len]; have := nN_le ns; omega, ?_, ?_⟩
  · rintro i acc m' d hd ⟨rfl, q, ms, L, hq, hL, htk, hdp, rfl⟩
    cases ms with
    | nil => exact (dat_no hd hq).elim
    | dow v r =>
      obtain ⟨rfl, hq'⟩ := dat_at hd hq
      have htr : tkN (.dow v r) = 1 + tkN r := rfl
      refine wg_name ⟨rfl, ?_⟩ (Nat.le_of_ble_eq_true rfl) (by decide)
      refine wt_yes ⟨fun _ => ?_, fun z => nomatch z⟩
      walk_at "WK"
      refine ⟨_, rfl, ?_⟩
      walk_at "WK"
      refine ⟨fun z => absurd z (by decide), fun _ => ?_⟩
      exact ⟨rfl, q + 1, r, L ++ [true], hq', by rw [List.append_assoc]; exact hL, by omega, hdp, by rw [List.map_append]; rfl⟩
    | rep k b r =>
      obtain ⟨rfl, hq'⟩ := dat_at hd hq
      have hdr : dpN (.rep k b r) = max (1 + dpN b) (dpN r) := rfl
      have htr : tkN (.rep k b r) = 2 + tkN b + tkN r := rfl
      refine wg_name ⟨rfl, ?_⟩ (Nat.le_of_ble_eq_true rfl) (by decide)
      refine wt_yes ⟨fun _ => ?_, fun z => nomatch z⟩
      walk_at "WK"
      refine ⟨_, rfl, ?_⟩
      walk_at "WK"
      refine ⟨fun _ => ?_, fun z => absurd z (by decide)⟩
      walk_at "WK"
      refine ⟨_, rfl, ?_⟩
      walk_at "WK"
      refine ⟨fun _ => ?_, fun z => absurd z (by decide)⟩
      walk_at "WK"
      refine ⟨_, rfl, ?_⟩
      walk_at "WK"
      refine ⟨(q + 1, b), rfl, ⟨by show tkN b ≤ 1000; omega, by show dpN b < dp; omega⟩, ?_⟩
      rintro d m ⟨rfl, rfl⟩
      refine ⟨rfl, ?_⟩
      walk_at "WK"
      exact ⟨q + 2 + tkN b, r, L ++ [plainN b], hq', by rw [List.append_assoc]; exact hL, by omega, by omega, by rw [List.map_append]; rfl⟩
    | cho a b r =>
      obtain ⟨rfl, hq'⟩ := dat_at hd hq
      have hdr : dpN (.cho a b r) = max (1 + max (dpN a) (dpN b)) (dpN r) := rfl
      have htr : tkN (.cho a b r) = 3 + tkN a + tkN b + tkN r := rfl
      refine wg_name ⟨rfl, ?_⟩ (Nat.le_of_ble_eq_true rfl) (by decide)
      refine wt_yes ⟨fun _ => ?_, fun z => nomatch z⟩
      walk_at "WK"
      refine ⟨_, rfl, ?_⟩
      walk_at "WK"
      refine ⟨fun _ => ?_, fun z => absurd z (by decide)⟩
      walk_at "WK"
      refine ⟨_, rfl, ?_⟩
      walk_at "WK"
      refine ⟨fun z => absurd z (by decide), fun _ => ?_⟩
      exact ⟨rfl, q + 3 + tkN a + tkN b, r, L ++ [false], hq', by rw [List.append_assoc]; exact hL, by omega, by omega, by rw [List.map_append]; rfl⟩
  rintro acc m' ⟨rfl, q, ms, L, hq, hL, htk, hdp, rfl⟩
  rw [List.length_map, List.drop_of_length_le (Nat.le_refl _)] at hq
  have hn : ms = .nil := by cases ms <;> first | rfl | cases hq
  subst hn
  have hL' : L = plL ns := by rw [← hL]; exact (List.append_nil L).symm
  subst hL'
  walk_at "WK"
  refine cw_all rfl (one_mk (ls_py ⟨_, rfl, ?_⟩))
  dsimp only
  rw [plL_all]
  exact ⟨rfl, rfl⟩
end
end Wx

/-! ### part U8 -/
set_option Elab.async false
set_option linter.all false
set_option maxRecDepth 100000
set_option maxHeartbeats 1000000
set_option autoImplicit false
namespace Wx
open PySem L2
def isCC : Tk → Bool
  | .cl _ => true
  | .bc => true
  | _ => false
theorem mem_cc {t : Tk} {c : Nat} {r : List Nat} (e : t.sg = c :: r) : Mem (.str ⟨#[c]⟩) [.str (Str.ofString ")"), .str (Str.ofString "}")] = isCC t := by
  have key : ∀ a : Nat, (PyData.eqv (.str (sg [a])) (.str ⟨#[c]⟩)) = decide (c = a) := fun a => by
    rw [show (⟨#[c]⟩ : Str) = sg [c] from rfl, eqv_strD, decide_eq_decide]
    exact ⟨fun z => (List.cons.inj (sg_inj z)).1.symm, fun z => by rw [z]⟩
  rw [txt_e, txt_f]
  unfold Mem
  simp only [List.any_cons, List.any_nil, key, Bool.or_false]
  obtain ⟨c', r', e', k⟩ := tk_cons t
  rw [e] at e'
  obtain ⟨rfl, rfl⟩ := List.cons.inj e'
  cases t with
  | op => obtain ⟨rfl, rfl⟩ := k; rfl
  | bo => obtain ⟨rfl, rfl⟩ := k; rfl
  | bi => obtain ⟨rfl, rfl⟩ := k; rfl
  | bc => obtain ⟨rfl, rfl⟩ := k; rfl
  | cl n => obtain ⟨rfl, rfl⟩ := k; rfl
  | w v =>
    dsimp only at k
    rw [decide_eq_false (by omega), decide_eq_false (by omega)]
    rfl
def bI (b : Bool) : Int := if b then 1 else 0
def opF : List Tk → Int → Int → Int
  | [], _, f => f
  | t :: r, h, f => opF r (h + bI (isOB t) - bI (isCC t)) (mxI f (h + bI (isOB t) - bI (isCC t)))
def opN (ns : Ns) : Int := opF (toks ns) 0 0

section
variable {P : Program} {w : World} {K : PySem.W.Frag} {mg : Str → Option Value} {base : Heap} {f C : Addr} {fd : FuncData}
abbrev sp_open_in (K : PySem.W.Frag) : Sp := SpX (ι := List Tk) K (fun ws => [.py (.list (ttx ws))]) (fun ws _ => ∀ w ∈ ws, okTk w) fun ws n d m => d = .py (.int (opF ws 0 0)) ∧ m = n
theorem ln_open_in (ws : List Tk) : [D.py (.list (ttx ws))].length = 1 := rfl
theorem nm_open_in (ws : List Tk) : [D.py (.list (ttx ws))].all D.nm = true := rfl
theorem sc_open_in : FnScope ["words", "here", "found", "word"] ["words"] (defScope (top 38)) := ⟨rfl, rfl, rfl, by decide +kernel, rfl, by decide +kernel, by decide +kernel⟩
theorem ok_open_in (F : FnP K "open_in" "open_in" (top 38) f fd) (g_max : mg "max" = none) (g_int : mg "int" = none) : FnOk P w K mg base CX0 1 f fd ["words"] (sp_open_in K) := by
  refine F.ok sc_open_in (sx_len ln_open_in) (fun cdv A outer s H vs Q E hr h => ?_)
  have nd := sc_open_in.nd
  refine ⟨_, PSs.nox (pss_cons (ps_set (i := 1) nd rfl (Or.inl rfl) (pe_int))
 (pss_cons (ps_set (i := 2) nd rfl (Or.inl rfl) (pe_int))
 (pss_cons (ps_for PassesOwn.never rfl (ilistK (K := K) rfl (pv 0)) (pg_name (i := 3) nd rfl (Or.inl rfl)) (pss_cons (ps_set (i := 1) nd rfl (Or.inl rfl) (pe_op op_sub (pe_op (addK (K := K) rfl) (pv 1) (pe_callTy callINT1 rfl g_int bt_int (pa_cons (pe_cmpR (inK (K := K) rfl (room65 hr)) (pv 3) (pe_tup (pa_cons (pe_str) (pa_cons (pe_str) (pa_nil)))) (by rfl)) (pa_nil)))) (pe_callTy callINT1 rfl g_int bt_int (pa_cons (pe_cmpR (inK (K := K) rfl (room65 hr)) (pe_ix (ixK (K := K) rfl) (pv 3) (pe_int) (fun _ _ => rfl)) (pe_tup (pa_cons (pe_str) (pa_cons (pe_str) (pa_nil)))) (by rfl)) (pa_nil)))))
 (pss_one (ps_set (i := 2) nd rfl (Or.inl rfl) (pe_callB (callMAX2 rfl) rfl g_max bt_max (pa_cons (pv 2) (pa_cons (pv 1) (pa_nil))))))))
 (pss_one (ps_ret (pv 2)))))), ?_⟩
  refine body_x nm_open_in ?_ vs H Q E h
  clear h hr
  intro c n x hK hp
  (subst hK)
  try clear g_max g_int F
  have h2 : ∀ w ∈ x, okTk w := hp
  walk_at "WK"
  refine ws_for [3] (wi_list rfl ?_)
  walk_at "WK"
  refine ⟨fun i e1 => ∃ h ff s3, opF (x.drop i) h ff = opF x 0 0 ∧ e1 = ⟨[.val (.py (.list (ttx x))), .val (.py (.int h)), .val (.py (.int ff)), s3], n⟩, ⟨0, 0, .emp, rfl, rfl⟩, ?_, ?_⟩
  · rintro i d e1 hd ⟨h, ff, s3, ho, rfl⟩
    obtain ⟨t, ht, htm, rfl⟩ := ttx_item hd
    have hi : i < x.length := (List.getElem?_eq_some_iff.mp ht).1
    have ed : x.drop i = t :: x.drop (i + 1) := by
      rw [List.drop_eq_getElem_cons hi]
      congr 1
      exact (List.getElem?_eq_some_iff.mp ht).2
    rw [ed] at ho
    obtain ⟨ch, r, ew, _⟩ := tk_cons t
    have hw33 := tk_len (h2 t htm)
    have l3 : t.tx.length ≤ sizeLine := by unfold Tk.tx; rw [sg_len]; exact Nat.le_trans hw33.2 (by rw [sizeLine_eq]; decide)
    have hs := tk_sign (t := t) (x := ch) (by rw [ew]; exact List.mem_cons_self)
    refine wg_name ⟨rfl, ?_⟩ (Nat.le_of_ble_eq_true rfl) (by decide)
    walk_at "WK"
    refine ⟨shp_tk t, by decide +kernel, ?_⟩
    rw [mem_ob]
    walk_at "WK"
    refine ⟨l3, ch, at0 ew, ?_⟩
    walk_at "WK"
    refine ⟨shp_sg (l := [ch]) (by simp; omega), by decide +kernel, ?_⟩
    rw [mem_cc ew]
    walk_at "WK"
    exact ⟨_, _, _, ho, rfl⟩
  · rintro e1 ⟨h, ff, s3, ho, rfl⟩
    rw [List.length_map, ttx_len, List.drop_of_length_le (Nat.le_refl _)] at ho
    have ho' : ff = opF x 0 0 := ho
    subst ho'
    walk_at "WK"
    first | exact ⟨rfl, rfl⟩ | rfl
end
end Wx

/-! ### part T9 -/
set_option Elab.async false
set_option linter.all false
set_option maxRecDepth 100000
set_option maxHeartbeats 1000000
set_option autoImplicit false
/-! An __init__ that stores its attributes one by one. -/
namespace Wx
open PySem L2
structure Wzf (c : Cy) (t : TS) (e : En) (x C dx : Addr) (n : Nat) (f0 fs : List (Str × PyData)) : Prop where
  run : ∀ (σ : St) (A : Addr → Prop) (H : Hp) (w0 : List (Str × V)), Ok c A H σ e → (∀ a, ¬ ownA σ e.sl a) → H x = some (.ins C dx w0) → FsR c.K c.S0 H w0 f0 → ∀ Dn : Ends, (∀ (σ' : St) (H' : Hp) (ws : List (Str × V)), H' x = some (.ins C dx ws) → FsR c.K c.S0 H' ws fs → (∀ a o, c.k ≠ some a → a ≠ x → H a = some o → H' a = some o) → Good c n H' → Dn.nx σ' H') → t Dn σ H
section
variable {c : Cy} {sl : List Slo} {nn n : Nat} {x C dx : Addr} {f0 fs : List (Str × PyData)} {t u : TS} {te : TE} {e : En}
theorem wzf_of (h : Wzf c t e x C dx n [] fs) : Wz c t e x C dx n fs := ⟨fun σ A H o no hH Dn fin => h.run σ A H [] o no hH True.intro Dn fin⟩
theorem wzf_seq (hk : c.k ≠ some x) (h : Ws c t ⟨sl, nn⟩ ⟨fun e1 => noOwn e1.sl = true ∧ Wzf c u e1 x C dx n f0 fs, fun _ _ => False, fun _ => False, fun _ => False⟩) : Wzf c (tSeq t u) ⟨sl, nn⟩ x C dx n f0 fs :=
  ⟨fun σ A H w0 o no hH hf Dn fin => h.run σ A H o { Dn with nx := u Dn } (fun σ1 A1 H1 e1 q kp w o1 => by
    have kS : Kept c.S0 H H1 := kp.mono fun a z => z.elim (c.hk a) fun y => (no a y).elim
    exact q.2.run σ1 A1 H1 w0 o1 (no_own q.1) (kp x _ (fun z => z.elim hk (no x)) hH) (hf.keep kS) Dn fun σ2 H2 ws r1 r2 r3 r4 => fin σ2 H2 ws r1 r2 (fun a u n1 n2 z => r3 a u n1 n2 (kp a u (fun y => y.elim n1 (no a)) z)) r4)
    (fun _ _ _ _ z _ _ _ => z.elim) (fun _ _ _ _ z _ _ _ => z.elim) (fun _ _ _ _ z _ _ _ => z.elim)⟩
theorem Ok.updS {A : Addr → Prop} {H : Hp} {σ : St} {w w' : List (Str × V)} (o : Ok c A H σ e) (no : ∀ a, ¬ ownA σ e.sl a) (hx : c.S0 x) (hk : c.k ≠ some x) (hH : H x = some (.ins C dx w)) : Ok c A (upd H x (.ins C dx w')) σ e := by
  have xA : A x := o.sub x (.inl hx)
  have kA : Kept A H (upd H x (.ins C dx w')) := fun b u nb z => by rw [upd_ne fun y => nb (by rw [y]; exact xA)]; exact z
  have ne : ∀ {b : Addr}, ¬ A b → b ≠ x := fun nb y => nb (by rw [y]; exact xA)
  refine ⟨o.len, ⟨fun b z => ?_, fun b z => ?_⟩, o.sub, fun b z => ?_, fun i d z => ?_, fun i w z => ?_, o.sep⟩
  · by_cases q : b = x
    · rw [q, upd_same]; exact fun y => nomatch y
    · rw [upd_ne q]; exact o.good.al b z
  · rw [upd_ne fun q => hk (by rw [← q]; exact z)]; exact o.good.kl b z
  · by_cases q : b = x
    · rw [q, upd_same]; exact fun y => nomatch y
    · rw [upd_ne q]; exact o.al b z
  · obtain ⟨nm, v, h1, h2⟩ := o.val i d z
    refine ⟨nm, v, h1, ?_⟩
    cases d with
    | py p => exact Da.keep kA h2
    | mine w => cases nm
    | dct ds => obtain ⟨a, kvs, q, m, r, t⟩ := h2; exact ⟨a, kvs, q, m, by rw [upd_ne (ne m)]; exact r, t.keep kA⟩
    | dcl ds => obtain ⟨a, kvs, od, q, m, r, t⟩ := h2; exact ⟨a, kvs, od, q, m, by rw [upd_ne (ne m)]; exact r, t.keep kA⟩
    | brw ds =>
      obtain ⟨a, xs, q, m, s, r, t⟩ := h2
      exact ⟨a, xs, q, m, s, by rw [upd_ne fun y => by rw [y, hH] at r; cases r]; exact r, t.keep kA⟩
    | ins C fs => obtain ⟨a, dx, vs, q, m, r, t⟩ := h2; exact ⟨a, dx, vs, q, m, by rw [upd_ne (ne m)]; exact r, t.keep kA⟩
    | atom w => exact h2
    | kln => exact h2
    | lsx => obtain ⟨a, xs, q, m, r⟩ := h2; exact ⟨a, xs, q, m, by rw [upd_ne (ne m)]; exact r⟩
  · obtain ⟨a, h1, _, _⟩ := o.own i w z
    exact absurd ⟨i, w, z, h1⟩ (no a)
theorem FsR.names {K : PySem.W.Frag} {S : Addr → Prop} {H : Hp} : ∀ {ws : List (Str × V)} {fs : List (Str × PyData)}, FsR K S H ws fs → ws.map Prod.fst = fs.map Prod.fst
  | [], [], _ => rfl
  | (a, v) :: r, (b, d) :: s, ⟨e, _, t⟩ => by rw [List.map_cons, List.map_cons, FsR.names t]; dsimp only; rw [e]
  | [], _ :: _, h => h.elim
  | _ :: _, [], h => h.elim
theorem FsR.snoc {K : PySem.W.Frag} {S : Addr → Prop} {H : Hp} {f : Str} {v : V} {p : PyData} (y : Da K S H v p) : ∀ {ws : List (Str × V)} {fs : List (Str × PyData)}, FsR K S H ws fs → FsR K S H (ws ++ [(f, v)]) (fs ++ [(f, p)])
  | [], [], _ => ⟨rfl, y, True.intro⟩
  | (a, u) :: r, (b, d) :: s, ⟨e, h, t⟩ => ⟨e, h, FsR.snoc y t⟩
  | [], _ :: _, h => h.elim
  | _ :: _, [], h => h.elim
theorem putF_snoc {f : Str} {v : V} : ∀ {ws : List (Str × V)}, f ∉ ws.map Prod.fst → putF f v ws = ws ++ [(f, v)]
  | [], _ => rfl
  | (a, u) :: r, h => by
    have ne : ¬ a = f := fun q => h (by rw [List.map_cons, q]; exact List.mem_cons_self)
    show putF f v ((a, u) :: r) = (a, u) :: (r ++ [(f, v)])
    rw [putF, if_neg ne, putF_snoc fun q => h (by rw [List.map_cons]; exact List.mem_cons_of_mem _ q)]
theorem FsR.len {K : PySem.W.Frag} {S : Addr → Prop} {H : Hp} {ws : List (Str × V)} {fs : List (Str × PyData)} (h : FsR K S H ws fs) : ws.length = fs.length := by
  have := congrArg List.length h.names
  rwa [List.length_map, List.length_map] at this
theorem wzf_att {K : PySem.W.Frag} {f : Str} (hK : K = c.K) (hk : c.k ≠ some x) (hx : c.S0 x) (h0 : sl[0]? = some (.val (.atom (.ref x)))) (cl : Cls c.K C) (n1 : NoAttr c.K C f) (hf : f ∉ f0.map Prod.fst) (hl : f0.length < 900) (hno : noOwn sl = true)
    (h : Wp c te ⟨sl, nn⟩ fun d m => ∃ p, d = .py p ∧ Wzf c u ⟨sl, m⟩ x C dx n (f0 ++ [(f, p)]) fs) : Wzf c (tSeq (tAsg te (gAtt K (tVar 0) f)) u) ⟨sl, nn⟩ x C dx n f0 fs := ⟨fun σ A H w0 o no hH hr Dn fin => by
  subst hK
  obtain ⟨_, v0, s0, e0⟩ := o.val 0 _ h0
  have e0' : v0 = .ref x := e0
  subst e0'
  refine h.run σ A H o _ fun v H1 d m pr e1 g1 xd => ?_
  obtain ⟨p, rfl, pr⟩ := pr
  have hx1 : H1 x = some (.ins C dx w0) := e1 x _ hk hH
  have xA : A x := o.sub x (.inl hx)
  have nm : f ∉ w0.map Prod.fst := by rw [hr.names]; exact hf
  refine ⟨.ref x, s0, x, C, dx, w0, rfl, hx1, cl, n1, by rw [hr.len]; omega, ?_⟩
  rw [putF_snoc nm]
  have kS1 : Kept c.S0 H H1 := fun a u na z => e1 a u (fun y => na (c.hk a y)) z
  have kS2 : Kept c.S0 H1 (upd H1 x (.ins C dx (w0 ++ [(f, v)]))) := fun b u nb z => by rw [upd_ne fun y => nb (by rw [y]; exact hx)]; exact z
  have y : Da c.K c.S0 H1 v p := Da.less (fun a z => o.sub a (.inl z)) xd
  have o2 := (o.keep e1 g1).updS (w' := w0 ++ [(f, v)]) no hx hk hx1
  exact pr.run σ A _ (w0 ++ [(f, v)]) o2 no upd_same (FsR.keep kS2 (FsR.snoc y (hr.keep kS1))) Dn fun σ2 H2 ws r1 r2 r3 r4 => fin σ2 H2 ws r1 r2 (fun a u q1 q2 z => r3 a u q1 q2 (by rw [upd_ne q2]; exact e1 a u q1 z)) r4⟩
theorem wzf_last {K : PySem.W.Frag} {f : Str} (hK : K = c.K) (hk : c.k ≠ some x) (hx : c.S0 x) (h0 : sl[0]? = some (.val (.atom (.ref x)))) (cl : Cls c.K C) (n1 : NoAttr c.K C f) (hf : f ∉ f0.map Prod.fst) (hl : f0.length < 900)
    (h : Wp c te ⟨sl, nn⟩ fun d m => ∃ p, d = .py p ∧ fs = f0 ++ [(f, p)] ∧ m = n) : Wzf c (tAsg te (gAtt K (tVar 0) f)) ⟨sl, nn⟩ x C dx n f0 fs := ⟨fun σ A H w0 o no hH hr Dn fin => by
  subst hK
  obtain ⟨_, v0, s0, e0⟩ := o.val 0 _ h0
  have e0' : v0 = .ref x := e0
  subst e0'
  refine h.run σ A H o _ fun v H1 d m pr e1 g1 xd => ?_
  obtain ⟨p, rfl, rfl, rfl⟩ := pr
  have hx1 : H1 x = some (.ins C dx w0) := e1 x _ hk hH
  have nm : f ∉ w0.map Prod.fst := by rw [hr.names]; exact hf
  refine ⟨.ref x, s0, x, C, dx, w0, rfl, hx1, cl, n1, by rw [hr.len]; omega, ?_⟩
  rw [putF_snoc nm]
  have kS1 : Kept c.S0 H H1 := fun a u na z => e1 a u (fun y => na (c.hk a y)) z
  have kS2 : Kept c.S0 H1 (upd H1 x (.ins C dx (w0 ++ [(f, v)]))) := fun b u nb z => by rw [upd_ne fun y => nb (by rw [y]; exact hx)]; exact z
  have y : Da c.K c.S0 H1 v p := Da.less (fun a z => o.sub a (.inl z)) xd
  have o2 := (o.keep e1 g1).updS (w' := w0 ++ [(f, v)]) no hx hk hx1
  exact fin σ _ _ upd_same (FsR.keep kS2 (FsR.snoc y (hr.keep kS1))) (fun a u q1 q2 z => by rw [upd_ne q2]; exact e1 a u q1 z) o2.good⟩
end
end Wx

/-! ### part T9b -/
set_option Elab.async false
set_option linter.all false
set_option maxRecDepth 100000
set_option maxHeartbeats 1000000
set_option autoImplicit false
namespace Wx
open PySem L2
section
variable {c : Cy} {sl : List Slo} {nn n : Nat} {x C dx : Addr} {f0 fs : List (Str × PyData)} {t u : TS} {te ta tb : TE} {e : En}
/-- self.f = (a if self.g else b), self.g stored before -/
theorem wzf_attT {K : PySem.W.Frag} {f g : Str} {b : Bool} (hK : K = c.K) (hk : c.k ≠ some x) (hx : c.S0 x) (h0 : sl[0]? = some (.val (.atom (.ref x)))) (cl : Cls c.K C) (n1 : NoAttr c.K C f) (n2 : NoAttr c.K C g) (hf : f ∉ f0.map Prod.fst) (hl : f0.length < 900) (hno : noOwn sl = true) (hg : f0.lookup g = some (.bool b))
    (h : Wp c (if b then ta else tb) ⟨sl, nn⟩ fun d m => ∃ p, d = .py p ∧ Wzf c u ⟨sl, m⟩ x C dx n (f0 ++ [(f, p)]) fs) : Wzf c (tSeq (tAsg (tIf (fun σ H Q => tFld K (tVar 0) g σ H fun x H' => ∃ k, TruV K x H' k ∧ Q k H') ta tb) (gAtt K (tVar 0) f)) u) ⟨sl, nn⟩ x C dx n f0 fs := ⟨fun σ A H w0 o no hH hr Dn fin => by
  have z := (wzf_att (te := if b then ta else tb) hK hk hx h0 cl n1 hf hl hno h).run σ A H w0 o no hH hr Dn fin
  subst hK
  obtain ⟨_, v0, s0, e0⟩ := o.val 0 _ h0
  have e0' : v0 = .ref x := e0
  subst e0'
  obtain ⟨v, lv, y⟩ := hr.look hg
  cases Da.bl_eq y
  refine ⟨.ref x, s0, x, C, dx, w0, .bl b, rfl, hH, cl, n2, lv, b, rfl, ?_⟩
  cases b with
  | true => exact iteT z
  | false => exact iteF z⟩
end
end Wx

/-! ### part U9 -/
set_option Elab.async false
set_option linter.all false
set_option maxRecDepth 100000
set_option maxHeartbeats 1000000
set_option autoImplicit false
namespace Wx
open PySem L2

def stepsD (ns : Ns) : PyData := if plainN ns then .int (lnN ns : Int) else .none
def progF (ns : Ns) : List (Str × PyData) := [("own_text", .str (joinT (toks ns))), ("own_words", .tuple (ttx (toks ns))), ("own_nodes", .tuple (dat 0 ns)), ("own_need", .int (mN ns).1), ("own_rise", .int (mN ns).2.1), ("own_growth", .int (mN ns).2.2), ("own_plain", .bool (plainN ns)), ("own_steps", stepsD ns), ("own_open", .int (opF (toks ns) 0 0))]
def okNs (ns : Ns) : Prop := wfN ns ∧ dpN ns ≤ 12 ∧ tkN ns ≤ 1000 ∧ (mN ns).1 + (mN ns).2.1 ≤ 100
structure PrA (K : PySem.W.Frag) (C : Addr) : Prop where
  cl : Cls K C
  a1 : NoAttr K C "own_text"
  a2 : NoAttr K C "own_words"
  a3 : NoAttr K C "own_nodes"
  a4 : NoAttr K C "own_need"
  a5 : NoAttr K C "own_rise"
  a6 : NoAttr K C "own_growth"
  a7 : NoAttr K C "own_plain"
  a8 : NoAttr K C "own_steps"
  a9 : NoAttr K C "own_open"
section
variable {P : Program} {w : World} {K : PySem.W.Frag} {mg : Str → Option Value} {base : Heap} {f C : Addr} {fd : FuncData}
abbrev si_Program___init__ (K : PySem.W.Frag) (C : Addr) : Sp := SpI (ι := Ns) K C (fun ws => [.py (.str (joinT (toks ws)))]) (fun ws _ => okNs ws) fun ws => progF ws
theorem ln_Program___init__ (ws : Ns) : [D.py (.str (joinT (toks ws)))].length = 1 := rfl
theorem nm_Program___init__ (ws : Ns) : [D.py (.str (joinT (toks ws)))].all D.nm = true := rfl
theorem sc_Program___init__ : FnScope ["self", "text", "words", "wrong", "nodes", "need", "rise", "growth"] ["self", "text"] (defScope (meth 40 0)) := ⟨rfl, rfl, rfl, by decide +kernel, rfl, by decide +kernel, by decide +kernel⟩
theorem ok_Program___init__ (F : FnP K "__init__" "Program.__init__" (meth 40 0) f fd) (g_isinstance : mg "isinstance" = none) (g_str : mg "str" = none) (S_words_of : Std P w K mg base 1 "words_of" ["text"] (sp_words_of K)) (S_first_wrong : Std P w K mg base 4 "first_wrong" ["words", "growths"] (sp_first_wrong K)) (S_nodes_in : Std P w K mg base 15 "nodes_in" ["words"] (sp_nodes_in K)) (S_measure_in : Std P w K mg base 14 "measure_in" ["nodes"] (sp_measure_in K 13)) (i_MOST_HIGH : GInt mg "MOST_HIGH" 100) (g_tuple : mg "tuple" = none) (S_is_plain_in : Std P w K mg base 14 "is_plain_in" ["nodes"] (sp_is_plain_in K 13)) (S_length_in : Std P w K mg base 14 "length_in" ["nodes"] (sp_length_in K 13)) (S_open_in : Std P w K mg base 1 "open_in" ["words"] (sp_open_in K)) (pa : PrA K C) : FnOk P w K mg base CX0 16 f fd ["self", "text"] (si_Program___init__ K C) := by
  refine F.ok sc_Program___init__ (si_len ln_Program___init__) (fun cdv A outer s H vs Q E hr h => ?_)
  have nd := sc_Program___init__.nd
  refine ⟨_, PSs.nox (pss_cons (ps_if (pt_not (truK (K := K) rfl (pe_callB (isiK (K := K) rfl) rfl g_isinstance bt_isinstance (pa_cons (pv 1) (pa_cons (pe_bltn (v := .ty "str") rfl g_str bt_str rfl) pa_nil))) (by intro _; rfl))) (pss_one (ps_never)) (pss_nil))
 (pss_cons (ps_set (i := 2) nd rfl (Or.inl rfl) (pe_std S_words_of (hr.mono (by decide)) rfl (pa_cons (pv 1) (pa_nil))))
 (pss_cons (ps_set (i := 3) nd rfl (Or.inl rfl) (pe_std S_first_wrong (hr.mono (by decide)) rfl (pa_cons (pv 2) (pa_cons (pe_dnewK) (pa_nil)))))
 (pss_cons (ps_if (pt_cmpR opNTN (pv 3) (pe_non) (nomark _)) (pss_one (ps_never)) (pss_nil))
 (pss_cons (ps_set (i := 4) nd rfl (Or.inl rfl) (pe_std S_nodes_in hr rfl (pa_cons (pv 2) (pa_nil))))
 (pss_cons (ps_asg (pe_std S_measure_in (hr.mono (by decide)) rfl (pa_cons (pv 4) (pa_nil))) (gtupK (K := K) (n := 3) rfl rfl (pgs_cons (pg_name (i := 5) nd rfl (Or.inl rfl)) (pgs_cons (pg_name (i := 6) nd rfl (Or.inl rfl)) (pgs_cons (pg_name (i := 7) nd rfl (Or.inl rfl)) (pgs_nil))))))
 (pss_cons (ps_if (pt_cmpR op_gt (pe_op (addK (K := K) rfl) (pv 5) (pv 6)) (pe_gint i_MOST_HIGH rfl) (nomark _)) (pss_one (ps_never)) (pss_nil))
 (pss_cons (ps_asg (pv 1) (pg_att (pv 0)))
 (pss_cons (ps_asg (pe_callTy (tupK (K := K) rfl) rfl g_tuple bt_tuple (pa_cons (pv 2) (pa_nil))) (pg_att (pv 0)))
 (pss_cons (ps_asg (pv 4) (pg_att (pv 0)))
 (pss_cons (ps_asg (pv 5) (pg_att (pv 0)))
 (pss_cons (ps_asg (pv 6) (pg_att (pv 0)))
 (pss_cons (ps_asg (pv 7) (pg_att (pv 0)))
 (pss_cons (ps_asg (pe_std S_is_plain_in (hr.mono (by decide)) rfl (pa_cons (pv 4) (pa_nil))) (pg_att (pv 0)))
 (pss_cons (ps_asg (pe_ifExp (truK (K := K) rfl (pe_fld (pv 0) rfl) (by intro _; rfl)) (pe_std S_length_in (hr.mono (by decide)) rfl (pa_cons (pv 4) (pa_nil))) (pe_non)) (pg_att (pv 0)))
 (pss_one (ps_asg (pe_std S_open_in (hr.mono (by decide)) rfl (pa_cons (pv 2) (pa_nil))) (pg_att (pv 0))))))))))))))))))), ?_⟩
  refine body_i nm_Program___init__ ?_ vs H Q E h
  clear h hr
  intro c n z x dx hK hk hx hp
  (subst hK)
  try clear g_isinstance g_str S_words_of S_first_wrong S_nodes_in S_measure_in i_MOST_HIGH g_tuple S_is_plain_in S_length_in S_open_in F
  obtain ⟨hw, hd, ht, h3⟩ : okNs z := hp
  have h2 := wf_toks hw
  have h1 : (toks z).length ≤ 1000 := by rw [toks_len]; exact ht
  have l33 := joinT_len h2
  refine wzf_of (wzf_seq hk ?_)
  walk_at "WK"
  refine ⟨fun z => (nomatch z), fun _ => ?_⟩
  walk_at "WK"
  refine wzf_seq hk ?_
  walk_at "WK"
  refine ⟨toks z, rfl, ⟨h1, h2⟩, ?_⟩
  rintro d m ⟨rfl, rfl⟩
  refine ⟨rfl, ?_⟩
  walk_at "WK"
  refine wzf_seq hk ?_
  walk_at "WK"
  refine wp_new ?_
  walk_at "WK"
  refine ⟨toks z, rfl, ⟨h1, h2, run_all hw hd⟩, ?_⟩
  rintro d m ⟨rfl, rfl⟩
  refine ⟨rfl, ?_⟩
  walk_at "WK"
  refine wzf_seq hk ?_
  walk_at "WK"
  refine ⟨fun z => (nomatch z), fun _ => ?_⟩
  walk_at "WK"
  refine wzf_seq hk ?_
  walk_at "WK"
  refine ⟨z, rfl, ⟨hw, hd, ht⟩, ?_⟩
  rintro d m ⟨rfl, rfl⟩
  refine ⟨rfl, ?_⟩
  walk_at "WK"
  refine wzf_seq hk (ws_asg [5, 6, 7] ?_)
  walk_at "WK"
  refine ⟨(0, z), rfl, ⟨hw, by show dpN z < 13; omega⟩, ?_⟩
  rintro d m ⟨rfl, rfl⟩
  refine ⟨rfl, ?_⟩
  refine wg_trip rfl ⟨_, _, _, rfl, wg_name ⟨rfl, wg_name ⟨rfl, wg_name ⟨rfl, rfl, ?_⟩ (Nat.le_of_ble_eq_true rfl) (by decide)⟩ (Nat.le_of_ble_eq_true rfl) (by decide)⟩ (Nat.le_of_ble_eq_true rfl) (by decide)⟩
  refine wzf_seq hk ?_
  walk_at "WK"
  refine ⟨fun q => absurd (of_decide_eq_true q) (by dsimp only; omega), fun _ => ?_⟩
  walk_at "WK"
  refine wzf_att rfl hk hx rfl pa.cl pa.a1 (by simp) (Nat.le_of_ble_eq_true rfl) rfl ?_
  walk_at "WK"
  refine ⟨_, rfl, ?_⟩
  refine wzf_att rfl hk hx rfl pa.cl pa.a2 (by simp <;> decide +kernel) (Nat.le_of_ble_eq_true rfl) rfl ?_
  walk_at "WK"
  refine ⟨_, rfl, ?_⟩
  refine wzf_att rfl hk hx rfl pa.cl pa.a3 (by simp <;> decide +kernel) (Nat.le_of_ble_eq_true rfl) rfl ?_
  walk_at "WK"
  refine ⟨_, rfl, ?_⟩
  refine wzf_att rfl hk hx rfl pa.cl pa.a4 (by simp <;> decide +kernel) (Nat.le_of_ble_eq_true rfl) rfl ?_
  walk_at "WK"
  refine ⟨_, rfl, ?_⟩
  refine wzf_att rfl hk hx rfl pa.cl pa.a5 (by simp <;> decide +kernel) (Nat.le_of_ble_eq_true rfl) rfl ?_
  walk_at "WK"
  refine ⟨_, rfl, ?_⟩
  refine wzf_att rfl hk hx rfl pa.cl pa.a6 (by simp <;> decide +kernel) (Nat.le_of_ble_eq_true rfl) rfl ?_
  walk_at "WK"
  refine ⟨_, rfl, ?_⟩
  refine wzf_att rfl hk hx rfl pa.cl pa.a7 (by simp <;> decide +kernel) (Nat.le_of_ble_eq_true rfl) rfl ?_
  walk_at "WK"
  refine ⟨(0, z), rfl, ⟨ht, by show dpN z < 13; omega⟩, ?_⟩
  rintro d m ⟨rfl, rfl⟩
  refine ⟨rfl, _, rfl, ?_⟩
  refine wzf_attT (b := plainN z) rfl hk hx rfl pa.cl pa.a8 pa.a7 (by simp <;> decide +kernel) (Nat.le_of_ble_eq_true rfl) rfl rfl ?_
  refine Wp.mono (Φ := fun d m1 => d = .py (stepsD z) ∧ m1 = m) ?_ ?_
  · cases hpl : plainN z with
    | true =>
      rw [if_pos rfl]
      walk_at "WK"
      refine ⟨(0, z), rfl, ⟨hw, hpl, hd, ht, by show dpN z < 13; omega⟩, ?_⟩
      rintro d m ⟨rfl, rfl⟩
      refine ⟨rfl, ?_⟩
      unfold stepsD
      rw [hpl]
      exact ⟨rfl, rfl⟩
    | false =>
      rw [if_neg (by decide)]
      walk_at "WK"
      unfold stepsD
      rw [hpl]
      exact ⟨rfl, rfl⟩
  rintro d m ⟨rfl, rfl⟩
  refine ⟨_, rfl, ?_⟩
  refine wzf_last rfl hk hx rfl pa.cl pa.a9 (by simp <;> decide +kernel) (Nat.le_of_ble_eq_true rfl) ?_
  walk_at "WK"
  refine ⟨toks z, rfl, h2, ?_⟩
  rintro d m ⟨rfl, rfl⟩
  exact ⟨rfl, _, rfl, rfl, rfl⟩
end
end Wx

/-! ### part U10 -/
set_option Elab.async false
set_option linter.all false
set_option maxRecDepth 100000
set_option maxHeartbeats 1000000
set_option autoImplicit false
namespace Wx
open PySem L2

abbrev progD (C : Addr) (ws : Ns) : D := .ins C (progF ws)
section
variable {P : Program} {w : World} {K : PySem.W.Frag} {mg : Str → Option Value} {base : Heap} {f C : Addr} {fd : FuncData}
abbrev sp_Program_need (K : PySem.W.Frag) (C : Addr) : Sp := SpX (ι := Ns) K (fun ws => [progD C ws]) (fun _ _ => True) fun ws n d m => d = .py (.int (mN ws).1) ∧ m = n
theorem ln_Program_need (ws : Ns) : [progD C ws].length = 1 := rfl
theorem nm_Program_need (ws : Ns) : [progD C ws].all D.nm = true := rfl
theorem sc_Program_need : FnScope ["self"] ["self"] (defScope (meth 40 2)) := ⟨rfl, rfl, rfl, by decide +kernel, rfl, by decide +kernel, by decide +kernel⟩
theorem ok_Program_need (F : FnP K "need" "Program.need" (meth 40 2) f fd) (kc : KitC K C) (pa : PrA K C) (gP : mg "Program" = some (.ref C)) : FnOk P w K mg base CX0 1 f fd ["self"] (sp_Program_need K C) := by
  refine F.ok sc_Program_need (sx_len ln_Program_need) (fun cdv A outer s H vs Q E hr h => ?_)
  have nd := sc_Program_need.nd
  refine ⟨_, PSs.nox (pss_one (ps_ret (pe_fld (pv 0) rfl))), ?_⟩
  refine body_x nm_Program_need ?_ vs H Q E h
  clear h hr
  intro c n x hK hp
  (subst hK)
  try clear F
  walk_at "WK"
  exact ⟨C, _, _, rfl, kc.cl, pa.a4, rfl, rfl, rfl⟩
abbrev sp_Program_is_plain (K : PySem.W.Frag) (C : Addr) : Sp := SpX (ι := Ns) K (fun ws => [progD C ws]) (fun _ _ => True) fun ws n d m => d = .py (.bool (plainN ws)) ∧ m = n
theorem ln_Program_is_plain (ws : Ns) : [progD C ws].length = 1 := rfl
theorem nm_Program_is_plain (ws : Ns) : [progD C ws].all D.nm = true := rfl
theorem sc_Program_is_plain : FnScope ["self"] ["self"] (defScope (meth 40 5)) := ⟨rfl, rfl, rfl, by decide +kernel, rfl, by decide +kernel, by decide +kernel⟩
theorem ok_Program_is_plain (F : FnP K "is_plain" "Program.is_plain" (meth 40 5) f fd) (kc : KitC K C) (pa : PrA K C) (gP : mg "Program" = some (.ref C)) : FnOk P w K mg base CX0 1 f fd ["self"] (sp_Program_is_plain K C) := by
  refine F.ok sc_Program_is_plain (sx_len ln_Program_is_plain) (fun cdv A outer s H vs Q E hr h => ?_)
  have nd := sc_Program_is_plain.nd
  refine ⟨_, PSs.nox (pss_one (ps_ret (pe_fld (pv 0) rfl))), ?_⟩
  refine body_x nm_Program_is_plain ?_ vs H Q E h
  clear h hr
  intro c n x hK hp
  (subst hK)
  try clear F
  walk_at "WK"
  exact ⟨C, _, _, rfl, kc.cl, pa.a7, rfl, rfl, rfl⟩
end
end Wx

/-! ### part U11 -/
set_option Elab.async false
set_option linter.all false
set_option maxRecDepth 100000
set_option maxHeartbeats 1000000
set_option autoImplicit false
namespace Wx
open PySem L2
def wPair : Wd → Int × List Src
  | .d => (1, [])
  | .p v => ((v : Int) + 1, downS ((v + 1 : Nat) : Int) (v + 1) ++ [.inp (v : Int)])
  | .r v => ((v : Int) + 1, downS (v : Int) v ++ [.inp (v : Int)])
  | .c v => (0, [.lit v])

section
variable {P : Program} {w : World} {K : PySem.W.Frag} {mg : Str → Option Value} {base : Heap} {f C : Addr} {fd : FuncData}
abbrev sp_inputs_from (K : PySem.W.Frag) : Sp := SpX (ι := Nat) K (fun k => [.py (.int ((k : Int) - 1))]) (fun k _ => k ≤ 100) fun k n d m => d = .py (srcs (downS (k : Int) k)) ∧ m = n
theorem ln_inputs_from (k : Nat) : [D.py (.int ((k : Int) - 1))].length = 1 := rfl
theorem nm_inputs_from (k : Nat) : [D.py (.int ((k : Int) - 1))].all D.nm = true := rfl
theorem sc_inputs_from : FnScope ["depth", "place"] ["depth"] (defScope (top 54)) := ⟨rfl, rfl, rfl, by decide +kernel, rfl, by decide +kernel, by decide +kernel⟩
theorem ok_inputs_from (F : FnP K "inputs_from" "inputs_from" (top 54) f fd) (g_tuple : mg "tuple" = none) (g_range : mg "range" = none) : FnOk P w K mg base CX0 1 f fd ["depth"] (sp_inputs_from K) := by
  refine F.ok sc_inputs_from (sx_len ln_inputs_from) (fun cdv A outer s H vs Q E hr h => ?_)
  have nd := sc_inputs_from.nd
  refine ⟨_, PSs.nox (pss_one (ps_ret (pe_callTy (tupK (K := K) rfl) rfl g_tuple bt_tuple (pa_cons (pe_lc (own := [("place", 1)]) rfl nd (pi_range3 rfl g_range (pa_cons (pv 0) (pa_cons (pe_un un_neg (pe_int)) (pa_cons (pe_un un_neg (pe_int)) (pa_nil))))) (blkOk_by (N := ["depth", "place"]) (sc := (defScope (top 54))) (by decide +kernel)) (fun _ _ _ _ _ => pg_name (i := 1) nd rfl (Or.inl rfl) (.inr rfl)) (fun _ _ _ _ _ => pts_nil) (fun _ _ _ _ _ => pe_tup (pa_cons (pe_str) (pa_cons (pv 1) (pa_nil))))) (pa_nil))))), ?_⟩
  refine body_x nm_inputs_from ?_ vs H Q E h
  clear h hr
  intro c n x hK hp
  (subst hK)
  try clear g_tuple g_range F
  have h1 : x ≤ 100 := hp
  walk_at "WK"
  refine wp_new (wn_lc (fun v hv => ?_) (wi_rng3 ?_))
  · have : v = 1 := by simpa using hv
    subst this
    exact Nat.le_of_ble_eq_true rfl
  walk_at "WK"
  refine ⟨((x : Int) - 1 - -1).toNat, RgC.neg (by omega) (by omega) (by decide) (by decide), fun i acc m => m = n ∧ acc = pys (downS (x : Int) i), ⟨rfl, rfl⟩, by rw [seqI_len]; omega, ?_, ?_⟩
  · rintro i acc m d hd ⟨rfl, rfl⟩
    obtain ⟨hi, rfl⟩ := seqI_of hd
    refine wg_name ⟨rfl, ?_⟩ (Nat.le_of_ble_eq_true rfl) (by decide)
    refine wt_yes ⟨fun _ => ?_, fun z => nomatch z⟩
    walk_at "WK"
    rw [downS_succ, ← pys_app]
    rfl
  · rintro acc m ⟨rfl, rfl⟩
    rw [seqI_len]
    walk_at "WK"
    rw [show ((x : Int) - 1 - -1).toNat = x by omega]
    first | exact ⟨rfl, rfl⟩ | rfl
end
end Wx

/-! ### part U12 -/
set_option Elab.async false
set_option linter.all false
set_option maxRecDepth 100000
set_option maxHeartbeats 1000000
set_option autoImplicit false
namespace Wx
open PySem L2
theorem wc_int {v : Int} (h : -(10 ^ 30) ≤ v ∧ v ≤ 10 ^ 30) : intText? (Wd.c v).tx = some v := by
  have b : v.natAbs < 10 ^ 31 := by omega
  have hl := TL.numL_len (k := 31) (by decide) b
  by_cases n : v < 0
  · have e : (Wd.c v).tx.cps.toList = 45 :: TL.numL v.natAbs := by
      show (Wd.c v).sg = _
      rw [wd_c, if_pos n]
    have lx : (Wd.c v).tx.length ≤ 4300 := by
      unfold Wd.tx
      rw [sg_len, wd_c, if_pos n, List.length_cons]
      omega
    rw [intText_neg e (TL.numL_digits _) (TL.numL_ne _) lx, TL.numL_val]
    congr 1
    omega
  · have e : (Wd.c v).tx.cps.toList = TL.numL v.natAbs := by
      show (Wd.c v).sg = _
      rw [wd_c, if_neg n]
    have lx : (Wd.c v).tx.length ≤ 4300 := by
      unfold Wd.tx
      rw [sg_len, wd_c, if_neg n]
      omega
    rw [intText_digits (by rw [e]; exact TL.numL_digits _) (by rw [e]; exact TL.numL_ne _) lx, e, TL.numL_val]
    congr 1
    omega
theorem pys_app' (l r : List Src) : pys (l ++ r) = pys l ++ pys r := List.map_append

section
variable {P : Program} {w : World} {K : PySem.W.Frag} {mg : Str → Option Value} {base : Heap} {f C : Addr} {fd : FuncData}
abbrev sp_word_pair (K : PySem.W.Frag) : Sp := SpX (ι := Wd) K (fun w => [.py (.str w.tx)]) (fun w _ => okWd w) fun w n d m => d = .py (.tuple [.int (wPair w).1, srcs (wPair w).2]) ∧ m = n
theorem ln_word_pair (w : Wd) : [D.py (.str w.tx)].length = 1 := rfl
theorem nm_word_pair (w : Wd) : [D.py (.str w.tx)].all D.nm = true := rfl
theorem sc_word_pair : FnScope ["word", "depth"] ["word"] (defScope (top 55)) := ⟨rfl, rfl, rfl, by decide +kernel, rfl, by decide +kernel, by decide +kernel⟩
theorem ok_word_pair (F : FnP K "word_pair" "word_pair" (top 55) f fd) (g_int : mg "int" = none) (S_inputs_from : Std P w K mg base 1 "inputs_from" ["depth"] (sp_inputs_from K)) : FnOk P w K mg base CX0 2 f fd ["word"] (sp_word_pair K) := by
  refine F.ok sc_word_pair (sx_len ln_word_pair) (fun cdv A outer s H vs Q E hr h => ?_)
  have nd := sc_word_pair.nd
  refine ⟨_, PSs.nox (pss_cons (ps_if (pt_cmpR (eqK (K := K) rfl (room64 hr)) (pv 0) (pe_str) (nomark _)) (pss_one (ps_ret (pe_tup (pa_cons (pe_int) (pa_cons (pe_tup (pa_nil)) (pa_nil)))))) (pss_nil))
 (pss_cons (ps_if (pt_cmpR (eqK (K := K) rfl (room64 hr)) (pe_ix (ixK (K := K) rfl) (pv 0) (pe_int) (fun _ _ => rfl)) (pe_str) (nomark _)) (pss_cons (ps_set (i := 1) nd rfl (Or.inl rfl) (pe_callTy callINTS rfl g_int bt_int (pa_cons (pe_slice (slK (K := K) rfl) (pv 0) (po_some (pe_int)) po_none) (pa_nil))))
 (pss_one (ps_ret (pe_tup (pa_cons (pe_op (addK (K := K) rfl) (pv 1) (pe_int)) (pa_cons (pe_tup (starK (K := K) rfl (pe_std S_inputs_from hr rfl (pa_cons (pv 1) (pa_nil))) (pa_cons (pe_tup (pa_cons (pe_str) (pa_cons (pv 1) (pa_nil)))) (pa_nil)))) (pa_nil))))))) (pss_nil))
 (pss_cons (ps_if (pt_cmpR (eqK (K := K) rfl (room64 hr)) (pe_ix (ixK (K := K) rfl) (pv 0) (pe_int) (fun _ _ => rfl)) (pe_str) (nomark _)) (pss_cons (ps_set (i := 1) nd rfl (Or.inl rfl) (pe_callTy callINTS rfl g_int bt_int (pa_cons (pe_slice (slK (K := K) rfl) (pv 0) (po_some (pe_int)) po_none) (pa_nil))))
 (pss_one (ps_ret (pe_tup (pa_cons (pe_op (addK (K := K) rfl) (pv 1) (pe_int)) (pa_cons (pe_tup (starK (K := K) rfl (pe_std S_inputs_from hr rfl (pa_cons (pe_op op_sub (pv 1) (pe_int)) (pa_nil))) (pa_cons (pe_tup (pa_cons (pe_str) (pa_cons (pv 1) (pa_nil)))) (pa_nil)))) (pa_nil))))))) (pss_nil))
 (pss_one (ps_ret (pe_tup (pa_cons (pe_int) (pa_cons (pe_tup (pa_cons (pe_tup (pa_cons (pe_str) (pa_cons (pe_callTy callINTS rfl g_int bt_int (pa_cons (pv 0) (pa_nil))) (pa_nil)))) (pa_nil))) (pa_nil))))))))), ?_⟩
  refine body_x nm_word_pair ?_ vs H Q E h
  clear h hr
  intro c n x hK hp
  (subst hK)
  try clear g_int S_inputs_from F
  have hw := wd_len hp
  have l3 : x.tx.length ≤ sizeLine := by unfold Wd.tx; rw [sg_len]; exact Nat.le_trans hw.2 (by rw [sizeLine_eq]; decide)
  cases x with
  | d =>
    walk_at "WK"
    refine ⟨fun _ => ?_, fun z => absurd z (by decide)⟩
    walk_at "WK"
    first | exact ⟨rfl, rfl⟩ | rfl
  | p v =>
    have hv : v ≤ 98 := hp
    have e : (Wd.p v).tx.cps.toList = 112 :: TL.numL v := rfl
    walk_at "WK"
    rw [txt_d]
    refine ⟨shp_wd _, shp_sg (by simp), ?_⟩
    rw [eqv_strD, decide_eq_false (fun z => by have z2 : 112 :: TL.numL v = [100] := sg_inj z; have := (List.cons.inj z2).1; omega)]
    walk_at "WK"
    refine ⟨fun z => (nomatch z), fun _ => ?_⟩
    walk_at "WK"
    refine ⟨l3, 112, at0 rfl, ?_⟩
    walk_at "WK"
    refine ⟨fun _ => ?_, fun z => absurd z (by decide)⟩
    walk_at "WK"
    refine ⟨l3, ?_⟩
    rw [cut_tail _ e, ← txN_sg]
    walk_at "WK"
    refine cw_intS (one_mk ⟨_, _, rfl, txN_int (show v < 10 ^ 200 by omega), Nat.le_trans (txN_le (k := 31) (by decide) (show v < 10 ^ 31 by omega)) (by decide), ?_⟩)
    walk_at "WK"
    refine ⟨v + 1, by rw [show ((v + 1 : Nat) : Int) - 1 = (v : Int) by omega]; rfl, by omega, ?_⟩
    rintro d m ⟨rfl, rfl⟩
    refine ⟨rfl, ?_⟩
    walk_at "WK"
    refine ⟨by rw [List.length_append, pys_len, downS_len, sizeLine_eq]; simp; omega, ?_⟩
    walk_at "WK"
    refine ⟨?_, rfl⟩
    unfold wPair srcs
    rw [pys_app']
    rfl
  | r v =>
    have hv : 1 ≤ v ∧ v ≤ 99 := hp
    have e : (Wd.r v).tx.cps.toList = 114 :: TL.numL v := rfl
    walk_at "WK"
    rw [txt_d]
    refine ⟨shp_wd _, shp_sg (by simp), ?_⟩
    rw [eqv_strD, decide_eq_false (fun z => by have z2 : 114 :: TL.numL v = [100] := sg_inj z; have := (List.cons.inj z2).1; omega)]
    walk_at "WK"
    refine ⟨fun z => (nomatch z), fun _ => ?_⟩
    walk_at "WK"
    refine ⟨l3, 114, at0 rfl, ?_⟩
    walk_at "WK"
    refine ⟨fun z => absurd z (by decide), fun _ => ?_⟩
    walk_at "WK"
    refine ⟨l3, 114, at0 rfl, ?_⟩
    walk_at "WK"
    refine ⟨fun _ => ?_, fun z => absurd z (by decide)⟩
    walk_at "WK"
    refine ⟨l3, ?_⟩
    rw [cut_tail _ e, ← txN_sg]
    walk_at "WK"
    refine cw_intS (one_mk ⟨_, _, rfl, txN_int (show v < 10 ^ 200 by omega), Nat.le_trans (txN_le (k := 31) (by decide) (show v < 10 ^ 31 by omega)) (by decide), ?_⟩)
    walk_at "WK"
    refine ⟨v, rfl, by omega, ?_⟩
    rintro d m ⟨rfl, rfl⟩
    refine ⟨rfl, ?_⟩
    walk_at "WK"
    refine ⟨by rw [List.length_append, pys_len, downS_len, sizeLine_eq]; simp; omega, ?_⟩
    walk_at "WK"
    refine ⟨?_, rfl⟩
    unfold wPair srcs
    rw [pys_app']
    rfl
  | c v =>
    have hv : -(10 ^ 30) ≤ v ∧ v ≤ 10 ^ 30 := hp
    obtain ⟨ch, r, e, h1, h2⟩ : ∃ ch r, (Wd.c v).sg = ch :: r ∧ 45 ≤ ch ∧ ch ≤ 57 := by
      rw [wd_c]
      split
      · exact ⟨45, _, rfl, by decide, by decide⟩
      · obtain ⟨ch, r, e1, h1, h2, _⟩ := num_head v.natAbs
        exact ⟨ch, r, e1, by omega, by omega⟩
    walk_at "WK"
    rw [txt_d]
    refine ⟨shp_wd _, shp_sg (by simp), ?_⟩
    rw [eqv_strD, decide_eq_false (fun z => by have z2 : (Wd.c v).sg = [100] := sg_inj z; rw [e] at z2; have := (List.cons.inj z2).1; omega)]
    walk_at "WK"
    refine ⟨fun z => (nomatch z), fun _ => ?_⟩
    walk_at "WK"
    refine ⟨l3, ch, at0 e, ?_⟩
    walk_at "WK"
    rw [txt_p]
    refine ⟨shp_sg (l := [ch]) (by simp; omega), shp_sg (by simp), ?_⟩
    rw [show (⟨#[ch]⟩ : Str) = sg [ch] from rfl, eqv_sg, decide_eq_false (fun z => by have := (List.cons.inj z).1; omega)]
    walk_at "WK"
    refine ⟨fun z => (nomatch z), fun _ => ?_⟩
    walk_at "WK"
    refine ⟨l3, ch, at0 e, ?_⟩
    walk_at "WK"
    rw [txt_r]
    refine ⟨shp_sg (l := [ch]) (by simp; omega), shp_sg (by simp), ?_⟩
    rw [show (⟨#[ch]⟩ : Str) = sg [ch] from rfl, eqv_sg, decide_eq_false (fun z => by have := (List.cons.inj z).1; omega)]
    walk_at "WK"
    refine ⟨fun z => (nomatch z), fun _ => ?_⟩
    walk_at "WK"
    refine cw_intS (one_mk ⟨_, _, rfl, wc_int hv, by unfold Wd.tx; rw [sg_len]; omega, ?_⟩)
    walk_at "WK"
    first | exact ⟨rfl, rfl⟩ | rfl
end
end Wx

/-! ### part U13 -/
set_option Elab.async false
set_option linter.all false
set_option maxRecDepth 100000
set_option maxHeartbeats 1000000
set_option autoImplicit false
/-! The pair of a plain tree, and its bounds. -/
namespace Wx
open PySem L2
def okP (f : Int × List Src) (m : Int × Int × Int) : Prop := (∀ s ∈ f.2, okS f.1 s) ∧ 0 ≤ f.1 ∧ f.1 ≤ m.1 ∧ (f.2.length : Int) - f.1 = m.2.2 ∧ okMs m
def hiM (m : Int × Int × Int) : Prop := m.1 + m.2.1 ≤ 100
theorem okP_E {f : Int × List Src} {m : Int × Int × Int} (h : okP f m) (hm : hiM m) : okE f.1 f.2 := by
  obtain ⟨a, b, c, d, e1, e2, e3, e4⟩ := h
  unfold hiM at hm
  exact ⟨b, by omega, by omega, a⟩
def joP (f g : Int × List Src) : Int × List Src := joinE f.1 f.2 g.1 g.2
theorem okP_join {f g : Int × List Src} {a b : Int × Int × Int} (hf : okP f a) (hg : okP g b) (ha : hiM a) (hb : hiM b) : okP (joP f g) (joinM a b) := by
  have E1 := okP_E hf ha
  have E2 := okP_E hg hb
  obtain ⟨f1, f2, f3, f4, f5⟩ := hf
  obtain ⟨g1, g2, g3, g4, g5⟩ := hg
  have J := jAll_oks E1 E2
  have k := cut_oks _ _ J.1 J.2
  have gr := cut_grow (jAll f.1 f.2 g.1 g.2) (jTake f.1 f.2 g.1)
  have le := cut_le1 (jTake f.1 f.2 g.1) (jAll f.1 f.2 g.1 g.2)
  have hl : ((jAll f.1 f.2 g.1 g.2).length : Int) = g.2.length + jMore f.2 g.1 := by
    unfold jAll
    rw [jLeft_len]
    have : 0 ≤ jMore f.2 g.1 := by unfold jMore; split <;> omega
    omega
  refine ⟨k.2, k.1, Int.le_trans le ?_, ?_, okMs_join f5 g5⟩
  · unfold jTake joinM
    dsimp only
    rw [mxI_eq]
    split <;> omega
  · show ((cut (jTake f.1 f.2 g.1) (jAll f.1 f.2 g.1 g.2)).2.length : Int) - (cut (jTake f.1 f.2 g.1) (jAll f.1 f.2 g.1 g.2)).1 = a.2.2 + b.2.2
    rw [gr, hl]
    unfold jTake jMore
    split <;> split <;> omega
theorem okP_w {w : Wd} (h : okWd w) : okP (wPair w) (mW w) := by
  have dn : ∀ (t : Int) (k : Nat) (T : Int), t = k → t ≤ T → ∀ s ∈ downS t k, okS T s := fun t k T e le s hs => by
    obtain ⟨j, h1, rfl⟩ := downS_mem hs
    show 0 ≤ t - 1 - (j : Int) ∧ t - 1 - (j : Int) < T
    omega
  have one : ∀ (l : List Src) (v T : Int), (∀ s ∈ l, okS T s) → 0 ≤ v → v < T → ∀ s ∈ l ++ [Src.inp v], okS T s := fun l v T a b d s hs => by
    rcases List.mem_append.mp hs with hs | hs
    · exact a s hs
    · rw [List.mem_singleton.mp hs]; exact ⟨b, d⟩
  cases w with
  | d => exact ⟨(fun s hs => nomatch hs), (by show (0 : Int) ≤ 1; decide), Int.le_refl _, rfl, okMs_w .d⟩
  | p v =>
    refine ⟨one _ _ _ (dn _ _ _ rfl (by show ((v + 1 : Nat) : Int) ≤ (v : Int) + 1; omega)) (by omega) (by show (v : Int) < (v : Int) + 1; omega), by show (0 : Int) ≤ (v : Int) + 1; omega, Int.le_refl _, ?_, okMs_w _⟩
    show (((downS ((v + 1 : Nat) : Int) (v + 1) ++ [Src.inp (v : Int)]).length : Nat) : Int) - ((v : Int) + 1) = 1
    rw [List.length_append, downS_len]
    simp
    omega
  | r v =>
    refine ⟨one _ _ _ (dn _ _ _ rfl (by show (v : Int) ≤ (v : Int) + 1; omega)) (by omega) (by show (v : Int) < (v : Int) + 1; omega), by show (0 : Int) ≤ (v : Int) + 1; omega, Int.le_refl _, ?_, okMs_w _⟩
    show (((downS (v : Int) v ++ [Src.inp (v : Int)]).length : Nat) : Int) - ((v : Int) + 1) = 0
    rw [List.length_append, downS_len]
    simp
  | c v =>
    refine ⟨fun s hs => ?_, Int.le_refl _, Int.le_refl _, rfl, okMs_w _⟩
    rw [List.mem_singleton.mp hs]
    exact h
theorem hi_w {w : Wd} (h : okWd w) : hiM (mW w) := by
  cases w with
  | d => show (1 : Int) + 0 ≤ 100; decide
  | p v => have : v ≤ 98 := h; show (v : Int) + 1 + 1 ≤ 100; omega
  | r v => have : 1 ≤ v ∧ v ≤ 99 := h; show (v : Int) + 1 + 0 ≤ 100; omega
  | c v => show (0 : Int) + 1 ≤ 100; decide
theorem upS_eq (t : Int) (l : List Src) : upS t l = max 0 (t - l.length) := by unfold upS; split <;> omega
theorem dnS_eq (t : Int) (l : List Src) : dnS t l = max 0 ((l.length : Int) - t) := by unfold dnS; split <;> omega
theorem okP_rep {f : Int × List Src} {a : Int × Int × Int} {n : Nat} (hf : okP f a) (ha : hiM a) (hn : 1 ≤ n) : okP (pwr f.1 f.2 n) (repM a n) := by
  have E := okP_E hf ha
  obtain ⟨f1, f2, f3, f4, f5⟩ := hf
  have k := pwr_oks (N := n) E
  have gr := pwr_grow (t := f.1) (l := f.2) (N := n)
  have le : (pwr f.1 f.2 n).1 ≤ wT f.1 f.2 n := by
    unfold pwr
    rw [if_neg (by omega)]
    exact cut_le1 _ _
  refine ⟨k.2, k.1, Int.le_trans le ?_, ?_, okMs_rep f5 (by omega)⟩
  · unfold wT repM
    dsimp only
    rw [upS_eq, mxI_eq, show f.1 - (f.2.length : Int) = -a.2.2 by omega]
    omega
  · rw [gr, f4]
    rfl
theorem wM_rep {f : Int × List Src} {a : Int × Int × Int} {n : Nat} (hf : okP f a) (ha : hiM a) (hr : hiM (repM a n)) (hn : 1 ≤ n) : wM f.1 f.2 n ≤ 300 := by
  have E := okP_E hf ha
  obtain ⟨f1, f2, f3, f4, f5⟩ := hf
  have r := okMs_rep f5 (show (1 : Int) ≤ n by omega)
  have e2 : (repM a n).2.1 = a.2.1 + ((n : Int) - 1) * mxI 0 a.2.2 := rfl
  unfold hiM at hr ha
  have r1 := r.1
  have a2 := f5.2.1
  unfold wM
  rw [dnS_eq, f4, ← mxI_eq]
  have := E.2.2.1
  omega
/-- the pair of plain nodes -/
def prA (f : Int × List Src) : Ns → Int × List Src
  | .nil => f
  | .dow w r => prA (joP f (wPair w)) r
  | .rep n b r => prA (joP f (pwr (prA (0, []) b).1 (prA (0, []) b).2 n)) r
  | .cho _ _ r => prA f r
def prN (ns : Ns) : Int × List Src := prA (0, []) ns
theorem mA_mono : ∀ {ns : Ns} {m : Int × Int × Int}, m.1 ≤ (mA m ns).1 ∧ m.2.1 ≤ (mA m ns).2.1
  | .nil, m => ⟨Int.le_refl _, Int.le_refl _⟩
  | .dow w r, m => by
    have := mA_mono (ns := r) (m := joinM m (mW w))
    have e1 : m.1 ≤ (joinM m (mW w)).1 := by unfold joinM; dsimp only; rw [mxI_eq]; omega
    have e2 : m.2.1 ≤ (joinM m (mW w)).2.1 := by unfold joinM; dsimp only; rw [mxI_eq]; omega
    exact ⟨Int.le_trans e1 this.1, Int.le_trans e2 this.2⟩
  | .rep n b r, m => by
    have := mA_mono (ns := r) (m := joinM m (repM (mA (0, 0, 0) b) n))
    have e1 : m.1 ≤ (joinM m (repM (mA (0, 0, 0) b) n)).1 := by unfold joinM; dsimp only; rw [mxI_eq]; omega
    have e2 : m.2.1 ≤ (joinM m (repM (mA (0, 0, 0) b) n)).2.1 := by unfold joinM; dsimp only; rw [mxI_eq]; omega
    exact ⟨Int.le_trans e1 this.1, Int.le_trans e2 this.2⟩
  | .cho a b r, m => by
    have := mA_mono (ns := r) (m := joinM m (choM (mA (0, 0, 0) a) (mA (0, 0, 0) b)))
    have e1 : m.1 ≤ (joinM m (choM (mA (0, 0, 0) a) (mA (0, 0, 0) b))).1 := by unfold joinM; dsimp only; rw [mxI_eq]; omega
    have e2 : m.2.1 ≤ (joinM m (choM (mA (0, 0, 0) a) (mA (0, 0, 0) b))).2.1 := by unfold joinM; dsimp only; rw [mxI_eq]; omega
    exact ⟨Int.le_trans e1 this.1, Int.le_trans e2 this.2⟩
theorem hi_mono {ns : Ns} {m : Int × Int × Int} (h : hiM (mA m ns)) : hiM m := by
  have := mA_mono (ns := ns) (m := m)
  unfold hiM at *
  omega
theorem okP_nil : okP (0, []) (0, 0, 0) := ⟨(fun s hs => nomatch hs), Int.le_refl _, Int.le_refl _, rfl, by decide, by decide, by decide, by decide⟩
theorem okP_A : ∀ {ns : Ns} {f : Int × List Src} {m : Int × Int × Int}, wfN ns → plainN ns = true → okP f m → hiM (mA m ns) → okP (prA f ns) (mA m ns)
  | .nil, f, m, _, _, h, _ => h
  | .dow w r, f, m, hw, hp, h, hh => okP_A (ns := r) hw.2 hp (okP_join h (okP_w hw.1) (hi_mono (ns := .dow w r) hh) (hi_w hw.1)) hh
  | .rep n b r, f, m, hw, hp, h, hh => by
    have hp' : plainN b = true ∧ plainN r = true := by
      have : (plainN b && plainN r) = true := hp
      simpa using this
    have hb := okP_A (ns := b) hw.2.1 hp'.1 okP_nil hw.1.2.2.2.1
    exact okP_A (ns := r) hw.2.2 hp'.2 (okP_join h (okP_rep hb hw.1.2.2.2.1 (by have := hw.1.1; omega)) (hi_mono (ns := .rep n b r) hh) hw.1.2.2.2.2) hh
  | .cho a b r, f, m, hw, hp, h, hh => by cases hp
theorem okP_N {ns : Ns} (hw : wfN ns) (hp : plainN ns = true) (hh : hiM (mN ns)) : okP (prN ns) (mN ns) := okP_A hw hp okP_nil hh
end Wx

/-! ### part U14 -/
set_option Elab.async false
set_option linter.all false
set_option maxRecDepth 100000
set_option maxHeartbeats 1000000
set_option autoImplicit false
namespace Wx
open PySem L2
abbrev Nd := Wd ⊕ (Nat × Ns)
def ndD (p : Nat) : Nd → PyData
  | .inl w => .tuple [.str (Str.ofString "do"), .str w.tx, .int (p : Int)]
  | .inr (n, b) => .tuple [.str (Str.ofString "repeat"), .int (n : Int), .tuple (dat (p + 1) b), .int (p : Int)]
def ndP : Nd → Int × List Src
  | .inl w => wPair w
  | .inr (n, b) => pwr (prN b).1 (prN b).2 n
def ndOk (dp : Nat) : Nd → Prop
  | .inl w => okWd w ∧ 0 < dp
  | .inr (n, b) => 2 ≤ n ∧ n ≤ 10 ^ 30 ∧ wfN b ∧ plainN b = true ∧ hiM (mN b) ∧ hiM (repM (mN b) n) ∧ tkN b ≤ 1000 ∧ dpN b ≤ 12 ∧ dpN b + 1 < dp
/-- the list of choices, which stays empty: the caller's own, or a new one -/
def chD : Bool → D
  | true => .brw []
  | false => .py (.list [])

section
variable {P : Program} {w : World} {K : PySem.W.Frag} {mg : Str → Option Value} {base : Heap} {f C : Addr} {fd : FuncData} {dp : Nat}
abbrev sp_pair_of (K : PySem.W.Frag) (dp : Nat) : Sp := SpX (ι := Nat × Ns × Bool) K (fun x => [.py (.tuple (dat x.1 x.2.1)), chD x.2.2]) (fun x _ => wfN x.2.1 ∧ plainN x.2.1 = true ∧ hiM (mN x.2.1) ∧ tkN x.2.1 ≤ 1000 ∧ dpN x.2.1 ≤ 12 ∧ dpN x.2.1 + 1 < dp + 1 ∧ 0 < dp) fun x n d m => d = .py (.tuple [.int (prN x.2.1).1, srcs (prN x.2.1).2]) ∧ m = n
theorem ln_pair_of (x : Nat × Ns × Bool) : [D.py (.tuple (dat x.1 x.2.1)), chD x.2.2].length = 2 := rfl
theorem nm_pair_of (x : Nat × Ns × Bool) : [D.py (.tuple (dat x.1 x.2.1)), chD x.2.2].all D.nm = true := by obtain ⟨_, _, _ | _⟩ := x <;> rfl
abbrev sp_node_pair (K : PySem.W.Frag) (dp : Nat) : Sp := SpX (ι := Nat × Nd × Bool) K (fun x => [.py (ndD x.1 x.2.1), chD x.2.2]) (fun x _ => ndOk dp x.2.1) fun x n d m => d = .py (.tuple [.int (ndP x.2.1).1, srcs (ndP x.2.1).2]) ∧ m = n
theorem ln_node_pair (x : Nat × Nd × Bool) : [D.py (ndD x.1 x.2.1), chD x.2.2].length = 2 := rfl
theorem nm_node_pair (x : Nat × Nd × Bool) : [D.py (ndD x.1 x.2.1), chD x.2.2].all D.nm = true := by obtain ⟨_, _ | _, _ | _⟩ := x <;> rfl
theorem sc_node_pair : FnScope ["node", "chosen", "found", "turn", "part"] ["node", "chosen"] (defScope (top 62)) := ⟨rfl, rfl, rfl, by decide +kernel, rfl, by decide +kernel, by decide +kernel⟩
theorem ok_node_pair (F : FnP K "node_pair" "node_pair" (top 62) f fd) (S_word_pair : Std P w K mg base 2 "word_pair" ["word"] (sp_word_pair K)) (S_pair_of : Std P w K mg base (2 * dp + 15) "pair_of" ["nodes", "chosen"] (sp_pair_of K dp)) (S_is_plain_in : Std P w K mg base 14 "is_plain_in" ["nodes"] (sp_is_plain_in K 13)) (S_power_pair : Std P w K mg base 2 "power_pair" ["pair", "times"] (sp_power_pair K)) : FnOk P w K mg base CX0 (2 * dp + 15 + 1) f fd ["node", "chosen"] (sp_node_pair K (dp + 1)) := by
  refine F.ok sc_node_pair (sx_len ln_node_pair) (fun cdv A outer s H vs Q E hr h => ?_)
  have nd := sc_node_pair.nd
  refine ⟨_, PSs.nox (pss_cons (ps_if (pt_cmpR (eqK (K := K) rfl (room64 hr)) (pe_ix (ixK (K := K) rfl) (pv 0) (pe_int) (fun _ _ => rfl)) (pe_str) (nomark _)) (pss_one (ps_ret (pe_std S_word_pair (hr.mono (by omega)) rfl (pa_cons (pe_ix (ixK (K := K) rfl) (pv 0) (pe_int) (fun _ _ => rfl)) (pa_nil))))) (pss_nil))
 (pss_cons (ps_if (pt_cmpR (eqK (K := K) rfl (room64 hr)) (pe_ix (ixK (K := K) rfl) (pv 0) (pe_int) (fun _ _ => rfl)) (pe_str) (nomark _)) (pss_one (ps_ret (pe_ifExp (pt_cmpR (neK (K := K) rfl (room64 hr)) (pv 1) (pe_lst (pa_nil)) (nomark _)) (pe_std S_pair_of hr rfl (pa_cons (pe_ix (ixK (K := K) rfl) (pv 0) (pe_op (addK (K := K) rfl) (pe_int) (pe_bm PySem.F.plainAttrs_list PySem.F.slot_list_pop PySem.F.type_list_pop mt_popAt (pv 1) (pa_cons (pe_int) (pa_nil)))) (fun _ _ => rfl)) (pa_cons (pv 1) (pa_nil)))) (pe_non)))) (pss_nil))
 (pss_cons (ps_if (truK (K := K) rfl (pe_std S_is_plain_in (hr.mono (by omega)) rfl (pa_cons (pe_ix (ixK (K := K) rfl) (pv 0) (pe_int) (fun _ _ => rfl)) (pa_nil))) (by intro _; rfl)) (pss_one (ps_ret (pe_std S_power_pair (hr.mono (by omega)) rfl (pa_cons (pe_std S_pair_of hr rfl (pa_cons (pe_ix (ixK (K := K) rfl) (pv 0) (pe_int) (fun _ _ => rfl)) (pa_cons (pv 1) (pa_nil)))) (pa_cons (pe_ix (ixK (K := K) rfl) (pv 0) (pe_int) (fun _ _ => rfl)) (pa_nil)))))) (pss_nil))
 (pss_cons (ps_never)
 (pss_cons (ps_never)
 (pss_one (ps_ret (pv 2)))))))), ?_⟩
  refine body_x nm_node_pair ?_ vs H Q E h
  clear h hr
  intro c n x hK hp
  (subst hK)
  try clear S_word_pair S_pair_of S_is_plain_in S_power_pair F
  obtain ⟨p, nd, bb⟩ := x
  have ho : ndOk (dp + 1) nd := hp
  dsimp only
  obtain v | ⟨k, b⟩ := nd
  · cases bb
    all_goals
      dsimp only [ndD, chD]
      walk_at "WK"
      refine ⟨_, rfl, ?_⟩
      walk_at "WK"
      refine ⟨fun _ => ?_, fun z => absurd z (by decide)⟩
      walk_at "WK"
      refine ⟨_, rfl, ?_⟩
      walk_at "WK"
      refine ⟨v, rfl, ho.1, ?_⟩
      rintro d m ⟨rfl, rfl⟩
      exact ⟨rfl, rfl, rfl⟩
  · obtain ⟨h1, h2, h3, h4, h5, h6, h7, h8, h9⟩ := ho
    have hP := okP_N h3 h4 h5
    cases bb
    all_goals
      dsimp only [ndD, chD]
      walk_at "WK"
      refine ⟨_, rfl, ?_⟩
      walk_at "WK"
      refine ⟨fun z => absurd z (by decide), fun _ => ?_⟩
      walk_at "WK"
      refine ⟨_, rfl, ?_⟩
      walk_at "WK"
      refine ⟨fun z => absurd z (by decide), fun _ => ?_⟩
      walk_at "WK"
      refine ⟨_, rfl, ?_⟩
      walk_at "WK"
      refine ⟨(p + 1, b), rfl, ⟨h7, by show dpN b < 13; omega⟩, ?_⟩
      rintro d m ⟨rfl, rfl⟩
      refine ⟨rfl, ?_⟩
      walk_at "WK"
      refine ⟨fun _ => ?_, fun z => absurd (h4.symm.trans z) (by decide)⟩
      walk_at "WK"
      refine ⟨_, rfl, ?_⟩
      walk_at "WK"
      have pr : wfN b ∧ plainN b = true ∧ hiM (mN b) ∧ tkN b ≤ 1000 ∧ dpN b ≤ 12 ∧ dpN b + 1 < dp + 1 ∧ 0 < dp := ⟨h3, h4, h5, h7, h8, h9, (show 0 < dp by omega)⟩
      first
        | refine ⟨(p + 1, b, true), rfl, pr, ?_⟩
        | refine ⟨(p + 1, b, false), rfl, pr, ?_⟩
      rintro d m ⟨rfl, rfl⟩
      refine ⟨rfl, ?_⟩
      walk_at "WK"
      refine ⟨_, rfl, ?_⟩
      walk_at "WK"
      refine ⟨((prN b).1, (prN b).2, k), rfl, ⟨okP_E hP h5, h2, wM_rep (n := k) hP h5 h6 (show 1 ≤ k by omega)⟩, ?_⟩
      rintro d m ⟨rfl, rfl⟩
      exact ⟨rfl, rfl, rfl⟩
theorem sc_pair_of : FnScope ["nodes", "chosen", "found", "node", "part"] ["nodes", "chosen"] (defScope (top 61)) := ⟨rfl, rfl, rfl, by decide +kernel, rfl, by decide +kernel, by decide +kernel⟩
theorem ok_pair_of (F : FnP K "pair_of" "pair_of" (top 61) f fd) (t_NOTHING : GTup K mg "NOTHING" (.tuple [.int 0, .tuple []])) (S_node_pair : Std P w K mg base (2 * dp + 14) "node_pair" ["node", "chosen"] (sp_node_pair K dp)) (S_joined_pair : Std P w K mg base 3 "joined_pair" ["pair", "other"] (sp_joined_pair K)) : FnOk P w K mg base CX0 (2 * dp + 14 + 1) f fd ["nodes", "chosen"] (sp_pair_of K dp) := by
  refine F.ok sc_pair_of (sx_len ln_pair_of) (fun cdv A outer s H vs Q E hr h => ?_)
  have nd := sc_pair_of.nd
  refine ⟨_, PSs.nox (pss_cons (ps_set (i := 2) nd rfl (Or.inl rfl) (pe_gtup (K := K) rfl t_NOTHING rfl))
 (pss_cons (ps_for PassesOwn.never rfl (itupK (K := K) rfl (pv 0)) (pg_name (i := 3) nd rfl (Or.inl rfl)) (pss_cons (ps_set (i := 4) nd rfl (Or.inl rfl) (pe_std S_node_pair hr rfl (pa_cons (pv 3) (pa_cons (pv 1) (pa_nil)))))
 (pss_cons (ps_if (pt_cmpR opISN (pv 4) (pe_non) (nomark _)) (pss_one (ps_ret (pe_non))) (pss_nil))
 (pss_one (ps_set (i := 2) nd rfl (Or.inl rfl) (pe_std S_joined_pair (hr.mono (by omega)) rfl (pa_cons (pv 2) (pa_cons (pv 4) (pa_nil)))))))))
 (pss_one (ps_ret (pv 2))))), ?_⟩
  refine body_x nm_pair_of ?_ vs H Q E h
  clear h hr
  intro c n x hK hp
  (subst hK)
  try clear t_NOTHING S_node_pair S_joined_pair F
  obtain ⟨p, ns, bb⟩ := x
  obtain ⟨h1, h2, h3, h4, h5, h6, h7⟩ : wfN ns ∧ plainN ns = true ∧ hiM (mN ns) ∧ tkN ns ≤ 1000 ∧ dpN ns ≤ 12 ∧ dpN ns + 1 < dp + 1 ∧ 0 < dp := hp
  dsimp only
  cases bb with
  | false =>
    dsimp only [chD]
    walk_at "WK"
    refine ws_for [3] (wi_tup rfl ?_)
    walk_at "WK"
    refine ⟨fun i e1 => ∃ q ms f mm s3 s4, (dat p ns).drop i = dat q ms ∧ prA f ms = prN ns ∧ mA mm ms = mN ns ∧ okP f mm ∧ wfN ms ∧ plainN ms = true ∧ tkN ms ≤ 1000 ∧ dpN ms ≤ dpN ns ∧ e1 = ⟨[.val (.py (.tuple (dat p ns))), .val (.py (.list [])), .val (.py (.tuple [.int f.1, srcs f.2])), s3, s4], n⟩, ⟨p, ns, (0, []), (0, 0, 0), .emp, .emp, rfl, rfl, rfl, okP_nil, h1, h2, h4, Nat.le_refl _, rfl⟩, ?_, ?_⟩
    · rintro i d e1 hd ⟨q, ms, f, mm, s3, s4, hq, hf, hm, ho, hw, hpl, htk, hdp, rfl⟩
      have hi : hiM mm := hi_mono (ns := ms) (by rw [hm]; exact h3)
      cases ms with
      | nil => exact (dat_no hd hq).elim
      | dow v r =>
        obtain ⟨rfl, hq'⟩ := dat_at hd hq
        have htr : tkN (.dow v r) = 1 + tkN r := rfl
        refine wg_name ⟨rfl, ?_⟩ (Nat.le_of_ble_eq_true rfl) (by decide)
        walk_at "WK"
        refine ⟨(q, .inl v, false), rfl, ⟨hw.1, h7⟩, ?_⟩
        rintro d m ⟨rfl, rfl⟩
        refine ⟨rfl, ?_⟩
        walk_at "WK"
        refine rw_isN rfl ?_
        walk_at "WK"
        refine ⟨fun z => (nomatch z), fun _ => ?_⟩
        walk_at "WK"
        refine ⟨(f, wPair v), rfl, ⟨okP_E ho hi, okP_E (okP_w hw.1) (hi_w hw.1)⟩, ?_⟩
        rintro d m ⟨rfl, rfl⟩
        refine ⟨rfl, ?_⟩
        walk_at "WK"
        exact ⟨q + 1, r, joP f (wPair v), joinM mm (mW v), _, _, hq', hf, hm, okP_join ho (okP_w hw.1) hi (hi_w hw.1), hw.2, hpl, by omega, hdp, rfl⟩
      | rep k b r =>
        obtain ⟨rfl, hq'⟩ := dat_at hd hq
        obtain ⟨⟨k1, k2, k3, k4, k5⟩, wb, wr⟩ := hw
        have hdr : dpN (.rep k b r) = max (1 + dpN b) (dpN r) := rfl
        have htr : tkN (.rep k b r) = 2 + tkN b + tkN r := rfl
        have hpb : plainN b = true ∧ plainN r = true := by
          have : (plainN b && plainN r) = true := hpl
          simpa using this
        have hb := okP_rep (n := k) (okP_N wb hpb.1 k4) k4 (by omega)
        refine wg_name ⟨rfl, ?_⟩ (Nat.le_of_ble_eq_true rfl) (by decide)
        walk_at "WK"
        refine ⟨(q, .inr (k, b), false), rfl, ⟨k1, k2, wb, hpb.1, k4, k5, by omega, by omega, by omega⟩, ?_⟩
        rintro d m ⟨rfl, rfl⟩
        refine ⟨rfl, ?_⟩
        walk_at "WK"
        refine rw_isN rfl ?_
        walk_at "WK"
        refine ⟨fun z => (nomatch z), fun _ => ?_⟩
        walk_at "WK"
        refine ⟨(f, pwr (prN b).1 (prN b).2 k), rfl, ⟨okP_E ho hi, okP_E hb k5⟩, ?_⟩
        rintro d m ⟨rfl, rfl⟩
        refine ⟨rfl, ?_⟩
        walk_at "WK"
        exact ⟨q + 2 + tkN b, r, joP f (pwr (prN b).1 (prN b).2 k), joinM mm (repM (mN b) k), _, _, hq', hf, hm, okP_join ho hb hi k5, wr, hpb.2, by omega, by omega, rfl⟩
      | cho a b r => cases hpl
    · rintro e1 ⟨q, ms, f, mm, s3, s4, hq, hf, hm, ho, hw, hpl, htk, hdp, rfl⟩
      rw [List.length_map, List.drop_of_length_le (Nat.le_refl _)] at hq
      have hn : ms = .nil := by cases ms <;> first | rfl | cases hq
      subst hn
      have hf' : f = prN ns := hf
      subst hf'
      walk_at "WK"
      first | exact ⟨rfl, rfl⟩ | rfl
  | true =>
    dsimp only [chD]
    walk_at "WK"
    refine ws_for [3] (wi_tup rfl ?_)
    walk_at "WK"
    refine ⟨fun i e1 => ∃ q ms f mm s3 s4, (dat p ns).drop i = dat q ms ∧ prA f ms = prN ns ∧ mA mm ms = mN ns ∧ okP f mm ∧ wfN ms ∧ plainN ms = true ∧ tkN ms ≤ 1000 ∧ dpN ms ≤ dpN ns ∧ e1 = ⟨[.val (.py (.tuple (dat p ns))), .val (.brw []), .val (.py (.tuple [.int f.1, srcs f.2])), s3, s4], n⟩, ⟨p, ns, (0, []), (0, 0, 0), .emp, .emp, rfl, rfl, rfl, okP_nil, h1, h2, h4, Nat.le_refl _, rfl⟩, ?_, ?_⟩
    · rintro i d e1 hd ⟨q, ms, f, mm, s3, s4, hq, hf, hm, ho, hw, hpl, htk, hdp, rfl⟩
      have hi : hiM mm := hi_mono (ns := ms) (by rw [hm]; exact h3)
      cases ms with
      | nil => exact (dat_no hd hq).elim
      | dow v r =>
        obtain ⟨rfl, hq'⟩ := dat_at hd hq
        have htr : tkN (.dow v r) = 1 + tkN r := rfl
        refine wg_name ⟨rfl, ?_⟩ (Nat.le_of_ble_eq_true rfl) (by decide)
        walk_at "WK"
        refine ⟨(q, .inl v, true), rfl, ⟨hw.1, h7⟩, ?_⟩
        rintro d m ⟨rfl, rfl⟩
        refine ⟨rfl, ?_⟩
        walk_at "WK"
        refine rw_isN rfl ?_
        walk_at "WK"
        refine ⟨fun z => (nomatch z), fun _ => ?_⟩
        walk_at "WK"
        refine ⟨(f, wPair v), rfl, ⟨okP_E ho hi, okP_E (okP_w hw.1) (hi_w hw.1)⟩, ?_⟩
        rintro d m ⟨rfl, rfl⟩
        refine ⟨rfl, ?_⟩
        walk_at "WK"
        exact ⟨q + 1, r, joP f (wPair v), joinM mm (mW v), _, _, hq', hf, hm, okP_join ho (okP_w hw.1) hi (hi_w hw.1), hw.2, hpl, by omega, hdp, rfl⟩
      | rep k b r =>
        obtain ⟨rfl, hq'⟩ := dat_at hd hq
        obtain ⟨⟨k1, k2, k3, k4, k5⟩, wb, wr⟩ := hw
        have hdr : dpN (.rep k b r) = max (1 + dpN b) (dpN r) := rfl
        have htr : tkN (.rep k b r) = 2 + tkN b + tkN r := rfl
        have hpb : plainN b = true ∧ plainN r = true := by
          have : (plainN b && plainN r) = true := hpl
          simpa using this
        have hb := okP_rep (n := k) (okP_N wb hpb.1 k4) k4 (by omega)
        refine wg_name ⟨rfl, ?_⟩ (Nat.le_of_ble_eq_true rfl) (by decide)
        walk_at "WK"
        refine ⟨(q, .inr (k, b), true), rfl, ⟨k1, k2, wb, hpb.1, k4, k5, by omega, by omega, by omega⟩, ?_⟩
        rintro d m ⟨rfl, rfl⟩
        refine ⟨rfl, ?_⟩
        walk_at "WK"
        refine rw_isN rfl ?_
        walk_at "WK"
        refine ⟨fun z => (nomatch z), fun _ => ?_⟩
        walk_at "WK"
        refine ⟨(f, pwr (prN b).1 (prN b).2 k), rfl, ⟨okP_E ho hi, okP_E hb k5⟩, ?_⟩
        rintro d m ⟨rfl, rfl⟩
        refine ⟨rfl, ?_⟩
        walk_at "WK"
        exact ⟨q + 2 + tkN b, r, joP f (pwr (prN b).1 (prN b).2 k), joinM mm (repM (mN b) k), _, _, hq', hf, hm, okP_join ho hb hi k5, wr, hpb.2, by omega, by omega, rfl⟩
      | cho a b r => cases hpl
    · rintro e1 ⟨q, ms, f, mm, s3, s4, hq, hf, hm, ho, hw, hpl, htk, hdp, rfl⟩
      rw [List.length_map, List.drop_of_length_le (Nat.le_refl _)] at hq
      have hn : ms = .nil := by cases ms <;> first | rfl | cases hq
      subst hn
      have hf' : f = prN ns := hf
      subst hf'
      walk_at "WK"
      first | exact ⟨rfl, rfl⟩ | rfl
end
end Wx

/-! ### part U15 -/
set_option Elab.async false
set_option linter.all false
set_option maxRecDepth 100000
set_option maxHeartbeats 1000000
set_option autoImplicit false
namespace Wx
open PySem L2
/-- a program that is plain -/
def okPl (ns : Ns) : Prop := okNs ns ∧ plainN ns = true

section
variable {P : Program} {w : World} {K : PySem.W.Frag} {mg : Str → Option Value} {base : Heap} {f C CP : Addr} {fd : FuncData}
abbrev sp_nodes_of (K : PySem.W.Frag) (C : Addr) : Sp := SpX (ι := Ns) K (fun ns => [progD C ns]) (fun _ _ => True) fun ns n d m => d = .py (.tuple (dat 0 ns)) ∧ m = n
theorem ln_nodes_of (ns : Ns) : [progD CP ns].length = 1 := rfl
theorem nm_nodes_of (ns : Ns) : [progD CP ns].all D.nm = true := rfl
theorem sc_nodes_of : FnScope ["program"] ["program"] (defScope (top 44)) := ⟨rfl, rfl, rfl, by decide +kernel, rfl, by decide +kernel, by decide +kernel⟩
theorem ok_nodes_of (F : FnP K "nodes_of" "nodes_of" (top 44) f fd) (kp : KitC K CP) (pa : PrA K CP) (gP : mg "Program" = some (.ref CP)) : FnOk P w K mg base CX0 1 f fd ["program"] (sp_nodes_of K CP) := by
  refine F.ok sc_nodes_of (sx_len ln_nodes_of) (fun cdv A outer s H vs Q E hr h => ?_)
  have nd := sc_nodes_of.nd
  refine ⟨_, PSs.nox (pss_one (ps_ret (pe_fld (pv 0) rfl))), ?_⟩
  refine body_x nm_nodes_of ?_ vs H Q E h
  clear h hr
  intro c n x hK hp
  (subst hK)
  try clear F
  walk_at "WK"
  exact ⟨CP, _, _, rfl, kp.cl, pa.a3, rfl, rfl, rfl⟩
abbrev sp_require_program (K : PySem.W.Frag) (C : Addr) : Sp := SpX (ι := Ns) K (fun ns => [progD C ns]) (fun _ _ => True) fun _ n d m => d = .py .none ∧ m = n
theorem ln_require_program (ns : Ns) : [progD CP ns].length = 1 := rfl
theorem nm_require_program (ns : Ns) : [progD CP ns].all D.nm = true := rfl
theorem sc_require_program : FnScope ["value"] ["value"] (defScope (top 41)) := ⟨rfl, rfl, rfl, by decide +kernel, rfl, by decide +kernel, by decide +kernel⟩
theorem ok_require_program (F : FnP K "require_program" "require_program" (top 41) f fd) (g_isinstance : mg "isinstance" = none) (kp : KitC K CP) (pa : PrA K CP) (gP : mg "Program" = some (.ref CP)) : FnOk P w K mg base CX0 1 f fd ["value"] (sp_require_program K CP) := by
  refine F.ok sc_require_program (sx_len ln_require_program) (fun cdv A outer s H vs Q E hr h => ?_)
  have nd := sc_require_program.nd
  refine ⟨_, PSs.nox (pss_one (ps_if (pt_not (truK (K := K) rfl (pe_callB (isiK (K := K) rfl) rfl g_isinstance bt_isinstance (pa_cons (pv 0) (pa_cons (pe_glob (v := .ref CP) rfl gP rfl) pa_nil))) (by intro _; rfl))) (pss_one (ps_never)) (pss_nil))), ?_⟩
  refine body_x nm_require_program ?_ vs H Q E h
  clear h hr
  intro c n x hK hp
  (subst hK)
  try clear g_isinstance F
  walk_at "WK"
  refine cw_isiC rfl (ty2_i kp) kp.me ?_
  walk_at "WK"
  refine ⟨fun z => (nomatch z), fun _ => ?_⟩
  walk_at "WK"
  first | exact ⟨rfl, rfl⟩ | rfl
abbrev sp_require_plain (K : PySem.W.Frag) (C : Addr) : Sp := SpX (ι := Ns) K (fun ns => [progD C ns]) (fun ns _ => plainN ns = true) fun _ n d m => d = .py .none ∧ m = n
theorem ln_require_plain (ns : Ns) : [progD CP ns].length = 1 := rfl
theorem nm_require_plain (ns : Ns) : [progD CP ns].all D.nm = true := rfl
theorem sc_require_plain : FnScope ["program"] ["program"] (defScope (top 42)) := ⟨rfl, rfl, rfl, by decide +kernel, rfl, by decide +kernel, by decide +kernel⟩
theorem ok_require_plain (F : FnP K "require_plain" "require_plain" (top 42) f fd) (S_require_program : Std P w K mg base 1 "require_program" ["value"] (sp_require_program K CP)) (kp : KitC K CP) (pa : PrA K CP) (gP : mg "Program" = some (.ref CP)) (P_is_plain : StdP P w K mg base 1 CP "is_plain" (sp_Program_is_plain K CP)) : FnOk P w K mg base CX0 3 f fd ["program"] (sp_require_plain K CP) := by
  refine F.ok sc_require_plain (sx_len ln_require_plain) (fun cdv A outer s H vs Q E hr h => ?_)
  have nd := sc_require_plain.nd
  refine ⟨_, PSs.nox (pss_cons (ps_expr (pe_std S_require_program (hr.mono (by decide)) rfl (pa_cons (pv 0) (pa_nil))))
 (pss_one (ps_if (pt_not (truK (K := K) rfl (pe_propS P_is_plain kp.cl hr (pv 0) rfl) (by intro _; rfl))) (pss_one (ps_never)) (pss_nil)))), ?_⟩
  refine body_x nm_require_plain ?_ vs H Q E h
  clear h hr
  intro c n x hK hp
  (subst hK)
  try clear S_require_program P_is_plain F
  have hp' : plainN x = true := hp
  walk_at "WK"
  refine ⟨x, rfl, trivial, ?_⟩
  rintro d m ⟨rfl, rfl⟩
  refine ⟨rfl, ?_⟩
  walk_at "WK"
  refine ⟨progF x, rfl, x, rfl, trivial, ?_⟩
  rintro d m ⟨rfl, rfl⟩
  refine ⟨rfl, ?_⟩
  rw [hp']
  walk_at "WK"
  refine ⟨fun z => (nomatch z), fun _ => ?_⟩
  walk_at "WK"
  first | exact ⟨rfl, rfl⟩ | rfl
abbrev sp_plain_pair (K : PySem.W.Frag) : Sp := SpX (ι := Ns) K (fun ns => [.py (.tuple (dat 0 ns))]) (fun ns _ => okPl ns) fun ns n d m => d = .py (.tuple [.int (prN ns).1, srcs (prN ns).2]) ∧ m = n
theorem ln_plain_pair (ns : Ns) : [D.py (.tuple (dat 0 ns))].length = 1 := rfl
theorem nm_plain_pair (ns : Ns) : [D.py (.tuple (dat 0 ns))].all D.nm = true := rfl
theorem sc_plain_pair : FnScope ["nodes"] ["nodes"] (defScope (top 63)) := ⟨rfl, rfl, rfl, by decide +kernel, rfl, by decide +kernel, by decide +kernel⟩
theorem ok_plain_pair (F : FnP K "plain_pair" "plain_pair" (top 63) f fd) (S_pair_of : Std P w K mg base 41 "pair_of" ["nodes", "chosen"] (sp_pair_of K 13)) : FnOk P w K mg base CX0 42 f fd ["nodes"] (sp_plain_pair K) := by
  refine F.ok sc_plain_pair (sx_len ln_plain_pair) (fun cdv A outer s H vs Q E hr h => ?_)
  have nd := sc_plain_pair.nd
  refine ⟨_, PSs.nox (pss_one (ps_ret (pe_std S_pair_of hr rfl (pa_cons (pv 0) (pa_cons (pe_lst (pa_nil)) (pa_nil)))))), ?_⟩
  refine body_x nm_plain_pair ?_ vs H Q E h
  clear h hr
  intro c n x hK hp
  (subst hK)
  try clear S_pair_of F
  obtain ⟨⟨h1, h2, h3, h4⟩, h5⟩ : okPl x := hp
  walk_at "WK"
  refine ⟨(0, x, false), rfl, ⟨h1, h5, h4, h3, h2, by show dpN x + 1 < 14; omega, by decide⟩, ?_⟩
  rintro d m ⟨rfl, rfl⟩
  exact ⟨rfl, rfl, rfl⟩
end
end Wx

/-! ### part U16 -/
set_option Elab.async false
set_option linter.all false
set_option maxRecDepth 100000
set_option maxHeartbeats 1000000
set_option autoImplicit false
namespace Wx
open PySem L2

section
variable {P : Program} {w : World} {K : PySem.W.Frag} {mg : Str → Option Value} {base : Heap} {f C CP : Addr} {fd : FuncData}
abbrev sp_same_effect (K : PySem.W.Frag) (C : Addr) : Sp := SpX (ι := Ns × Ns) K (fun x => [progD C x.1, progD C x.2]) (fun x _ => okPl x.1 ∧ okPl x.2) fun x n d m => d = .py (.bool (decide (prN x.1 = prN x.2))) ∧ m = n
theorem ln_same_effect (x : Ns × Ns) : [progD CP x.1, progD CP x.2].length = 2 := rfl
theorem nm_same_effect (x : Ns × Ns) : [progD CP x.1, progD CP x.2].all D.nm = true := rfl
theorem sc_same_effect : FnScope ["program", "other"] ["program", "other"] (defScope (top 69)) := ⟨rfl, rfl, rfl, by decide +kernel, rfl, by decide +kernel, by decide +kernel⟩
theorem ok_same_effect (F : FnP K "same_effect" "same_effect" (top 69) f fd) (S_require_plain : Std P w K mg base 3 "require_plain" ["program"] (sp_require_plain K CP)) (S_plain_pair : Std P w K mg base 42 "plain_pair" ["nodes"] (sp_plain_pair K)) (S_nodes_of : Std P w K mg base 1 "nodes_of" ["program"] (sp_nodes_of K CP)) (kp : KitC K CP) (pa : PrA K CP) (gP : mg "Program" = some (.ref CP)) : FnOk P w K mg base CX0 43 f fd ["program", "other"] (sp_same_effect K CP) := by
  refine F.ok sc_same_effect (sx_len ln_same_effect) (fun cdv A outer s H vs Q E hr h => ?_)
  have nd := sc_same_effect.nd
  refine ⟨_, PSs.nox (pss_cons (ps_expr (pe_std S_require_plain (hr.mono (by decide)) rfl (pa_cons (pv 0) (pa_nil))))
 (pss_cons (ps_expr (pe_std S_require_plain (hr.mono (by decide)) rfl (pa_cons (pv 1) (pa_nil))))
 (pss_one (ps_ret (pe_cmpR (eqK (K := K) rfl (room64 hr)) (pe_std S_plain_pair hr rfl (pa_cons (pe_std S_nodes_of (hr.mono (by decide)) rfl (pa_cons (pv 0) (pa_nil))) (pa_nil))) (pe_std S_plain_pair hr rfl (pa_cons (pe_std S_nodes_of (hr.mono (by decide)) rfl (pa_cons (pv 1) (pa_nil))) (pa_nil))) (nomark _)))))), ?_⟩
  refine body_x nm_same_effect ?_ vs H Q E h
  clear h hr
  intro c n x hK hp
  (subst hK)
  try clear S_require_plain S_plain_pair S_nodes_of F
  obtain ⟨a, b⟩ := x
  obtain ⟨h1, h2⟩ : okPl a ∧ okPl b := hp
  dsimp only
  walk_at "WK"
  refine ⟨a, rfl, h1.2, ?_⟩
  rintro d m ⟨rfl, rfl⟩
  refine ⟨rfl, ?_⟩
  walk_at "WK"
  refine ⟨b, rfl, h2.2, ?_⟩
  rintro d m ⟨rfl, rfl⟩
  refine ⟨rfl, ?_⟩
  walk_at "WK"
  refine ⟨a, rfl, trivial, ?_⟩
  rintro d m ⟨rfl, rfl⟩
  refine ⟨rfl, ?_⟩
  walk_at "WK"
  refine ⟨a, rfl, h1, ?_⟩
  rintro d m ⟨rfl, rfl⟩
  refine ⟨rfl, ?_⟩
  walk_at "WK"
  refine ⟨b, rfl, trivial, ?_⟩
  rintro d m ⟨rfl, rfl⟩
  refine ⟨rfl, ?_⟩
  walk_at "WK"
  refine ⟨b, rfl, h2, ?_⟩
  rintro d m ⟨rfl, rfl⟩
  refine ⟨rfl, ?_⟩
  walk_at "WK"
  refine ⟨shp_pair _ _, shp_pair _ _, ?_⟩
  rw [eqv_pair]
  refine ⟨?_, rfl⟩
  show D.py (.bool _) = D.py (.bool _)
  congr 2
  rw [← Bool.decide_and]
  exact decide_eq_decide.mpr ⟨fun z => Prod.ext z.1 z.2, fun z => ⟨by rw [z], by rw [z]⟩⟩
end
end Wx

/-! ### part U17 -/
set_option Elab.async false
set_option linter.all false
set_option maxRecDepth 100000
set_option maxHeartbeats 1000000
set_option autoImplicit false
/-! The pair of a plain tree is that of its words, one after the other. -/
namespace Wx
open PySem L2
/-- the words of a plain tree, repeats written out -/
def flN : Ns → List Wd
  | .nil => []
  | .dow w r => w :: flN r
  | .rep n b r => (List.replicate n (flN b)).flatten ++ flN r
  | .cho _ _ r => flN r
/-- the source of a depth behind words -/
def sem : List Wd → Int → Src
  | [], d => .inp d
  | w :: r, d => thr (wPair w).1 (wPair w).2 (sem r d)
def semS (a : List Wd) : Src → Src
  | .inp p => sem a p
  | .lit v => .lit v
theorem semS_cons (w : Wd) (a : List Wd) (s : Src) : semS (w :: a) s = thr (wPair w).1 (wPair w).2 (semS a s) := by
  cases s <;> rfl
theorem sem_app : ∀ (a b : List Wd) (d : Int), sem (a ++ b) d = semS a (sem b d)
  | [], b, d => by show sem b d = semS [] (sem b d); cases sem b d <;> rfl
  | w :: a, b, d => by
    show thr _ _ (sem (a ++ b) d) = _
    rw [sem_app a b d, semS_cons]
theorem okE_w {w : Wd} (h : okWd w) : okE (wPair w).1 (wPair w).2 := okP_E (okP_w h) (hi_w h)
theorem thr_pos {t : Int} {l : List Src} {s : Src} (o : okE t l) (h : posS s) : posS (thr t l s) := by
  cases s with
  | inp p => exact pos_at o h
  | lit v => exact h
theorem sem_pos : ∀ {ws : List Wd} {d : Int}, (∀ w ∈ ws, okWd w) → 0 ≤ d → posS (sem ws d)
  | [], d, _, h => h
  | w :: r, d, hw, h => thr_pos (okE_w (hw w List.mem_cons_self)) (sem_pos (fun x hx => hw x (List.mem_cons_of_mem _ hx)) h)
theorem fl_ok : ∀ {ns : Ns}, wfN ns → ∀ w ∈ flN ns, okWd w
  | .nil, _, w, h => by cases h
  | .dow v r, hw, w, h => by
    rcases List.mem_cons.mp h with rfl | h
    · exact hw.1
    · exact fl_ok hw.2 w h
  | .rep n b r, hw, w, h => by
    rcases List.mem_append.mp h with h | h
    · obtain ⟨l, hl, hx⟩ := List.mem_flatten.mp h
      rw [List.eq_of_mem_replicate hl] at hx
      exact fl_ok hw.2.1 w hx
    · exact fl_ok hw.2.2 w h
  | .cho a b r, hw, w, h => fl_ok hw.2.2.2 w h
theorem rep_snoc (n : Nat) (l : List Wd) : (List.replicate (n + 1) l).flatten = (List.replicate n l).flatten ++ l := by
  rw [List.replicate_succ', List.flatten_append]
  simp
theorem pw_sem {t : Int} {l : List Src} {fl : List Wd} (hf : ∀ w ∈ fl, okWd w) (h : ∀ d, 0 ≤ d → srcAt t l d = sem fl d) : ∀ (n : Nat) (d : Int), 0 ≤ d → pw t l n d = sem (List.replicate n fl).flatten d
  | 0, d, _ => rfl
  | n + 1, d, h0 => by
    rw [rep_snoc, sem_app, ← h d h0]
    have ps : posS (srcAt t l d) := by rw [h d h0]; exact sem_pos hf h0
    cases q : srcAt t l d with
    | lit v => rw [pw_lit q]; rfl
    | inp p =>
      rw [q] at ps
      rw [pw_inp q, pw_sem hf h n p ps]
      rfl
theorem thr_joP {f g : Int × List Src} {s : Src} (hs : posS s) : thr (joP f g).1 (joP f g).2 s = thr f.1 f.2 (thr g.1 g.2 s) := by
  cases s with
  | inp p =>
    have h0 : 0 ≤ p := hs
    show srcAt (cut _ _).1 (cut _ _).2 p = thr f.1 f.2 (srcAt g.1 g.2 p)
    rw [srcAt_cut _ _ _ h0, srcAt_jAll h0]
  | lit v => rfl
theorem prA_src : ∀ {ns : Ns} {f : Int × List Src} {d : Int}, wfN ns → plainN ns = true → 0 ≤ d → srcAt (prA f ns).1 (prA f ns).2 d = thr f.1 f.2 (sem (flN ns) d)
  | .nil, f, d, _, _, _ => rfl
  | .dow w r, f, d, hw, hp, h0 => by
    show srcAt (prA (joP f (wPair w)) r).1 (prA (joP f (wPair w)) r).2 d = thr f.1 f.2 (thr (wPair w).1 (wPair w).2 (sem (flN r) d))
    rw [prA_src (ns := r) hw.2 hp h0]
    exact thr_joP (sem_pos (fl_ok hw.2) h0)
  | .rep n b r, f, d, hw, hp, h0 => by
    have hp' : plainN b = true ∧ plainN r = true := by
      have : (plainN b && plainN r) = true := hp
      simpa using this
    have hb : ∀ d, 0 ≤ d → srcAt (prN b).1 (prN b).2 d = sem (flN b) d := fun d h0 => by
      have e := prA_src (ns := b) (f := (0, [])) hw.2.1 hp'.1 h0
      have ps := sem_pos (fl_ok hw.2.1) h0
      refine Eq.trans e ?_
      cases q : sem (flN b) d with
      | lit v => rfl
      | inp p =>
        rw [q] at ps
        show srcAt 0 [] p = _
        rw [srcAt_far (show ((([] : List Src).length : Nat) : Int) ≤ p from ps)]
        simp
    show srcAt (prA (joP f (pwr (prN b).1 (prN b).2 n)) r).1 (prA (joP f (pwr (prN b).1 (prN b).2 n)) r).2 d = thr f.1 f.2 (sem ((List.replicate n (flN b)).flatten ++ flN r) d)
    rw [prA_src (ns := r) hw.2.2 hp'.2 h0, sem_app]
    have ps := sem_pos (fl_ok hw.2.2) h0
    rw [thr_joP ps]
    congr 1
    cases q : sem (flN r) d with
    | lit v => rfl
    | inp p =>
      rw [q] at ps
      show srcAt (pwr _ _ n).1 (pwr _ _ n).2 p = sem _ p
      rw [pwr_src ps]
      exact pw_sem (fl_ok hw.2.1) hb n p ps
  | .cho a b r, f, d, hw, hp, h0 => by cases hp
theorem prN_src {ns : Ns} {d : Int} (hw : wfN ns) (hp : plainN ns = true) (h0 : 0 ≤ d) : srcAt (prN ns).1 (prN ns).2 d = sem (flN ns) d := by
  have e := prA_src (f := (0, [])) hw hp h0
  have ps := sem_pos (fl_ok hw) h0
  refine Eq.trans e ?_
  cases q : sem (flN ns) d with
  | lit v => rfl
  | inp p =>
    rw [q] at ps
    show srcAt 0 [] p = _
    rw [srcAt_far (show ((([] : List Src).length : Nat) : Int) ≤ p from ps)]
    simp
theorem joP_cut (f g : Int × List Src) : cut (joP f g).1 (joP f g).2 = joP f g := cut_cut _ _
theorem prA_cut : ∀ {ns : Ns} {f : Int × List Src}, cut f.1 f.2 = f → cut (prA f ns).1 (prA f ns).2 = prA f ns
  | .nil, f, h => h
  | .dow w r, f, h => prA_cut (ns := r) (joP_cut f (wPair w))
  | .rep n b r, f, h => prA_cut (ns := r) (joP_cut f (pwr (prN b).1 (prN b).2 n))
  | .cho _ _ r, f, h => prA_cut (ns := r) h
theorem prN_cut (ns : Ns) : cut (prN ns).1 (prN ns).2 = prN ns := prA_cut rfl
/-- what has the growth and the sources of a plain tree's words is its pair, once it is cut -/
theorem prN_uniq {ns : Ns} {t : Int} {l : List Src} (hw : wfN ns) (hp : plainN ns = true) (hh : hiM (mN ns)) (ok : ∀ s ∈ l, okS t s) (hg : (l.length : Int) - t = gN ns) (hs : ∀ d, 0 ≤ d → srcAt t l d = sem (flN ns) d) : cut t l = prN ns := by
  have P := okP_N hw hp hh
  rw [← prN_cut ns]
  refine canon3 ok P.1 (by rw [P.2.2.2.1, hg, gN_m]) fun d h0 => ?_
  rw [hs d h0, prN_src hw hp h0]
end Wx

/-! ### part U18 -/
set_option Elab.async false
set_option linter.all false
set_option maxRecDepth 100000
set_option maxHeartbeats 1000000
set_option autoImplicit false
/-! What the pair of a word says at each depth. -/
namespace Wx
open PySem L2
end Wx

/-! ### part U19 -/
set_option Elab.async false
set_option linter.all false
set_option maxRecDepth 100000
set_option maxHeartbeats 1000000
set_option autoImplicit false
/-! A word done to cells, and its pair. -/
namespace Wx
open PySem L2
end Wx

/-! ### part U20 -/
set_option Elab.async false
set_option linter.all false
set_option maxRecDepth 100000
set_option maxHeartbeats 1000000
set_option autoImplicit false
/-! All words of a plain tree done to cells. -/
namespace Wx
open PySem L2
def gF : List Wd → Int
  | [] => 0
  | w :: r => (mW w).2.2 + gF r
end Wx

/-! ### part U21 -/
set_option Elab.async false
set_option linter.all false
set_option maxRecDepth 100000
set_option maxHeartbeats 1000000
set_option autoImplicit false
/-! Marked cells tell a plain tree's pair. -/
namespace Wx
open PySem L2
end Wx

/-! ### part U22 -/
set_option Elab.async false
set_option linter.all false
set_option maxRecDepth 100000
set_option maxHeartbeats 1000000
set_option autoImplicit false
namespace Wx
open PySem L2

section
variable {P : Program} {w : World} {K : PySem.W.Frag} {mg : Str → Option Value} {base : Heap} {f C CP : Addr} {fd : FuncData}
abbrev sp_chosen_pair (K : PySem.W.Frag) (C : Addr) : Sp := SpX (ι := Ns) K (fun x => [progD C x, .py (.str (Str.ofString ""))]) (fun x _ => okPl x) fun x n d m => d = .py (.tuple [.int (prN x).1, srcs (prN x).2]) ∧ m = n
theorem ln_chosen_pair (x : Ns) : [progD CP x, .py (.str (Str.ofString ""))].length = 2 := rfl
theorem nm_chosen_pair (x : Ns) : [progD CP x, .py (.str (Str.ofString ""))].all D.nm = true := rfl
theorem sc_chosen_pair : FnScope ["program", "choices", "chosen", "pair", "sign"] ["program", "choices"] (defScope (top 67)) := ⟨rfl, rfl, rfl, by decide +kernel, rfl, by decide +kernel, by decide +kernel⟩
theorem ok_chosen_pair (F : FnP K "chosen_pair" "chosen_pair" (top 67) f fd) (i_MOST_CHOICES : GInt mg "MOST_CHOICES" 200) (g_isinstance : mg "isinstance" = none) (g_str : mg "str" = none) (g_len : mg "len" = none) (g_all : mg "all" = none) (g_int : mg "int" = none) (S_pair_of : Std P w K mg base 41 "pair_of" ["nodes", "chosen"] (sp_pair_of K 13)) (S_nodes_of : Std P w K mg base 1 "nodes_of" ["program"] (sp_nodes_of K CP)) (kp : KitC K CP) (pa : PrA K CP) (gP : mg "Program" = some (.ref CP)) : FnOk P w K mg base CX0 43 f fd ["program", "choices"] (sp_chosen_pair K CP) := by
  refine F.ok sc_chosen_pair (sx_len ln_chosen_pair) (fun cdv A outer s H vs Q E hr h => ?_)
  have nd := sc_chosen_pair.nd
  refine ⟨_, PSs.nox (pss_cons (ps_if (PW.pt (pw_or (pt_not (truK (K := K) rfl (pe_callB (isiK (K := K) rfl) rfl g_isinstance bt_isinstance (pa_cons (pv 1) (pa_cons (pe_bltn (v := .ty "str") rfl g_str bt_str rfl) pa_nil))) (by intro _; rfl))) (pw_or (pt_cmpR op_gt (pe_callB (lenK (K := K) rfl) rfl g_len PySem.boot_len (pa_cons (pv 1) (pa_nil))) (pe_gint i_MOST_CHOICES rfl) (nomark _)) (pw_or1 (pt_not (truK (K := K) rfl (pe_callB (allK (K := K) rfl rfl) rfl g_all bt_all (pa_cons (pe_lc (own := [("sign", 4)]) rfl nd (pi_str (pv 1)) (blkOk_by (N := ["program", "choices", "chosen", "pair", "sign"]) (sc := (defScope (top 67))) (by decide +kernel)) (fun _ _ _ _ _ => pg_name (i := 4) nd rfl (Or.inl rfl) (.inr rfl)) (fun _ _ _ _ _ => pts_nil) (fun _ _ _ _ _ => pe_cmpR opInSg (pv 4) (pe_str) (by rfl))) (pa_nil))) (by intro _; rfl))))))) (pss_one (ps_never)) (pss_nil))
 (pss_cons (ps_asO (ps_setLc (i := 2) (own := [("sign", 4)]) rfl nd rfl rfl (sw_true rfl rfl rfl (by decide +kernel)) (pi_str (pv 1)) (blkOk_by (N := ["program", "choices", "chosen", "pair", "sign"]) (sc := (defScope (top 67))) (by decide +kernel)) (fun _ _ _ _ _ => pg_name (i := 4) nd rfl (Or.inl rfl) (.inr rfl)) (fun _ _ _ _ _ => pts_nil) (fun _ _ _ _ _ => pe_callTy callINTS rfl g_int bt_int (pa_cons (pv 4) (pa_nil)))))
 (pss_cons (ps_set (i := 3) nd rfl (Or.inl rfl) (pe_std S_pair_of (hr.mono (by decide)) rfl (pa_cons (pe_std S_nodes_of (hr.mono (by decide)) rfl (pa_cons (pv 0) (pa_nil))) (pa_cons (pv 2) (pa_nil)))))
 (pss_cons (ps_if (PW.pt (pw_or (pt_cmpR opISN (pv 3) (pe_non) (nomark _)) (pw_or1 (pt_cmpR (neK (K := K) rfl (room64 hr)) (pv 2) (pe_lst (pa_nil)) (nomark _))))) (pss_one (ps_never)) (pss_nil))
 (pss_one (ps_ret (pv 3))))))), ?_⟩
  refine body_x nm_chosen_pair ?_ vs H Q E h
  clear h hr
  intro c n x hK hp
  (subst hK)
  try clear i_MOST_CHOICES g_isinstance g_str g_len g_all g_int S_pair_of S_nodes_of F
  have h1 : okPl x := hp
  walk_at "WK"
  refine ⟨fun _ => ?_, fun z => (nomatch z)⟩
  walk_at "WK"
  refine ⟨by decide +kernel, ?_⟩
  walk_at "WK"
  refine ⟨fun _ => ?_, fun z => absurd z (by decide +kernel)⟩
  walk_at "WK"
  refine wp_new (wn_lc (fun v hv => ?_) (wi_str ?_))
  · have : v = 4 := by simpa using hv
    subst this
    exact Nat.le_of_ble_eq_true rfl
  walk_at "WK"
  refine ⟨Str.ofString "", rfl, ?_⟩
  refine ⟨fun i acc m' => m' = n ∧ i = 0 ∧ acc = [], ⟨rfl, rfl, rfl⟩, by decide +kernel, ?_, ?_⟩
  · rintro i acc m' d hd ⟨rfl, rfl, rfl⟩
    have e : (signs (Str.ofString "")).length = 0 := by decide +kernel
    rw [List.eq_nil_of_length_eq_zero e] at hd
    cases hd
  rintro acc m' ⟨rfl, _, rfl⟩
  walk_at "WK"
  refine cw_all rfl (one_mk (ls_py ⟨[], rfl, ?_⟩))
  walk_at "WK"
  refine ⟨fun z => absurd z (by decide), fun _ => ?_⟩
  walk_at "WK"
  refine wn_lc (fun v hv => ?_) (wi_str ?_)
  · have : v = 4 := by simpa using hv
    subst this
    exact Nat.le_of_ble_eq_true rfl
  walk_at "WK"
  refine ⟨Str.ofString "", rfl, ?_⟩
  refine ⟨fun i acc m1 => m1 = m' ∧ i = 0 ∧ acc = [], ⟨rfl, rfl, rfl⟩, by decide +kernel, ?_, ?_⟩
  · rintro i acc m1 d hd ⟨rfl, rfl, rfl⟩
    have e : (signs (Str.ofString "")).length = 0 := by decide +kernel
    rw [List.eq_nil_of_length_eq_zero e] at hd
    cases hd
  rintro acc m1 ⟨rfl, _, rfl⟩
  walk_at "WK"
  refine ⟨x, rfl, trivial, ?_⟩
  rintro d m ⟨rfl, rfl⟩
  refine ⟨rfl, ?_⟩
  walk_at "WK"
  refine ⟨(0, x, true), rfl, ⟨h1.1.1, h1.2, h1.1.2.2.2, h1.1.2.2.1, h1.1.2.1, by show dpN x + 1 < 14; have := h1.1.2.1; omega, by decide⟩, ?_⟩
  rintro d m ⟨rfl, rfl⟩
  refine ⟨rfl, ?_⟩
  walk_at "WK"
  refine rw_isN rfl ?_
  walk_at "WK"
  refine ⟨fun _ => ?_, fun z => (nomatch z)⟩
  walk_at "WK"
  rw [show (PyData.list []).eqv (PyData.list []) = true by rw [PyData.eqv]; rfl]
  refine ⟨fun z => (nomatch z), fun _ => ?_⟩
  walk_at "WK"
  first | exact ⟨rfl, rfl⟩ | rfl
end
end Wx

/-! ### part Ra -/
set_option Elab.async false
set_option linter.all false
set_option maxRecDepth 100000
set_option maxHeartbeats 1000000
set_option autoImplicit false
/-! A list's last item taken off and given a name; the last item written anew; a list so many times, perhaps none. -/
namespace Wx
open PySem L2
theorem DaL.snoc {K : PySem.W.Frag} {S : Addr → Prop} {H : Hp} {p : PyData} : ∀ {vs : List V} {ds : List PyData}, DaL K S H vs (ds ++ [p]) → ∃ ys v, vs = ys ++ [v] ∧ DaL K S H ys ds ∧ Da K S H v p
  | vs, [], h => by
    cases h with
    | cons a b =>
      cases b
      exact ⟨[], _, rfl, .nil, a⟩
  | vs, d :: ds, h => by
    cases h with
    | cons a b =>
      obtain ⟨ys, v, rfl, h1, h2⟩ := DaL.snoc (ds := ds) b
      exact ⟨_ :: ys, v, rfl, .cons a h1, h2⟩
section
variable {c : Cy} {sl : List Slo} {nn : Nat} {P : Po} {K : PySem.W.Frag} {te tb : TE} {Ψ : Ow → Nat → Prop}
theorem ws_popG {i : Nat} {ds : List PyData} {p : PyData} {g : TG} (js : List Nat) (hK : K = c.K) (hi : sl[i]? = some (.own (.lst (ds ++ [p])))) (h : Wg c g js (.py p) ⟨sl.set i (.own (.lst ds)), nn⟩ P.nx) :
    Ws c (tAsg (tBM0 K "list" rPop (tVar i)) g) ⟨sl, nn⟩ P := ⟨fun σ A H o Dn nx _ _ _ => by
  subst hK
  obtain ⟨a, h1, ⟨xs, h2, h3⟩, h4⟩ := o.own i _ hi
  obtain ⟨ys, v, rfl, h5, h6⟩ := h3.snoc
  have aA : A a := o.sub a (.inr ⟨i, _, hi, h1⟩)
  have k2 : Kept A H (upd H a (.lst ys)) := fun b u nb q => by rw [upd_ne fun z => nb (by rw [z]; exact aA)]; exact q
  obtain ⟨o2, kp, bk⟩ := o.put (w' := .lst ds) (u := .lst ys) hi h1 h4 o.good ⟨_, upd_same, h5.keep k2⟩
  refine ⟨.ref a, h1, .inl ⟨rfl, ys ++ [v], SqL.of h2⟩, ⟨a, ys ++ [v], v, rfl, rfl, h2, by simp, ?_⟩⟩
  rw [List.dropLast_concat]
  exact h.run σ A _ v o2 (h6.keep k2) _ fun σ' e' q o' _ w => nx σ' A _ e' q kp (fun b z => .inl (bk b (w b z))) o'⟩
theorem ixN_last (n : Nat) : ixN (n + 1) (-1) = some n := by
  unfold ixN
  rw [if_neg (by decide), if_pos (by omega)]
  congr 1
  omega
theorem ws_setLast {i : Nat} {ds : List PyData} {p0 : PyData} (hi : sl[i]? = some (.own (.lst (ds ++ [p0])))) (h : Wp c te ⟨sl, nn⟩ fun d n => ∃ p, d = .py p ∧ Wp c tb ⟨sl, n⟩ fun d2 n2 => d2 = .py (.int (-1)) ∧ P.nx ⟨sl.set i (.own (.lst (ds ++ [p]))), n2⟩) :
    Ws c (tAsg te (gSub (tVar i) tb rSetL)) ⟨sl, nn⟩ P := ⟨fun σ A H o Dn nx _ _ _ => by
  refine h.run σ A H o _ fun v H1 d n q e1 g1 x => ?_
  obtain ⟨p, rfl, q⟩ := q
  have o1 := o.keep e1 g1
  obtain ⟨a, h1, ⟨xs, h2, h3⟩, h4⟩ := o1.own i _ hi
  refine ⟨.ref a, h1, q.run σ A H1 o1 _ fun w H2 d2 n2 q2 e2 g2 x2 => ?_⟩
  obtain ⟨rfl, q2⟩ := q2
  cases Da.int_eq x2
  have o2 := o1.keep e2 g2
  have nk : c.k ≠ some a := fun z => h4 (c.hk a z)
  have ha : H2 a = some (.lst xs) := e2 a _ nk h2
  have h3' := h3.keep (Ek.kept e2 o1.k)
  obtain ⟨ys, v0, rfl, h5, h6⟩ := h3'.snoc
  have aA : A a := o.sub a (.inr ⟨i, _, hi, h1⟩)
  have x' : Da c.K A H2 v p := Da.keep (Ek.kept e2 o1.k) x
  have k2 : Kept A H2 (upd H2 a (.lst (ys ++ [v]))) := fun b u nb q => by rw [upd_ne fun z => nb (by rw [z]; exact aA)]; exact q
  obtain ⟨o3, kp, bk⟩ := o2.put (w' := .lst (ds ++ [p])) (u := .lst (ys ++ [v])) hi h1 h4 g2 ⟨_, upd_same, (h5.append (.cons x' .nil)).keep k2⟩
  refine ⟨a, ys ++ [v0], -1, ys.length, rfl, rfl, ha, by rw [List.length_append]; exact ixN_last _, ?_⟩
  rw [show (ys ++ [v0]).set ys.length v = ys ++ [v] from by simp]
  exact nx σ A _ ⟨sl.set i (.own (.lst (ds ++ [p]))), n2⟩ q2 (fun b u nb w => kp b u nb ((e1.trans e2) b u (fun z => nb (.inl z)) w)) (fun b z => .inl (bk b z)) o3⟩
/-- [..] * k, k perhaps negative -/
theorem wn_repZ (h : Wn c te ⟨sl, nn⟩ fun w n => ∃ ds, w = .lst ds ∧ Wp c tb ⟨sl, n⟩ fun d m => ∃ k : Int, d = .py (.int k) ∧ -(2 ^ 63) ≤ k ∧ k < 2 ^ 63 ∧ ds.length * k.toNat ≤ sizeLine ∧ Ψ (.lst (List.replicate k.toNat ds).flatten) m) : Wn c (tOp rMUL te tb) ⟨sl, nn⟩ Ψ := ⟨fun σ A H o Q k => by
  refine h.run σ A H o _ fun p1 H1 w n q e1 g1 f1 t1 => ?_
  obtain ⟨ds, rfl, q⟩ := q
  obtain ⟨xs, r1, y1⟩ := t1
  have o1 := o.keep e1 g1
  refine q.run σ A H1 o1 _ fun v H2 d m q e2 g2 x => ?_
  obtain ⟨i, rfl, h0, hb, hz, q⟩ := q
  cases Da.int_eq x
  have nk : c.k ≠ some p1 := fun z => o.al p1 (o.k p1 z) f1
  have r1' : H2 p1 = some (.lst xs) := e2 p1 _ nk r1
  have d1 : DaL c.K A H2 xs ds := (y1.less fun a z => .inl z).keep (e2.kept o.k)
  refine .inr ⟨p1, i, xs, rfl, rfl, r1', h0, hb, by rw [d1.len]; exact hz, fun p hp => ?_⟩
  exact k p _ _ m q ((e1.trans e2).trans (Ek.new hp)) (g2.new hp) (fresh_of (e1.trans e2) g2 hp) ⟨_, upd_same, lay (d1.rep i.toNat) hp⟩⟩
theorem wp_repZ {t : TA} {Φ : D → Nat → Prop} (h : Wn c (tOp rMUL (tLst t) tb) ⟨sl, nn⟩ fun w n => Φ (outO w) n) : Wp c (tOp rMUL (tLst t) tb) ⟨sl, nn⟩ Φ := wp_new h
end
end Wx

/-! ### part Rd -/
set_option Elab.async false
set_option linter.all false
set_option maxRecDepth 100000
set_option maxHeartbeats 1000000
set_option autoImplicit false
/-! Calls of defs with one keyword-only parameter that is left out: a text. -/
namespace Wx
open PySem L2
structure StdD (P : Program) (w : World) (K : PySem.W.Frag) (mg : Str → Option Value) (base : Heap) (k : Nat) (x : Str) (ps : List Str) (t : Str) (sp : Sp) : Prop where
  ex : ∃ f fd ds, FnOk P w K mg base CX0 k f fd ps sp ∧ mg x = some (.ref f) ∧ PySem.W.keepIn K (.ref f) = true ∧ Binds K fd ps ds ∧ Vals [V.str t] ds
structure StdF (P : Program) (w : World) (K : PySem.W.Frag) (mg : Str → Option Value) (base : Heap) (k : Nat) (x : Str) (ps : List Str) (t : Str) (sp : Sp) : Prop where
  ex : ∃ f fd ds, FnOk P w K mg base (L2.CX P w) k f fd ps sp ∧ mg x = some (.ref f) ∧ PySem.W.keepIn K (.ref f) = true ∧ Binds K fd ps ds ∧ Vals [V.str t] ds
def tCallF (sp : Sp) (t : Str) (W : WX) (ta : TA) : TE := tCallSD sp [V.str t] (WE W) ta
section
variable {X : Cx} {k : Nat} {x : Str} {ps : List Str} {sp : Sp} {e : Expr} {es : List Expr} {p pos : Pos} {ta : TA} {W : WX} {t : Str}
theorem pe_stdD (F : StdD X.prog X.w X.K X.mg X.base k x ps t sp) (hr : Room k X.A) (hg : Gl X x) (ha : PA X (e :: es) ta) (hdb : (x == ("__debug__" : Str)) = false := by decide)
    (he : starEach (e :: es) X.env = (false, eval e X.env) :: starEach es X.env := by rfl) (hpl : (backTo pos (starEach es X.env)).any (·.1) = false := by rfl) : PE X (.Call (.Name x p) (e :: es) [] pos) (tCall sp [V.str t] E0 ta) := by
  obtain ⟨f, fd, ds, h1, h2, h3, h4, h5⟩ := F.ex
  exact pe_call h1 hr hg h2 h3 h4 h5 pass0 ha hdb he hpl
theorem pe_stdF (F : StdF X.prog X.w X.K X.mg X.base k x ps t sp) (hr : Room k X.A) (tk : Takes X W) (hg : Gl X x) (ha : PA X (e :: es) ta) (hdb : (x == ("__debug__" : Str)) = false := by decide)
    (he : starEach (e :: es) X.env = (false, eval e X.env) :: starEach es X.env := by rfl) (hpl : (backTo pos (starEach es X.env)).any (·.1) = false := by rfl) : PE X (.Call (.Name x p) (e :: es) [] pos) (tCallF sp t W ta) := by
  obtain ⟨f, fd, ds, h1, h2, h3, h4, h5⟩ := F.ex
  exact pe_callSD h1 hr hg h2 h3 h4 h5 (passAt tk) ha hdb he hpl
end
section
variable {c : Cy} {sl : List Slo} {nn : Nat} {ta : TA} {t : Str} {K : PySem.W.Frag} {A : Addr → Prop} {H : Hp} {W : WX}
theorem DXs.snocS : ∀ {vs : List V} {ds : List D}, DXs c A H vs ds → DXs c A H (vs ++ [.str t]) (ds ++ [.py (.str t)])
  | [], [], _ => ⟨.str t, True.intro⟩
  | v :: vs, d :: ds, ⟨h, k⟩ => ⟨h, DXs.snocS (vs := vs) (ds := ds) k⟩
  | [], _ :: _, h => h.elim
  | _ :: _, [], h => h.elim
theorem all_snocS {ds : List D} (h : ds.all argOk = true) : (ds ++ [D.py (.str t)]).all argOk = true := by rw [List.all_append, h]; rfl
theorem wp_cxD {ι : Type} {ar : ι → List D} {pre : ι → Nat → Prop} {post : ι → Nat → D → Nat → Prop} {E : XK} {Φ : D → Nat → Prop} (hK : K = c.K)
    (h : Wa c ta ⟨sl, nn⟩ fun ds n => ds.all argOk = true ∧ ∃ x, ds.map arg ++ [.py (.str t)] = ar x ∧ pre x n ∧ ∀ d m, post x n d m → outD d = true ∧ Φ d m) : Wp c (tCall (SpX K ar pre post) [V.str t] E ta) ⟨sl, nn⟩ Φ := ⟨fun σ A H o Q k => by
  refine h.run σ A H o _ fun vs H1 ds n p e1 g1 x => ?_
  have o1 := o.keep e1 g1
  obtain ⟨p1, z, p2, p3, p4⟩ := p
  exact ⟨z, sp_run (K := K) (pre := fun ds n => ds = ar z ∧ pre z n) (post := fun _ n d m => post z n d m) hK o1.at_ x.snocS (all_snocS p1) ⟨by rw [List.map_append]; exact p2, p3⟩ p4 fun v H2 d m q e2 g2 y => k v H2 d m q (e1.trans e2) g2 y⟩⟩
/-- a call that may raise: it does not -/
theorem wp_callFO {ι : Type} {ar : ι → List D} {pre : ι → Nat → Prop} {post : ι → Nat → D → Nat → Prop} {s2 : Sp} {Φ : D → Nat → Prop} (hK : K = c.K)
    (h : Wa c ta ⟨sl, nn⟩ fun ds n => ds.all argOk = true ∧ ∃ x, ds.map arg ++ [.py (.str t)] = ar x ∧ pre x n ∧ ∀ d m, post x n d m → outD d = true ∧ Φ d m) : Wp c (tCallF (SpO (SpX K ar pre post) s2) t W ta) ⟨sl, nn⟩ Φ := ⟨fun σ A H o Q k => by
  refine h.run σ A H o _ fun vs H1 ds n p e1 g1 x => ?_
  have o1 := o.keep e1 g1
  obtain ⟨p1, z, p2, p3, p4⟩ := p
  exact .inl ⟨z, sp_run (K := K) (pre := fun ds n => ds = ar z ∧ pre z n) (post := fun _ n d m => post z n d m) hK o1.at_ x.snocS (all_snocS p1) ⟨by rw [List.map_append]; exact p2, p3⟩ p4 fun v H2 d m q e2 g2 y => k v H2 d m q (e1.trans e2) g2 y⟩⟩
/-- .. it does -/
theorem wq_callFO {ι : Type} {ar : ι → List D} {pre : ι → Nat → Prop} {post : ι → Nat → Addr → XFs → Nat → Prop} {s1 : Sp} {Φ : Addr → XFs → En → Prop} (hK : K = c.K)
    (h : Wa c ta ⟨sl, nn⟩ fun ds n => ds.all argOk = true ∧ ∃ z, ds.map arg ++ [.py (.str t)] = ar z ∧ pre z n ∧ ∀ cl fs m, post z n cl fs m → Φ cl fs ⟨sl, m⟩) : Wq c (tCallF (SpO s1 (SpR K ar pre post)) t W ta) ⟨sl, nn⟩ W Φ := ⟨fun σ A H o x Q => by
  refine h.run σ A H o _ fun vs H1 ds n p e1 g1 y => ?_
  have o1 := o.keep e1 g1
  obtain ⟨p1, z, p2, p3, p4⟩ := p
  subst hK
  refine .inr ⟨c.at_ A o1.at_.k, n, z, rfl, ⟨o1.at_.al, g1.kl⟩, by rw [← p2, show ds.map arg ++ [D.py (.str t)] = (ds ++ [D.py (.str t)]).map arg by rw [List.map_append]; rfl]; exact dxs_arg o1.at_ (all_snocS p1) y.snocS, p3, fun cls od H' cl fs m q ek g' xd => ?_⟩
  have ek' : Ek c H1 H' := ek
  have g2 : Good c m H' := ⟨fun b w => g'.al b (o1.at_.s b w), g'.kl⟩
  exact x σ A H' ⟨sl, m⟩ cls od cl fs (p4 cl fs m q) (Kp.ek (e1.trans ek')) (fun _ z => .inl z) (o1.keep ek' g2) xd⟩
end
end Wx

/-! ### part Re -/
set_option Elab.async false
set_option linter.all false
set_option maxRecDepth 100000
set_option maxHeartbeats 1000000
set_option autoImplicit false
namespace Wx
open PySem L2
section
variable {c : Cy} {n : Nat} {K : PySem.W.Frag} {Ψ : Ow → Nat → Prop}
/-- two lists put together: a new one of one's own -/
theorem rn_cat {ds es : List PyData} (hK : K = c.K) (h : ds.length + es.length ≤ sizeLine ∧ Ψ (.lst (ds ++ es)) n) : Rn c (rADD K) (.py (.list ds)) (.py (.list es)) n Ψ := ⟨fun A H v1 v2 a x1 x2 Q k => by
  subst hK
  obtain ⟨b1, xs, rfl, h1, t1⟩ := Da.list_at x1
  obtain ⟨b2, ys, rfl, h2, t2⟩ := Da.list_at x2
  refine .inr (.inr (.inr (.inr ⟨b1, b2, xs, ys, rfl, rfl, h1, h2, by rw [t1.len, t2.len]; exact h.1, fun r hr => ?_⟩)))
  exact k r _ _ n h.2 (Ek.new hr) (a.good.new hr) hr ⟨xs ++ ys, upd_same, lay (t1.append t2) hr⟩⟩
theorem rw_aS {Φ : D → Nat → Prop} {x y : Str} (h : x.length + y.length ≤ sizeLine ∧ Φ (.py (.str (x ++ y))) n) : Rw c (rADD K) (.py (.str x)) (.py (.str y)) n Φ := rw_addS h
end
end Wx

/-! ### part Rf -/
set_option Elab.async false
set_option linter.all false
set_option maxRecDepth 100000
set_option maxHeartbeats 4000000
set_option autoImplicit false
/-! A tuple so many times: not at all, once, more often. -/
namespace Wx
open PySem PySem.Spec PyProof.Rows L2
theorem tmul_zero (l : Addr) (items : Array Value) (n : Nat) (dd : Option Addr) (sl : Array (Option Value)) (u : Tok) (hi : items.isEmpty = false) :
    Meets (Builtin.«tuple.__mul__» ⟨[.ref l, .int 0 u], []⟩) (fun _ R st => st.heap.get? l = some { cls := .type "tuple", dict := dd, data := .seq items n, slots := sl } ∧
      R (.ok (.ret (Value.ref st.heap.objs.size))) { st with heap := st.heap.push { cls := Value.type "tuple", data := Data.seq #[] }, toks := st.toks }) :=
  .of_wp fun pg wd A R st h => by
    obtain ⟨h1, g1, d1, t1, o1⟩ := st
    obtain ⟨hl, h⟩ := h
    have f1 := AutoSeq1.idx_int
    have c1 : (items.isEmpty || (0 : Int) == 1) = false := by rw [hi]; rfl
    have c2 : (decide ((0 : Int) ≤ 0) || items.isEmpty) = true := rfl
    wp_walk using wpAny_loadPart' hl
    repeat (first
      | (refine wpAny_ite_false (by decide) ?_; wp_walk using wpAny_loadPart' hl)
      | (refine wpAny_ite_false (decide_eq_false (by rw [c1]; exact fun z => nomatch z)) ?_; wp_walk using wpAny_loadPart' hl)
      | (refine wpAny_ite_true (decide_eq_true (by rw [c2])) ?_; wp_walk using wpAny_loadPart' hl))
    exact ⟨_, rfl, h⟩
theorem tmul_one (l : Addr) (items : Array Value) (n : Nat) (dd : Option Addr) (sl : Array (Option Value)) (u : Tok) (hi : items.isEmpty = false) :
    Meets (Builtin.«tuple.__mul__» ⟨[.ref l, .int 1 u], []⟩) (fun _ R st => st.heap.get? l = some { cls := .type "tuple", dict := dd, data := .seq items n, slots := sl } ∧
      R (.ok (.ret (Value.ref l))) st) :=
  .of_wp fun pg wd A R st h => by
    obtain ⟨h1, g1, d1, t1, o1⟩ := st
    obtain ⟨hl, h⟩ := h
    have f1 := AutoSeq1.idx_int
    have c1 : (items.isEmpty || (1 : Int) == 1) = true := by rw [hi]; rfl
    wp_walk using wpAny_loadPart' hl
    repeat (first
      | (refine wpAny_ite_false (by decide) ?_; wp_walk using wpAny_loadPart' hl)
      | (refine wpAny_ite_true (decide_eq_true (by rw [c1])) ?_; wp_walk using wpAny_loadPart' hl))
    exact ⟨_, rfl, h⟩
def rRepS (K : PySem.W.Frag) : R2 := fun x y H Q => ∃ l k xs, x = .ref l ∧ y = .int k ∧ SqT K H l xs ∧ xs ≠ [] ∧
  ((k = 0 ∧ ∀ p, H p = none → Q (.ref p) (upd H p (.tup []))) ∨ (k = 1 ∧ Q (.ref l) H) ∨ (2 ≤ k ∧ k ≤ 1000 ∧ xs.length ≤ 1000 ∧ ∀ p, H p = none → Q (.ref p) (upd H p (.tup (List.replicate k.toNat xs).flatten))))
theorem opREPS {X : Cx} : OpR X (binaryOp .Mult) (rRepS X.K) := by
  intro ps st σ H x y v u Q I rx ry h
  obtain ⟨l, k, xs, rfl, rfl, hT, hne, h⟩ := h
  rcases h with ⟨rfl, q⟩ | ⟨rfl, q⟩ | ⟨h1, h2, h3, q⟩
  · cases rx
    obtain ⟨t, rfl⟩ := ry
    obtain ⟨its, rr, ⟨⟨oc, od, oda, osl⟩, hob, hoc, m, hod⟩, _⟩ := I.tuple hT
    simp only at hoc hod
    subst hoc hod
    have hi : its.toArray.isEmpty = false := by
      cases its with
      | nil => exact absurd (List.eq_nil_of_length_eq_zero (by rw [rr.length]; rfl)) hne
      | cons a b => rfl
    refine wpAny_binaryOp_repeat_ref (T := "tuple") (U := "int") (by decide) ⟨_, hob, rfl⟩ (fun s' => typeIs_int s' 0 t) noFill_tuple_mul F.fills_int_mul F.slot_int_rmul repeat_tuple F.slot_int_index.lookup ?_
    refine call_meets F.slot_int_rmul (typeIs_int st 0 t) F.entry_int_rmul (F.args_int_rmul_2 _ _) (int_rmul_tuple 0 t l its.toArray m od osl) ⟨hob, rfl, ⟨_, hob, rfl⟩, ?_⟩
    refine call_meets F.slot_tuple_mul ⟨_, hob, rfl⟩ F.entry_tuple_mul (F.args_tuple_mul_2 _ _) (tmul_zero l its.toArray m od osl t hi) ⟨hob, ?_⟩
    refine ⟨.ref st.heap.objs.size, _, I.laid (t' := st.toks) (o := .tup []) (fun b ob z => Heap.get?_push_of_some _ z) (Nat.le_refl _) ?_, rfl, q _ (I.hok.fresh (Nat.le_refl _))⟩
    exact ⟨Nat.zero_le _, [], .nil, IsTup.new _ _⟩
  · cases rx
    obtain ⟨t, rfl⟩ := ry
    obtain ⟨its, rr, ⟨⟨oc, od, oda, osl⟩, hob, hoc, m, hod⟩, _⟩ := I.tuple hT
    simp only at hoc hod
    subst hoc hod
    have hi : its.toArray.isEmpty = false := by
      cases its with
      | nil => exact absurd (List.eq_nil_of_length_eq_zero (by rw [rr.length]; rfl)) hne
      | cons a b => rfl
    refine wpAny_binaryOp_repeat_ref (T := "tuple") (U := "int") (by decide) ⟨_, hob, rfl⟩ (fun s' => typeIs_int s' 1 t) noFill_tuple_mul F.fills_int_mul F.slot_int_rmul repeat_tuple F.slot_int_index.lookup ?_
    refine call_meets F.slot_int_rmul (typeIs_int st 1 t) F.entry_int_rmul (F.args_int_rmul_2 _ _) (int_rmul_tuple 1 t l its.toArray m od osl) ⟨hob, rfl, ⟨_, hob, rfl⟩, ?_⟩
    refine call_meets F.slot_tuple_mul ⟨_, hob, rfl⟩ F.entry_tuple_mul (F.args_tuple_mul_2 _ _) (tmul_one l its.toArray m od osl t hi) ⟨hob, ?_⟩
    exact ⟨.ref l, H, I, rfl, q⟩
  · exact op_repT ps st σ H (.ref l) (.int k) v u Q I rx ry ⟨l, k, xs, rfl, rfl, hT, hne, h1, h2, h3, q⟩
theorem repSK {X : Cx} {K : PySem.W.Frag} (hK : X.K = K) : OpR X (binaryOp .Mult) (rRepS K) := hK ▸ opREPS
section
variable {c : Cy} {n : Nat} {K : PySem.W.Frag} {Φ : D → Nat → Prop}
theorem rw_repT {k : Nat} {ds : List PyData} (hK : K = c.K) (hne : ds ≠ []) (hl : ds.length ≤ 1000) (hk : k ≤ 1000) (h : Φ (.py (.tuple (List.replicate k ds).flatten)) n) : Rw c (rRepS K) (.py (.tuple ds)) (.py (.int (k : Int))) n Φ := ⟨fun A H v1 v2 a x1 x2 Q q => by
  subst hK
  have y1 := x1
  obtain ⟨l, xs, rfl, hs, t⟩ := Da.tuple_at x1
  cases Da.int_eq x2
  have hx : xs ≠ [] := fun z => hne ((DaL.nil_iff t).mp z)
  refine ⟨l, (k : Int), xs, rfl, rfl, hs, hx, ?_⟩
  match k, hk, h with
  | 0, _, h => exact .inl ⟨rfl, fun p hp => q _ _ _ n h (Ek.new hp) (a.good.new hp) (.tup (a.fresh hp) (.inl upd_same) .nil)⟩
  | 1, _, h =>
    refine .inr (.inl ⟨rfl, q _ H _ n h Ek.refl a.good ?_⟩)
    rw [show (List.replicate 1 ds).flatten = ds by simp]
    exact y1
  | k + 2, hk, h =>
    refine .inr (.inr ⟨by omega, by omega, by rw [t.len]; exact hl, fun p hp => ?_⟩)
    have e : ((k + 2 : Nat) : Int).toNat = k + 2 := rfl
    rw [e]
    exact q _ _ _ n h (Ek.new hp) (a.good.new hp) (.tup (a.fresh hp) (.inl upd_same) ((t.rep (k + 2)).new hp))⟩
end
end Wx

/-! ### part R1 -/
set_option Elab.async false
set_option linter.all false
set_option maxRecDepth 100000
set_option maxHeartbeats 1000000
set_option autoImplicit false
/-! Trees as the law's generator makes them: put together, levelled, measured word by word. -/
namespace Wx
open PySem L2
def appN : Ns → Ns → Ns
  | .nil, b => b
  | .dow w r, b => .dow w (appN r b)
  | .rep n a r, b => .rep n a (appN r b)
  | .cho a c r, b => .cho a c (appN r b)
theorem toks_app : ∀ a b : Ns, toks (appN a b) = toks a ++ toks b
  | .nil, b => rfl
  | .dow w r, b => by show .w w :: toks (appN r b) = _; rw [toks_app r b]; rfl
  | .rep n a r, b => by show .op :: (toks a ++ .cl n :: toks (appN r b)) = _; rw [toks_app r b]; show _ = .op :: (toks a ++ .cl n :: toks r) ++ toks b; simp
  | .cho a c r, b => by show .bo :: (toks a ++ .bi :: (toks c ++ .bc :: toks (appN r b))) = _; rw [toks_app r b]; show _ = .bo :: (toks a ++ .bi :: (toks c ++ .bc :: toks r)) ++ toks b; simp
theorem tkN_app (a b : Ns) : tkN (appN a b) = tkN a + tkN b := by rw [← toks_len, toks_app, List.length_append, toks_len, toks_len]
theorem dpN_app : ∀ a b : Ns, dpN (appN a b) = max (dpN a) (dpN b)
  | .nil, b => by show dpN b = max 0 (dpN b); omega
  | .dow w r, b => by show dpN (appN r b) = max (dpN r) (dpN b); exact dpN_app r b
  | .rep n a r, b => by show max (1 + dpN a) (dpN (appN r b)) = max (max (1 + dpN a) (dpN r)) (dpN b); rw [dpN_app r b]; omega
  | .cho a c r, b => by show max (1 + max (dpN a) (dpN c)) (dpN (appN r b)) = max (max (1 + max (dpN a) (dpN c)) (dpN r)) (dpN b); rw [dpN_app r b]; omega
theorem gN_app : ∀ a b : Ns, gN (appN a b) = gN a + gN b
  | .nil, b => by show gN b = 0 + gN b; omega
  | .dow w r, b => by show (mW w).2.2 + gN (appN r b) = (mW w).2.2 + gN r + gN b; rw [gN_app r b]; omega
  | .rep n a r, b => by show (n : Int) * gN a + gN (appN r b) = (n : Int) * gN a + gN r + gN b; rw [gN_app r b]; omega
  | .cho a c r, b => by show gN a + gN (appN r b) = gN a + gN r + gN b; rw [gN_app r b]; omega
theorem mA_app : ∀ (a b : Ns) (m : Int × Int × Int), mA m (appN a b) = mA (mA m a) b
  | .nil, b, m => rfl
  | .dow w r, b, m => mA_app r b _
  | .rep n a r, b, m => mA_app r b _
  | .cho a c r, b, m => mA_app r b _
theorem flN_app : ∀ a b : Ns, flN (appN a b) = flN a ++ flN b
  | .nil, b => rfl
  | .dow w r, b => by show w :: flN (appN r b) = _; rw [flN_app r b]; rfl
  | .rep n a r, b => by show _ ++ flN (appN r b) = _; rw [flN_app r b, ← List.append_assoc]; rfl
  | .cho a c r, b => flN_app r b
theorem appN_ne1 {a b : Ns} (h : a ≠ .nil) : appN a b ≠ .nil := by
  cases a with
  | nil => exact absurd rfl h
  | dow w r => exact fun z => nomatch z
  | rep n a r => exact fun z => nomatch z
  | cho a c r => exact fun z => nomatch z
/-- a tree without choices; its repeats grow or fall a little in each pass -/
def wf0 : Ns → Prop
  | .nil => True
  | .dow w r => okWd w ∧ wf0 r
  | .rep n b r => (2 ≤ n ∧ n ≤ 10 ^ 30 ∧ b ≠ .nil ∧ -100 ≤ gN b ∧ gN b ≤ 100) ∧ wf0 b ∧ wf0 r
  | .cho _ _ _ => False
theorem wf0_plain : ∀ {ns : Ns}, wf0 ns → plainN ns = true
  | .nil, _ => rfl
  | .dow w r, h => wf0_plain (ns := r) h.2
  | .rep n b r, h => by show (plainN b && plainN r) = true; rw [wf0_plain (ns := b) h.2.1, wf0_plain (ns := r) h.2.2]; rfl
  | .cho _ _ _, h => h.elim
theorem wf0_app : ∀ {a b : Ns}, wf0 a → wf0 b → wf0 (appN a b)
  | .nil, b, _, h => h
  | .dow w r, b, h, g => ⟨h.1, wf0_app (a := r) h.2 g⟩
  | .rep n a r, b, h, g => ⟨h.1, h.2.1, wf0_app (a := r) h.2.2 g⟩
  | .cho _ _ _, b, h, _ => h.elim
theorem wf0_tok : ∀ {ns : Ns}, wf0 ns → ∀ t ∈ toks ns, okTk t
  | .nil, _, t, h => by cases h
  | .dow w r, h, t, ht => by
    rcases List.mem_cons.mp (show t ∈ .w w :: toks r from ht) with rfl | ht
    · exact h.1
    · exact wf0_tok (ns := r) h.2 t ht
  | .rep n b r, h, t, ht => by
    rcases List.mem_cons.mp (show t ∈ .op :: (toks b ++ .cl n :: toks r) from ht) with rfl | ht
    · exact True.intro
    · rcases List.mem_append.mp ht with ht | ht
      · exact wf0_tok (ns := b) h.2.1 t ht
      · rcases List.mem_cons.mp ht with rfl | ht
        · exact ⟨h.1.1, h.1.2.1⟩
        · exact wf0_tok (ns := r) h.2.2 t ht
  | .cho _ _ _, h, _, _ => h.elim
theorem hi_part {m x : Int × Int × Int} (h : hiM (joinM m x)) : hiM x := by
  unfold hiM joinM at h
  simp only [mxI_eq] at h
  unfold hiM
  omega
theorem hi_pass {m : Int × Int × Int} {n : Nat} (hn : 1 ≤ n) (h : hiM (repM m n)) : hiM m := by
  unfold hiM repM at h
  simp only [mxI_eq] at h
  unfold hiM
  have a : 0 ≤ ((n : Int) - 1) * max 0 (-m.2.2) := Int.mul_nonneg (by omega) (by omega)
  have b : 0 ≤ ((n : Int) - 1) * max 0 m.2.2 := Int.mul_nonneg (by omega) (by omega)
  omega
/-- if the whole is not too high, no part of it is -/
theorem wf_of : ∀ {ns : Ns} {m : Int × Int × Int}, wf0 ns → hiM (mA m ns) → wfN ns
  | .nil, m, _, _ => True.intro
  | .dow w r, m, h, q => ⟨h.1, wf_of (ns := r) h.2 q⟩
  | .rep n b r, m, h, q => by
    have q1 : hiM (joinM m (repM (mN b) n)) := hi_mono (ns := r) q
    have q2 := hi_part q1
    have q3 : hiM (mN b) := hi_pass (Nat.le_trans (by decide) h.1.1) q2
    exact ⟨⟨h.1.1, h.1.2.1, h.1.2.2.1, q3, q2⟩, wf_of (ns := b) h.2.1 q3, wf_of (ns := r) h.2.2 q⟩
  | .cho _ _ _, m, h, _ => h.elim
/-! ## measured word by word -/
abbrev M3 : Type := Int × Int × Int
inductive MR : List Tk → List M3 → M3 → Prop
  | nil {m : M3} : MR [] [m] m
  | w {w : Wd} {ts : List Tk} {m z : M3} {r : List M3} : okWd w → MR ts (joinM m (mW w) :: r) z → MR (.w w :: ts) (m :: r) z
  | op {ts : List Tk} {m z : M3} {r : List M3} : MR ts ((0, 0, 0) :: m :: r) z → MR (.op :: ts) (m :: r) z
  | cl {n : Nat} {ts : List Tk} {m m1 z : M3} {r : List M3} : 2 ≤ n → n ≤ 10 ^ 30 → -100 ≤ m.2.2 ∧ m.2.2 ≤ 100 → MR ts (joinM m1 (repM m n) :: r) z → MR (.cl n :: ts) (m :: m1 :: r) z
theorem mr_ns : ∀ {ns : Ns} {ts : List Tk} {m z : M3} {r : List M3}, wf0 ns → MR ts (mA m ns :: r) z → MR (toks ns ++ ts) (m :: r) z
  | .nil, ts, m, z, r, _, h => h
  | .dow w q, ts, m, z, r, hw, h => .w hw.1 (mr_ns (ns := q) hw.2 h)
  | .rep n b q, ts, m, z, r, hw, h => by
    show MR (.op :: (toks b ++ .cl n :: toks q) ++ ts) (m :: r) z
    rw [List.cons_append, List.append_assoc]
    refine .op (mr_ns (ns := b) hw.2.1 ?_)
    refine .cl hw.1.1 hw.1.2.1 ?_ (mr_ns (ns := q) hw.2.2 h)
    rw [show mA (0, 0, 0) b = mN b from rfl, gN_m]
    exact hw.1.2.2.2
  | .cho _ _ _, ts, m, z, r, h, _ => h.elim
theorem mr_all {ns : Ns} (h : wf0 ns) : MR (toks ns) [(0, 0, 0)] (mN ns) := by
  have := mr_ns (ts := []) (m := (0, 0, 0)) (r := []) (z := mN ns) h .nil
  rwa [List.append_nil] at this
/-! ## rows -/
def dows : List Wd → Ns
  | [] => .nil
  | w :: r => .dow w (dows r)
theorem dows_wf : ∀ {ws : List Wd}, (∀ w ∈ ws, okWd w) → wf0 (dows ws)
  | [], _ => True.intro
  | w :: r, h => ⟨h w List.mem_cons_self, dows_wf fun x hx => h x (List.mem_cons_of_mem _ hx)⟩
theorem dows_toks : ∀ ws : List Wd, toks (dows ws) = ws.map Tk.w
  | [] => rfl
  | w :: r => by show .w w :: toks (dows r) = _; rw [dows_toks r]; rfl
theorem dows_dp : ∀ ws : List Wd, dpN (dows ws) = 0
  | [] => rfl
  | w :: r => dows_dp r
theorem dows_tk (ws : List Wd) : tkN (dows ws) = ws.length := by rw [← toks_len, dows_toks, List.length_map]
theorem dows_g : ∀ ws : List Wd, gN (dows ws) = gF ws
  | [] => rfl
  | w :: r => by show (mW w).2.2 + gN (dows r) = (mW w).2.2 + gF r; rw [dows_g r]
theorem gW_bd (w : Wd) : -1 ≤ (mW w).2.2 ∧ (mW w).2.2 ≤ 1 := by
  cases w with
  | d => exact ⟨Int.le_refl _, by show (-1 : Int) ≤ 1; decide⟩
  | p n => exact ⟨by show (-1 : Int) ≤ 1; decide, Int.le_refl _⟩
  | r n => exact ⟨by show (-1 : Int) ≤ 0; decide, by show (0 : Int) ≤ 1; decide⟩
  | c v => exact ⟨by show (-1 : Int) ≤ 1; decide, Int.le_refl _⟩
theorem gF_bd : ∀ ws : List Wd, -(ws.length : Int) ≤ gF ws ∧ gF ws ≤ ws.length
  | [] => by decide
  | w :: r => by
    have a := gW_bd w
    have b := gF_bd r
    show -((r.length + 1 : Nat) : Int) ≤ (mW w).2.2 + gF r ∧ (mW w).2.2 + gF r ≤ ((r.length + 1 : Nat) : Int)
    omega
theorem gF_d : ∀ k : Nat, gF (List.replicate k Wd.d) = -(k : Int)
  | 0 => rfl
  | k + 1 => by
    show (mW .d).2.2 + gF (List.replicate k Wd.d) = _
    rw [gF_d k]
    show (-1 : Int) + -(k : Int) = -((k + 1 : Nat) : Int)
    omega
theorem gF_c : ∀ cs : List Int, gF (cs.map Wd.c) = (cs.length : Int)
  | [] => rfl
  | c :: r => by
    show (mW (.c c)).2.2 + gF (r.map Wd.c) = _
    rw [gF_c r]
    show (1 : Int) + (r.length : Int) = ((r.length + 1 : Nat) : Int)
    omega
/-! ## the generator -/
def Ld : Nat → Nat
  | 0 => 20
  | d + 1 => 30 + 6 * Ld d
def Cd : Nat → Nat
  | 0 => 1000
  | d + 1 => 1000 + 100 * Cd d + 1000 * Ld d
/-- what the generator gives at most so deep, of at most so many parts -/
structure Raw (deep most : Nat) (ns : Ns) : Prop where
  wf : wf0 ns
  ne : ns ≠ .nil
  dp : dpN ns ≤ deep
  tk : tkN ns ≤ Ld deep
  gb : (gN ns).natAbs ≤ 5 * tkN ns
  one : most = 1 → ∃ w, okWd w ∧ ns = .dow w .nil
theorem raw_one {deep : Nat} {ns : Ns} (h : Raw deep 1 ns) : hiM (mN ns) ∧ tkN ns = 1 := by
  obtain ⟨w, hw, rfl⟩ := h.one rfl
  have := hi_w hw
  refine ⟨?_, rfl⟩
  show hiM (joinM (0, 0, 0) (mW w))
  have := okMs_w w
  unfold okMs at this
  unfold hiM at *
  unfold joinM
  simp only [mxI_eq]
  omega
end Wx

/-! ### part R2 -/
set_option Elab.async false
set_option linter.all false
set_option maxRecDepth 100000
set_option maxHeartbeats 1000000
set_option autoImplicit false
namespace Wx
open PySem L2
theorem app_sg (x y : List Nat) : (sg x ++ sg y : Str) = sg (x ++ y) := by
  refine congrArg Str.mk ?_
  show x.toArray ++ y.toArray = _
  simp
theorem txN_sg' (n : Nat) : (toString ((n : Nat) : Int) : Str) = sg (TL.numL n) := txN_sg n
theorem str_lit_app (s t : String) : Str.ofString (s ++ t) = Str.ofString s ++ Str.ofString t := by
  have h : ∀ s : String, Str.ofString s = sg (s.toList.map Char.toNat) := fun s => by
    unfold sg
    rw [← cpsOfBytes_string]
    rfl
  rw [h, h, h, app_sg, String.toList_append, List.map_append]
theorem wc_tx (v : Int) : (toString v : Str) = (Wd.c v).tx := by
  unfold Wd.tx
  rw [wd_c]
  cases v with
  | ofNat n =>
    rw [if_neg (by have := Int.natCast_nonneg n; exact Int.not_lt.mpr this)]
    exact txN_sg' n
  | negSucc n =>
    rw [if_pos (Int.negSucc_lt_zero n)]
    have e : (toString (Int.negSucc n) : String) = "-" ++ toString (((n + 1 : Nat)) : Int) := rfl
    rw [e, str_lit_app]
    rw [show (Str.ofString (toString (((n + 1 : Nat)) : Int)) : Str) = sg (TL.numL (n + 1)) from txN_sg' (n + 1), show Str.ofString "-" = sg [45] by decide +kernel, app_sg]
    rfl
theorem wp_txI (n : Nat) : (Str.ofString "p" ++ (toString ((n : Nat) : Int) : Str)) = (Wd.p n).tx := by
  rw [txt_p, txN_sg', app_sg]
  rfl
theorem wr_txI (n : Nat) : (Str.ofString "r" ++ (toString ((n : Nat) : Int) : Str)) = (Wd.r n).tx := by
  rw [txt_r, txN_sg', app_sg]
  rfl
theorem cl_txI (n : Nat) : (Str.ofString ")" ++ (toString ((n : Nat) : Int) : Str)) = (Tk.cl n).tx := by
  rw [txt_e, txN_sg', app_sg]
  rfl
theorem log2_lt {v : Int} (h : v.natAbs ≤ 10 ^ 30) : v.natAbs.log2 < 1920 := by
  by_cases q : v.natAbs = 0
  · rw [q]; decide
  · exact (Nat.log2_lt q).mpr (Nat.lt_of_le_of_lt h (by decide))
theorem at5 {i j k l u r : Int} (p : Int → Prop) (hi : p i) (hj : p j) (hk : p k) (hl : p l) (hu : p u) (h0 : 0 ≤ r) (h1 : r < 5) : ∃ v, atI [PyData.int i, .int j, .int k, .int l, .int u] r = some (.int v) ∧ p v := by
  have q : r = 0 ∨ r = 1 ∨ r = 2 ∨ r = 3 ∨ r = 4 := by omega
  rcases q with rfl | rfl | rfl | rfl | rfl
  · exact ⟨i, rfl, hi⟩
  · exact ⟨j, rfl, hj⟩
  · exact ⟨k, rfl, hk⟩
  · exact ⟨l, rfl, hl⟩
  · exact ⟨u, rfl, hu⟩
theorem p30E : (10 : Int) ^ Int.toNat 30 = 10 ^ 30 := by decide +kernel
theorem tx_len {v : Int} (h : -(10 ^ 30) ≤ v ∧ v ≤ 10 ^ 30) : (toString v : Str).length ≤ 33 := by
  rw [wc_tx]
  unfold Wd.tx
  rw [sg_len]
  exact (wd_len (w := .c v) h).2

section
variable {P : Program} {w : World} {K : PySem.W.Frag} {mg : Str → Option Value} {base : Heap} {f C : Addr} {fd : FuncData}
abbrev sp__law_constant (K : PySem.W.Frag) : Sp := SpX (ι := Unit) K (fun _ => [.kln]) (fun _ n => n < 2 ^ 99) fun _ n d m => (∃ v, d = .py (.str (Wd.c v).tx) ∧ okWd (.c v)) ∧ m ≤ n + 6
theorem ln__law_constant (s : Unit) : [D.kln].length = 1 := rfl
theorem nm__law_constant (s : Unit) : [D.kln].all D.nm = true := rfl
theorem sc__law_constant : FnScope ["bag", "way"] ["bag"] (defScope (top 76)) := ⟨rfl, rfl, rfl, by decide +kernel, rfl, by decide +kernel, by decide +kernel⟩
theorem ok__law_constant (F : FnP K "_law_constant" "_law_constant" (top 76) f fd) (S__law_pick : Std P w K mg base 1 "_law_pick" ["bag", "many"] (sp__law_pick K)) (g_str : mg "str" = none) : FnOk P w K mg base CX0 2 f fd ["bag"] (sp__law_constant K) := by
  refine F.ok sc__law_constant (sx_len ln__law_constant) (fun cdv A outer s H vs Q E hr h => ?_)
  have nd := sc__law_constant.nd
  refine ⟨_, PSs.nox (pss_cons (ps_set (i := 1) nd rfl (Or.inl rfl) (pe_std S__law_pick hr rfl (pa_cons (pv 0) (pa_cons (pe_int) (pa_nil)))))
 (pss_one (ps_ret (pe_callTy callSTR rfl g_str bt_str (pa_cons (pe_ix (ixK (K := K) rfl) (pe_lst (pa_cons (pe_op op_sub (pe_std S__law_pick hr rfl (pa_cons (pv 0) (pa_cons (pe_int) (pa_nil)))) (pe_int)) (pa_cons (pe_std S__law_pick hr rfl (pa_cons (pv 0) (pa_cons (pe_int) (pa_nil)))) (pa_cons (pe_std S__law_pick hr rfl (pa_cons (pv 0) (pa_cons (pe_op opPOW (pe_int) (pe_int)) (pa_nil)))) (pa_cons (pe_op op_sub (pe_int) (pe_std S__law_pick hr rfl (pa_cons (pv 0) (pa_cons (pe_op opPOW (pe_int) (pe_int)) (pa_nil))))) (pa_cons (pe_op opMUL (pe_op op_sub (pe_op opMUL (pe_int) (pe_std S__law_pick hr rfl (pa_cons (pv 0) (pa_cons (pe_int) (pa_nil))))) (pe_int)) (pe_op opPOW (pe_int) (pe_int))) (pa_nil))))))) (pv 1) (fun _ _ => rfl)) (pa_nil)))))), ?_⟩
  refine body_x nm__law_constant ?_ vs H Q E h
  clear h hr
  intro c n x hK hp
  (subst hK)
  try clear S__law_pick g_str F
  have hn : n < 2 ^ 99 := hp
  walk_at "WK"
  refine ⟨_, rfl, by decide, by decide, by omega, fun way w0 w1 => ?_⟩
  walk_at "WK"
  refine ⟨_, rfl, by decide, by decide, by omega, fun r1 a1 b1 => ?_⟩
  walk_at "WK"
  refine ⟨_, rfl, by decide, by decide, by omega, fun r2 a2 b2 => ?_⟩
  walk_at "WK"
  rw [p30E]
  refine ⟨_, rfl, by decide, by decide, by omega, fun r3 a3 b3 => ?_⟩
  walk_at "WK"
  rw [p30E]
  refine ⟨_, rfl, by decide, by decide, by omega, fun r4 a4 b4 => ?_⟩
  walk_at "WK"
  refine ⟨_, rfl, by decide, by decide, by omega, fun r5 a5 b5 => ?_⟩
  walk_at "WK"
  refine rw_mI (wide_mul (a := 2) (b := 3) (by decide) (by omega) (by decide) (by decide) (by decide)) ?_
  walk_at "WK"
  rw [p30E]
  refine rw_mI (wide_mul (a := 3) (b := 200) (by omega) (by decide +kernel) (by decide) (by decide) (by decide)) ?_
  walk_at "WK"
  obtain ⟨v, ev, hv⟩ := at5 (fun v => -(10 ^ 30) ≤ v ∧ v ≤ 10 ^ 30) (i := r1 - 4) (j := r2) (k := r3) (l := 0 - r4) (u := (2 * r5 - 1) * 10 ^ 30) (r := way) (by omega) (by omega) (by omega) (by omega) (by omega) w0 w1
  refine ⟨_, ev, ?_⟩
  clear ev
  walk_at "WK"
  refine cw_str (one_mk ⟨v, rfl, log2_lt (by omega), ?_⟩)
  rw [wc_tx]
  exact ⟨⟨v, rfl, hv⟩, by omega⟩
abbrev sp__law_number (K : PySem.W.Frag) : Sp := SpX (ι := Unit) K (fun _ => [.kln, .py (.int 1)]) (fun _ n => n < 2 ^ 99) fun _ n d m => (∃ k : Nat, d = .py (.str (txN k)) ∧ 2 ≤ k ∧ k ≤ 10 ^ 30) ∧ m ≤ n + 2
theorem ln__law_number (s : Unit) : [D.kln, .py (.int 1)].length = 2 := rfl
theorem nm__law_number (s : Unit) : [D.kln, .py (.int 1)].all D.nm = true := rfl
theorem sc__law_number : FnScope ["bag", "far"] ["bag", "far"] (defScope (top 77)) := ⟨rfl, rfl, rfl, by decide +kernel, rfl, by decide +kernel, by decide +kernel⟩
theorem ok__law_number (F : FnP K "_law_number" "_law_number" (top 77) f fd) (g_str : mg "str" = none) (S__law_pick : Std P w K mg base 1 "_law_pick" ["bag", "many"] (sp__law_pick K)) : FnOk P w K mg base CX0 2 f fd ["bag", "far"] (sp__law_number K) := by
  refine F.ok sc__law_number (sx_len ln__law_number) (fun cdv A outer s H vs Q E hr h => ?_)
  have nd := sc__law_number.nd
  refine ⟨_, PSs.nox (pss_one (ps_ret (pe_callTy callSTR rfl g_str bt_str (pa_cons (pe_op (addK (K := K) rfl) (pe_int) (pe_std S__law_pick hr rfl (pa_cons (pv 0) (pa_cons (pe_ix (ixK (K := K) rfl) (pe_lst (pa_cons (pe_int) (pa_cons (pe_int) (pa_cons (pe_int) (pa_cons (pe_int) (pa_cons (pe_op op_sub (pe_op opPOW (pe_int) (pe_int)) (pe_int)) (pa_nil))))))) (pe_std S__law_pick hr rfl (pa_cons (pv 0) (pa_cons (pe_op (addK (K := K) rfl) (pe_int) (pe_op opMUL (pe_int) (pv 1))) (pa_nil)))) (fun _ _ => rfl)) (pa_nil))))) (pa_nil))))), ?_⟩
  refine body_x nm__law_number ?_ vs H Q E h
  clear h hr
  intro c n x hK hp
  (subst hK)
  try clear g_str S__law_pick F
  have hn : n < 2 ^ 99 := hp
  walk_at "WK"
  rw [p30E]
  refine ⟨_, rfl, by decide, by decide, by omega, fun r1 a1 b1 => ?_⟩
  walk_at "WK"
  obtain ⟨v, ev, hv⟩ := at5 (fun v => 1 ≤ v ∧ v ≤ 10 ^ 30 - 1) (i := 2) (j := 3) (k := 9) (l := 60) (u := 10 ^ 30 - 1) (r := r1) (by decide) (by decide) (by decide) (by decide) (by decide) a1 (by omega)
  refine ⟨_, ev, ?_⟩
  clear ev
  walk_at "WK"
  refine ⟨_, rfl, by omega, by omega, by omega, fun r2 a2 b2 => ?_⟩
  walk_at "WK"
  obtain ⟨k, hk⟩ := Int.eq_ofNat_of_zero_le (show 0 ≤ 2 + r2 by omega)
  refine cw_str (one_mk ⟨2 + r2, rfl, log2_lt (by omega), ?_⟩)
  rw [hk]
  exact ⟨⟨k, rfl, by omega, by omega⟩, by omega⟩
abbrev sp__law_word (K : PySem.W.Frag) : Sp := SpX (ι := Int) K (fun h => [.kln, .py (.int h)]) (fun h n => 1 ≤ h ∧ h ≤ 90 ∧ n < 2 ^ 98) fun _ n d m => (∃ v, d = .py (.str (Wd.tx v)) ∧ okWd v) ∧ m ≤ n + 7
theorem ln__law_word (h : Int) : [D.kln, .py (.int h)].length = 2 := rfl
theorem nm__law_word (h : Int) : [D.kln, .py (.int h)].all D.nm = true := rfl
theorem sc__law_word : FnScope ["bag", "high", "way"] ["bag", "high"] (defScope (top 78)) := ⟨rfl, rfl, rfl, by decide +kernel, rfl, by decide +kernel, by decide +kernel⟩
theorem ok__law_word (F : FnP K "_law_word" "_law_word" (top 78) f fd) (S__law_pick : Std P w K mg base 1 "_law_pick" ["bag", "many"] (sp__law_pick K)) (S__law_constant : Std P w K mg base 2 "_law_constant" ["bag"] (sp__law_constant K)) (g_str : mg "str" = none) (g_max : mg "max" = none) : FnOk P w K mg base CX0 3 f fd ["bag", "high"] (sp__law_word K) := by
  refine F.ok sc__law_word (sx_len ln__law_word) (fun cdv A outer s H vs Q E hr h => ?_)
  have nd := sc__law_word.nd
  refine ⟨_, PSs.nox (pss_cons (ps_set (i := 2) nd rfl (Or.inl rfl) (pe_std S__law_pick (hr.mono (by decide)) rfl (pa_cons (pv 0) (pa_cons (pe_int) (pa_nil)))))
 (pss_cons (ps_if (pt_cmpR op_lt (pv 2) (pe_int) (nomark _)) (pss_one (ps_ret (pe_ifExp (pt_cmpR (eqK (K := K) rfl (room64 hr)) (pv 2) (pe_int) (nomark _)) (pe_str) (pe_std S__law_constant hr rfl (pa_cons (pv 0) (pa_nil)))))) (pss_nil))
 (pss_cons (ps_if (pt_cmpR op_lt (pv 2) (pe_int) (nomark _)) (pss_one (ps_ret (pe_op (addK (K := K) rfl) (pe_str) (pe_callTy callSTR rfl g_str bt_str (pa_cons (pe_std S__law_pick (hr.mono (by decide)) rfl (pa_cons (pv 0) (pa_cons (pv 1) (pa_nil)))) (pa_nil)))))) (pss_nil))
 (pss_one (ps_ret (pe_op (addK (K := K) rfl) (pe_str) (pe_callTy callSTR rfl g_str bt_str (pa_cons (pe_op (addK (K := K) rfl) (pe_int) (pe_std S__law_pick (hr.mono (by decide)) rfl (pa_cons (pv 0) (pa_cons (pe_callB (callMAX2 rfl) rfl g_max bt_max (pa_cons (pe_int) (pa_cons (pe_op op_sub (pv 1) (pe_int)) (pa_nil)))) (pa_nil))))) (pa_nil))))))))), ?_⟩
  refine body_x nm__law_word ?_ vs H Q E h
  clear h hr
  intro c n x hK hp
  (subst hK)
  try clear S__law_pick S__law_constant g_str g_max F
  obtain ⟨h1, h2, hn⟩ : 1 ≤ x ∧ x ≤ 90 ∧ n < 2 ^ 98 := hp
  walk_at "WK"
  refine ⟨_, rfl, by decide, by decide, by omega, fun way w0 w1 => ?_⟩
  walk_at "WK"
  refine ⟨fun q1 => ?_, fun q1 => ?_⟩
  · walk_at "WK"
    refine ⟨fun q2 => ?_, fun q2 => ?_⟩
    · walk_at "WK"
      exact ⟨⟨.d, by rw [txt_d]; rfl, True.intro⟩, by omega⟩
    · walk_at "WK"
      refine ⟨(), rfl, by (try dsimp only); omega, ?_⟩
      rintro d m ⟨⟨v, rfl, hv⟩, hm⟩
      refine ⟨rfl, ⟨_, rfl, hv⟩, by (try dsimp only at hm); omega⟩
  walk_at "WK"
  refine ⟨fun q2 => ?_, fun q2 => ?_⟩
  · walk_at "WK"
    refine ⟨_, rfl, by omega, by omega, by omega, fun r a b => ?_⟩
    walk_at "WK"
    obtain ⟨k, rfl⟩ := Int.eq_ofNat_of_zero_le a
    refine cw_str (one_mk ⟨(k : Int), rfl, log2_lt (by omega), ?_⟩)
    refine rw_addS ?_
    have tl := tx_len (v := (k : Int)) (by omega)
    refine ⟨Nat.le_trans (Nat.add_le_add (show (Str.ofString "p").length ≤ 1 by decide +kernel) tl) (by rw [sizeLine_eq]; decide), ?_⟩
    rw [wp_txI]
    exact ⟨⟨_, rfl, by show k ≤ 98; omega⟩, by omega⟩
  walk_at "WK"
  refine ⟨_, rfl, by split <;> omega, by split <;> omega, by omega, fun r a b => ?_⟩
  walk_at "WK"
  obtain ⟨k, hk⟩ := Int.eq_ofNat_of_zero_le (show 0 ≤ 1 + r by omega)
  have hk2 : k ≤ 90 ∧ 1 ≤ k := by
    revert b
    split <;> omega
  refine cw_str (one_mk ⟨1 + r, rfl, log2_lt (by omega), ?_⟩)
  rw [hk]
  refine rw_addS ?_
  have tl := tx_len (v := (k : Int)) (by omega)
  refine ⟨Nat.le_trans (Nat.add_le_add (show (Str.ofString "r").length ≤ 1 by decide +kernel) tl) (by rw [sizeLine_eq]; decide), ?_⟩
  rw [wr_txI]
  exact ⟨⟨_, rfl, by show 1 ≤ k ∧ k ≤ 99; omega⟩, by omega⟩
end
end Wx

/-! ### part R3 -/
set_option Elab.async false
set_option linter.all false
set_option maxRecDepth 100000
set_option maxHeartbeats 1000000
set_option autoImplicit false
namespace Wx
open PySem L2
def m3 (m : M3) : PyData := .tuple [.int m.1, .int m.2.1, .int m.2.2]
def frs3 (fs : List M3) : List PyData := fs.reverse.map m3
theorem frs3_cons (m : M3) (r : List M3) : frs3 (m :: r) = frs3 r ++ [m3 m] := by unfold frs3; rw [List.reverse_cons, List.map_append]; rfl
theorem frs3_len (fs : List M3) : (frs3 fs).length = fs.length := by unfold frs3; rw [List.length_map, List.length_reverse]
theorem at_last3 (m : M3) (r : List M3) : atI (frs3 (m :: r)) (-1) = some (m3 m) := by rw [frs3_cons]; exact atI_last _ _
theorem mem_o3 (t : Tk) (h : match t with | .bo => False | .bi => False | _ => True) : Mem (.str t.tx) [.str (Str.ofString "("), .str (Str.ofString "{"), .str (Str.ofString "|")] = decide (t = .op) := by
  have key : ∀ a : Nat, (PyData.eqv (.str (sg [a])) (.str t.tx)) = decide (t.sg = [a]) := fun a => by
    rw [eqv_strD, decide_eq_decide]
    exact ⟨fun z => (sg_inj z).symm, fun z => by unfold Tk.tx; rw [z]⟩
  rw [txt_o, txt_b, txt_i]
  unfold Mem
  simp only [List.any_cons, List.any_nil, key, Bool.or_false]
  obtain ⟨c, r, e, k⟩ := tk_cons t
  rw [e]
  cases t with
  | op => obtain ⟨rfl, rfl⟩ := k; rfl
  | bo => exact h.elim
  | bi => exact h.elim
  | bc => obtain ⟨rfl, rfl⟩ := k; rfl
  | w v =>
    dsimp only at k
    rw [decide_eq_false (fun z => by have := (List.cons.inj z).1; omega), decide_eq_false (fun z => by have := (List.cons.inj z).1; omega), decide_eq_false (fun z => by have := (List.cons.inj z).1; omega), decide_eq_false (fun z => nomatch z)]
    rfl
  | cl n =>
    dsimp only at k
    rw [decide_eq_false (fun z => by have := (List.cons.inj z).1; omega), decide_eq_false (fun z => by have := (List.cons.inj z).1; omega), decide_eq_false (fun z => by have := (List.cons.inj z).1; omega), decide_eq_false (fun z => nomatch z)]
    rfl
theorem pr_in2 (ch : Nat) : decide (ch ∈ (Str.ofString "pr").cps.toList) = decide (ch = 112 ∨ ch = 114) := by
  have e : (Str.ofString "pr").cps.toList = [112, 114] := by decide +kernel
  rw [e]
  simp

section
variable {P : Program} {w : World} {K : PySem.W.Frag} {mg : Str → Option Value} {base : Heap} {f C : Addr} {fd : FuncData}
abbrev sp__law_measured (K : PySem.W.Frag) : Sp := SpX (ι := M3 × M3) K (fun x => [.py (m3 x.1), .py (m3 x.2)]) (fun _ _ => True) fun x n d m => d = .py (m3 (joinM x.1 x.2)) ∧ m = n
theorem ln__law_measured (x : M3 × M3) : [D.py (m3 x.1), .py (m3 x.2)].length = 2 := rfl
theorem nm__law_measured (x : M3 × M3) : [D.py (m3 x.1), .py (m3 x.2)].all D.nm = true := rfl
theorem sc__law_measured : FnScope ["measure", "part", "need", "rise", "growth"] ["measure", "part"] (defScope (top 79)) := ⟨rfl, rfl, rfl, by decide +kernel, rfl, by decide +kernel, by decide +kernel⟩
theorem ok__law_measured (F : FnP K "_law_measured" "_law_measured" (top 79) f fd) (g_max : mg "max" = none) : FnOk P w K mg base CX0 1 f fd ["measure", "part"] (sp__law_measured K) := by
  refine F.ok sc__law_measured (sx_len ln__law_measured) (fun cdv A outer s H vs Q E hr h => ?_)
  have nd := sc__law_measured.nd
  refine ⟨_, PSs.nox (pss_cons (ps_asg (pv 0) (gtupK (K := K) (n := 3) rfl rfl (pgs_cons (pg_name (i := 2) nd rfl (Or.inl rfl)) (pgs_cons (pg_name (i := 3) nd rfl (Or.inl rfl)) (pgs_cons (pg_name (i := 4) nd rfl (Or.inl rfl)) (pgs_nil))))))
 (pss_one (ps_ret (pe_tup (pa_cons (pe_callB (callMAX2 rfl) rfl g_max bt_max (pa_cons (pv 2) (pa_cons (pe_op op_sub (pe_ix (ixK (K := K) rfl) (pv 1) (pe_int) (fun _ _ => rfl)) (pv 4)) (pa_nil)))) (pa_cons (pe_callB (callMAX2 rfl) rfl g_max bt_max (pa_cons (pv 3) (pa_cons (pe_op (addK (K := K) rfl) (pv 4) (pe_ix (ixK (K := K) rfl) (pv 1) (pe_int) (fun _ _ => rfl))) (pa_nil)))) (pa_cons (pe_op (addK (K := K) rfl) (pv 4) (pe_ix (ixK (K := K) rfl) (pv 1) (pe_int) (fun _ _ => rfl))) (pa_nil)))))))), ?_⟩
  refine body_x nm__law_measured ?_ vs H Q E h
  clear h hr
  intro c n x hK hp
  (subst hK)
  try clear g_max F
  obtain ⟨⟨a, b, g⟩, p, q, r⟩ := x
  dsimp only
  unfold m3
  refine ws_seq (ws_asg [2, 3, 4] ?_)
  walk_at "WK"
  refine wg_trip rfl ⟨_, _, _, rfl, wg_name ⟨rfl, wg_name ⟨rfl, wg_name ⟨rfl, ?_⟩ (Nat.le_of_ble_eq_true rfl) (by decide)⟩ (Nat.le_of_ble_eq_true rfl) (by decide)⟩ (Nat.le_of_ble_eq_true rfl) (by decide)⟩
  walk_at "WK"
  refine ⟨_, rfl, ?_⟩
  walk_at "WK"
  refine ⟨_, rfl, ?_⟩
  walk_at "WK"
  refine ⟨_, rfl, ?_⟩
  walk_at "WK"
  rfl
abbrev sp__law_measure (K : PySem.W.Frag) : Sp := SpX (ι := List Tk × M3) K (fun x => [.py (.list (ttx x.1))]) (fun x _ => x.1.length ≤ 100000 ∧ (∀ t ∈ x.1, okTk t) ∧ MR x.1 [(0, 0, 0)] x.2) fun x n d m => d = .py (m3 x.2) ∧ m = n
theorem ln__law_measure (x : List Tk × M3) : [D.py (.list (ttx x.1))].length = 1 := rfl
theorem nm__law_measure (x : List Tk × M3) : [D.py (.list (ttx x.1))].all D.nm = true := rfl
theorem sc__law_measure : FnScope ["words", "frames", "word", "part", "other", "more", "need", "rise", "growth"] ["words"] (defScope (top 80)) := ⟨rfl, rfl, rfl, by decide +kernel, rfl, by decide +kernel, by decide +kernel⟩
theorem ok__law_measure (F : FnP K "_law_measure" "_law_measure" (top 80) f fd) (S__law_measured : Std P w K mg base 1 "_law_measured" ["measure", "part"] (sp__law_measured K)) (g_max : mg "max" = none) (g_int : mg "int" = none) : FnOk P w K mg base CX0 2 f fd ["words"] (sp__law_measure K) := by
  refine F.ok sc__law_measure (sx_len ln__law_measure) (fun cdv A outer s H vs Q E hr h => ?_)
  have nd := sc__law_measure.nd
  refine ⟨_, PSs.nox (pss_cons (ps_setO (i := 1) nd rfl (Or.inl rfl) (pe_lst (pa_cons (pe_tup (pa_cons (pe_int) (pa_cons (pe_int) (pa_cons (pe_int) (pa_nil))))) (pa_nil))))
 (pss_cons (ps_for PassesOwn.never rfl (ilistK (K := K) rfl (pv 0)) (pg_name (i := 2) nd rfl (Or.inl rfl)) (pss_cons (ps_set (i := 3) nd rfl (Or.inl rfl) (pe_non))
 (pss_cons (ps_if (pt_cmpR (inK (K := K) rfl (room65 hr)) (pv 2) (pe_lst (pa_cons (pe_str) (pa_cons (pe_str) (pa_cons (pe_str) (pa_nil))))) (by rfl)) (pss_one (ps_expr (pe_bm PySem.F.plainAttrs_list PySem.F.slot_list_append PySem.F.type_list_append mt_append (pv 1) (pa_cons (pe_tup (pa_cons (pe_int) (pa_cons (pe_int) (pa_cons (pe_int) (pa_nil))))) (pa_nil))))) (pss_one (ps_if (pt_cmpR (eqK (K := K) rfl (room64 hr)) (pv 2) (pe_str) (nomark _)) (pss_cons (ps_never)
 (pss_one (ps_never))) (pss_one (ps_if (pt_cmpR (eqK (K := K) rfl (room64 hr)) (pe_ix (ixK (K := K) rfl) (pv 2) (pe_int) (fun _ _ => rfl)) (pe_str) (nomark _)) (pss_cons (ps_asg (pe_bm0 PySem.F.plainAttrs_list PySem.F.slot_list_pop PySem.F.type_list_pop mt_pop (pv 1)) (gtupK (K := K) (n := 3) rfl rfl (pgs_cons (pg_name (i := 6) nd rfl (Or.inl rfl)) (pgs_cons (pg_name (i := 7) nd rfl (Or.inl rfl)) (pgs_cons (pg_name (i := 8) nd rfl (Or.inl rfl)) (pgs_nil))))))
 (pss_cons (ps_set (i := 5) nd rfl (Or.inl rfl) (pe_op op_sub (pe_callTy callINTS rfl g_int bt_int (pa_cons (pe_slice (slK (K := K) rfl) (pv 2) (po_some (pe_int)) po_none) (pa_nil))) (pe_int)))
 (pss_one (ps_set (i := 3) nd rfl (Or.inl rfl) (pe_tup (pa_cons (pe_op (addK (K := K) rfl) (pv 6) (pe_op opMUL (pv 5) (pe_callB (callMAX2 rfl) rfl g_max bt_max (pa_cons (pe_int) (pa_cons (pe_op op_sub (pe_int) (pv 8)) (pa_nil)))))) (pa_cons (pe_op (addK (K := K) rfl) (pv 7) (pe_op opMUL (pv 5) (pe_callB (callMAX2 rfl) rfl g_max bt_max (pa_cons (pe_int) (pa_cons (pv 8) (pa_nil)))))) (pa_cons (pe_op (addK (K := K) rfl) (pv 8) (pe_op opMUL (pv 5) (pv 8))) (pa_nil))))))))) (pss_one (ps_if (pt_cmpR opInSg (pe_ix (ixK (K := K) rfl) (pv 2) (pe_int) (fun _ _ => rfl)) (pe_str) (by rfl)) (pss_one (ps_set (i := 3) nd rfl (Or.inl rfl) (pe_tup (pa_cons (pe_op (addK (K := K) rfl) (pe_callTy callINTS rfl g_int bt_int (pa_cons (pe_slice (slK (K := K) rfl) (pv 2) (po_some (pe_int)) po_none) (pa_nil))) (pe_int)) (pa_cons (pe_callTy callINT1 rfl g_int bt_int (pa_cons (pe_cmpR (eqK (K := K) rfl (room64 hr)) (pe_ix (ixK (K := K) rfl) (pv 2) (pe_int) (fun _ _ => rfl)) (pe_str) (nomark _)) (pa_nil))) (pa_cons (pe_callTy callINT1 rfl g_int bt_int (pa_cons (pe_cmpR (eqK (K := K) rfl (room64 hr)) (pe_ix (ixK (K := K) rfl) (pv 2) (pe_int) (fun _ _ => rfl)) (pe_str) (nomark _)) (pa_nil))) (pa_nil))))))) (pss_one (ps_set (i := 3) nd rfl (Or.inl rfl) (pe_ifExp (pt_cmpR (eqK (K := K) rfl (room64 hr)) (pv 2) (pe_str) (nomark _)) (pe_tup (pa_cons (pe_int) (pa_cons (pe_int) (pa_cons (pe_un un_neg (pe_int)) (pa_nil))))) (pe_tup (pa_cons (pe_int) (pa_cons (pe_int) (pa_cons (pe_int) (pa_nil)))))))))))))))
 (pss_one (ps_if (pt_cmpR opNTN (pv 3) (pe_non) (nomark _)) (pss_one (ps_asg (pe_std S__law_measured hr rfl (pa_cons (pe_ix (ixK (K := K) rfl) (pv 1) (pe_un un_neg (pe_int)) (fun _ _ => rfl)) (pa_cons (pv 3) (pa_nil)))) (pg_sub (pv 1) (pe_un un_neg (pe_int)) set_list))) (pss_nil))))))
 (pss_one (ps_ret (pe_ix (ixK (K := K) rfl) (pv 1) (pe_int) (fun _ _ => rfl)))))), ?_⟩
  refine body_x nm__law_measure ?_ vs H Q E h
  clear h hr
  intro c n x hK hp
  (subst hK)
  try clear S__law_measured g_max g_int F
  obtain ⟨ts, z⟩ := x
  obtain ⟨h1, h2, h0⟩ : ts.length ≤ 100000 ∧ (∀ t ∈ ts, okTk t) ∧ MR ts [(0, 0, 0)] z := hp
  dsimp only
  walk_at "WK"
  refine ws_for [2] (wi_list rfl ?_)
  walk_at "WK"
  refine ⟨fun i e1 => ∃ fs s2 s3 s4 s5 s6 s7 s8, e1 = ⟨[.val (.py (.list (ttx ts))), .own (.lst (frs3 fs)), s2, s3, s4, s5, s6, s7, s8], n⟩ ∧ MR (ts.drop i) fs z ∧ fs.length ≤ i + 1, ⟨[(0, 0, 0)], .emp, .emp, .emp, .emp, .emp, .emp, .emp, rfl, h0, Nat.le_refl _⟩, ?_, ?_⟩
  · rintro i d e1 hd ⟨fs, s2, s3, s4, s5, s6, s7, s8, rfl, hr, hlen⟩
    obtain ⟨t, ht, htm, rfl⟩ := ttx_item hd
    have hi : i < ts.length := (List.getElem?_eq_some_iff.mp ht).1
    have ed : ts.drop i = t :: ts.drop (i + 1) := by
      rw [List.drop_eq_getElem_cons hi]
      congr 1
      exact (List.getElem?_eq_some_iff.mp ht).2
    rw [ed] at hr
    have okt := h2 t htm
    have ht33 := tk_len okt
    have l3 : t.tx.length ≤ sizeLine := by unfold Tk.tx; rw [sg_len]; exact Nat.le_trans ht33.2 (by rw [sizeLine_eq]; decide)
    refine wg_name ⟨rfl, ?_⟩ (Nat.le_of_ble_eq_true rfl) (by decide)
    refine ws_seq ?_
    walk_at "WJ"
    refine ws_seq ?_
    refine ws_mid (fun e1 => ∃ fs2 pp s4 s5 s6 s7 s8, e1 = ⟨[.val (.py (.list (ttx ts))), .own (.lst (frs3 fs2)), .val (.py (.str t.tx)), .val (.py pp), s4, s5, s6, s7, s8], n⟩ ∧ fs2.length ≤ i + 2 ∧ ((pp = .none ∧ MR (ts.drop (i + 1)) fs2 z) ∨ ∃ m r x, fs2 = m :: r ∧ pp = m3 x ∧ MR (ts.drop (i + 1)) (joinM m x :: r) z)) ?_ ?_
    · refine ws_if ?_
      walk_at "WK"
      refine ⟨shp_tk t, by decide +kernel, ?_⟩
      cases hr with
      | @op _ m _ r hr =>
        rw [mem_o3 .op True.intro]
        refine ⟨fun _ => ?_, fun z => (nomatch z)⟩
        walk_at "WK"
        refine ⟨_, rfl, Nat.lt_of_le_of_lt (m := 200000) (by rw [frs3_len]; omega) (by rw [sizeLine_eq]; decide), ?_⟩
        refine ⟨(0, 0, 0) :: m :: r, .none, s4, s5, s6, s7, s8, ?_, by simp only [List.length_cons] at hlen ⊢; omega, .inl ⟨rfl, hr⟩⟩
        rw [frs3_cons (0, 0, 0)]
        rfl
      | @w v _ m _ r hw hr =>
        rw [mem_o3 (.w v) True.intro]
        refine ⟨fun z => (nomatch z), fun _ => ?_⟩
        obtain ⟨ch, r1, ew, c1, c2⟩ := wd_cons0 (w := v)
        have es : (Tk.w v).sg = ch :: r1 := ew
        have fin : ∀ pp : PyData, pp = m3 (mW v) → ∃ fs2 pp1 t4 t5 t6 t7 t8, (⟨[.val (.py (.list (ttx ts))), .own (.lst (frs3 (m :: r))), .val (.py (.str (Tk.w v).tx)), .val (.py pp), s4, s5, s6, s7, s8], n⟩ : En) = ⟨[.val (.py (.list (ttx ts))), .own (.lst (frs3 fs2)), .val (.py (.str (Tk.w v).tx)), .val (.py pp1), t4, t5, t6, t7, t8], n⟩ ∧ fs2.length ≤ i + 2 ∧ ((pp1 = .none ∧ MR (ts.drop (i + 1)) fs2 z) ∨ ∃ m r x, fs2 = m :: r ∧ pp1 = m3 x ∧ MR (ts.drop (i + 1)) (joinM m x :: r) z) :=
          fun pp hpp => ⟨m :: r, pp, s4, s5, s6, s7, s8, rfl, by omega, .inr ⟨m, r, mW v, rfl, hpp, hr⟩⟩
        walk_at "WK"
        rw [txt_f]
        refine ⟨shp_tk _, shp_sg (by simp), ?_⟩
        rw [eqv_tk, es, decide_eq_false (fun z => by have := (List.cons.inj z).1; omega)]
        walk_at "WK"
        refine ⟨fun z => (nomatch z), fun _ => ?_⟩
        walk_at "WK"
        refine ⟨l3, ch, at0 es, ?_⟩
        walk_at "WK"
        rw [txt_e]
        refine ⟨shp_sg (l := [ch]) (by simp; omega), shp_sg (by simp), ?_⟩
        rw [show (⟨#[ch]⟩ : Str) = sg [ch] from rfl, eqv_sg, decide_eq_false (fun z => by have := (List.cons.inj z).1; omega)]
        walk_at "WK"
        refine ⟨fun z => (nomatch z), fun _ => ?_⟩
        walk_at "WK"
        refine ⟨l3, ch, at0 es, ?_⟩
        walk_at "WK"
        refine rw_inSg ?_
        rw [pr_in2]
        cases v with
        | p v =>
          have hv : v ≤ 98 := hw
          obtain ⟨rfl, rfl⟩ := List.cons.inj (show 112 :: TL.numL v = ch :: r1 from ew)
          rw [decide_eq_true (by omega)]
          walk_at "WK"
          refine ⟨fun _ => ?_, fun z => (nomatch z)⟩
          walk_at "WK"
          refine ⟨l3, ?_⟩
          rw [cut_tail _ (show (Tk.w (.p v)).tx.cps.toList = 112 :: TL.numL v from rfl), ← txN_sg]
          walk_at "WK"
          refine cw_intS (one_mk ⟨_, _, rfl, txN_int (show v < 10 ^ 200 by omega), Nat.le_trans (txN_le (k := 31) (by decide) (show v < 10 ^ 31 by omega)) (by decide), ?_⟩)
          walk_at "WK"
          refine ⟨l3, 112, at0 es, ?_⟩
          walk_at "WK"
          refine ⟨l3, 112, at0 es, ?_⟩
          walk_at "WK"
          exact fin _ rfl
        | r v =>
          have hv : 1 ≤ v ∧ v ≤ 99 := hw
          obtain ⟨rfl, rfl⟩ := List.cons.inj (show 114 :: TL.numL v = ch :: r1 from ew)
          rw [decide_eq_true (by omega)]
          walk_at "WK"
          refine ⟨fun _ => ?_, fun z => (nomatch z)⟩
          walk_at "WK"
          refine ⟨l3, ?_⟩
          rw [cut_tail _ (show (Tk.w (.r v)).tx.cps.toList = 114 :: TL.numL v from rfl), ← txN_sg]
          walk_at "WK"
          refine cw_intS (one_mk ⟨_, _, rfl, txN_int (show v < 10 ^ 200 by omega), Nat.le_trans (txN_le (k := 31) (by decide) (show v < 10 ^ 31 by omega)) (by decide), ?_⟩)
          walk_at "WK"
          refine ⟨l3, 114, at0 es, ?_⟩
          walk_at "WK"
          refine ⟨l3, 114, at0 es, ?_⟩
          walk_at "WK"
          exact fin _ rfl
        | d =>
          obtain ⟨rfl, rfl⟩ := List.cons.inj (show 100 :: [] = ch :: r1 from ew)
          rw [decide_eq_false (by omega)]
          walk_at "WK"
          refine ⟨fun z => (nomatch z), fun _ => ?_⟩
          walk_at "WK"
          refine ⟨fun _ => ?_, fun z => absurd z (by decide +kernel)⟩
          walk_at "WK"
          exact fin _ rfl
        | c v =>
          have hv : -(10 ^ 30) ≤ v ∧ v ≤ 10 ^ 30 := hw
          have hch : ch ≤ 57 := by
            obtain ⟨ch', r, e, h1, h2⟩ : ∃ ch r, (Wd.c v).sg = ch :: r ∧ 45 ≤ ch ∧ ch ≤ 57 := by
              rw [wd_c]
              split
              · exact ⟨45, _, rfl, by decide, by decide⟩
              · obtain ⟨ch, r, e1, h1, h2, _⟩ := num_head v.natAbs
                exact ⟨ch, r, e1, by omega, h2⟩
            rw [ew] at e
            rw [(List.cons.inj e).1]
            exact h2
          rw [decide_eq_false (by omega)]
          walk_at "WK"
          refine ⟨fun z => (nomatch z), fun _ => ?_⟩
          walk_at "WK"
          rw [txt_d]
          refine ⟨shp_tk _, shp_sg (by simp), ?_⟩
          rw [eqv_tk, es, decide_eq_false (fun z => by have := (List.cons.inj z).1; omega)]
          walk_at "WK"
          refine ⟨fun z => (nomatch z), fun _ => ?_⟩
          walk_at "WK"
          exact fin _ rfl
      | @cl k _ m m1 _ r k1 k2 hg hr =>
        rw [mem_o3 (.cl k) True.intro]
        refine ⟨fun z => (nomatch z), fun _ => ?_⟩
        obtain ⟨a, b, g⟩ := m
        have es : (Tk.cl k).sg = 41 :: TL.numL k := rfl
        have hg' : -100 ≤ g ∧ g ≤ 100 := hg
        walk_at "WK"
        rw [txt_f]
        refine ⟨shp_tk _, shp_sg (by simp), ?_⟩
        rw [eqv_tk, es, decide_eq_false (fun z => by have := (List.cons.inj z).1; omega)]
        walk_at "WK"
        refine ⟨fun z => (nomatch z), fun _ => ?_⟩
        walk_at "WK"
        refine ⟨l3, 41, at0 es, ?_⟩
        walk_at "WK"
        refine ⟨fun _ => ?_, fun z => absurd z (by decide)⟩
        refine ws_seq ?_
        rw [frs3_cons]
        refine ws_popG [6, 7, 8] rfl rfl ?_
        refine wg_trip rfl ⟨_, _, _, rfl, wg_name ⟨rfl, wg_name ⟨rfl, wg_name ⟨rfl, ?_⟩ (Nat.le_of_ble_eq_true rfl) (by decide)⟩ (Nat.le_of_ble_eq_true rfl) (by decide)⟩ (Nat.le_of_ble_eq_true rfl) (by decide)⟩
        walk_at "WK"
        refine ⟨l3, ?_⟩
        rw [cut_tail _ (show (Tk.cl k).tx.cps.toList = 41 :: TL.numL k from rfl), ← txN_sg]
        walk_at "WK"
        refine cw_intS (one_mk ⟨_, _, rfl, txN_int (show k < 10 ^ 200 by omega), Nat.le_trans (txN_le (k := 31) (by decide) (show k < 10 ^ 31 by omega)) (by decide), ?_⟩)
        walk_at "WK"
        refine rw_mI (wide_mul (a := 120) (b := 10) (by omega) (by dsimp only; split <;> omega) (by decide) (by decide) (by decide)) ?_
        walk_at "WK"
        refine rw_mI (wide_mul (a := 120) (b := 10) (by omega) (by dsimp only; split <;> omega) (by decide) (by decide) (by decide)) ?_
        walk_at "WK"
        refine rw_mI (wide_mul (a := 120) (b := 10) (by omega) (by dsimp only; omega) (by decide) (by decide) (by decide)) ?_
        walk_at "WK"
        refine ⟨m1 :: r, _, _, _, _, _, _, rfl, by simp only [List.length_cons] at hlen ⊢; omega, .inr ⟨m1, r, repM (a, b, g) k, rfl, ?_, hr⟩⟩
        have e3 : g + ((k : Int) - 1) * g = k * g := by rw [Int.sub_mul, Int.one_mul]; generalize (k : Int) * g = y; omega
        unfold m3 repM mxI
        dsimp only
        rw [e3, Int.zero_sub]
    · rintro e1 ⟨fs2, pp, s4, s5, s6, s7, s8, rfl, hl2, ⟨rfl, hm⟩ | ⟨m, r, x, rfl, rfl, hm⟩⟩
      · walk_at "WK"
        refine ⟨fun z => (nomatch z), fun _ => ?_⟩
        walk_at "WK"
        exact ⟨fs2, _, _, _, _, _, _, _, rfl, hm, by omega⟩
      · walk_at "WK"
        refine ⟨fun _ => ?_, fun z => (nomatch z)⟩
        rw [frs3_cons]
        refine ws_setLast rfl ?_
        walk_at "WK"
        refine ⟨_, by rw [← frs3_cons]; exact at_last3 m r, ?_⟩
        walk_at "WK"
        refine ⟨(m, x), rfl, trivial, ?_⟩
        rintro d m' ⟨rfl, rfl⟩
        refine ⟨rfl, _, rfl, ?_⟩
        walk_at "WK"
        exact ⟨joinM m x :: r, .val (.py (.str t.tx)), .val (.py (m3 x)), s4, s5, s6, s7, s8, by rw [frs3_cons]; rfl, hm, by simp only [List.length_cons] at *; omega⟩
  · rintro e1 ⟨fs, s2, s3, s4, s5, s6, s7, s8, rfl, hr, _⟩
    rw [List.length_map, ttx_len, List.drop_of_length_le (Nat.le_refl _)] at hr
    cases hr
    walk_at "WK"
    exact ⟨_, rfl, rfl, rfl⟩
end
end Wx

/-! ### part R4 -/
set_option Elab.async false
set_option linter.all false
set_option maxRecDepth 100000
set_option maxHeartbeats 1000000
set_option autoImplicit false
namespace Wx
open PySem L2
theorem ttx_app (a b : List Tk) : ttx (a ++ b) = ttx a ++ ttx b := List.map_append
theorem ttx_rep (k : Nat) : (List.replicate k [PyData.str (Str.ofString "d")]).flatten = ttx (toks (dows (List.replicate k .d))) := by
  rw [dows_toks]
  unfold ttx
  induction k with
  | zero => rfl
  | succ k ih =>
    rw [List.replicate_succ, List.flatten_cons, ih, List.replicate_succ, List.map_cons, List.map_cons]
    rw [txt_d]
    rfl

section
variable {P : Program} {w : World} {K : PySem.W.Frag} {mg : Str → Option Value} {base : Heap} {f C : Addr} {fd : FuncData}
abbrev sp__law_levelled (K : PySem.W.Frag) : Sp := SpX (ι := Ns) K (fun ns => [.kln, .py (.list (ttx (toks ns))), .py (.int 0)]) (fun ns n => wf0 ns ∧ tkN ns ≤ 20000 ∧ (gN ns).natAbs ≤ 100000 ∧ n < 2 ^ 97) fun ns n d m => (∃ ns', d = .py (.list (ttx (toks ns'))) ∧ wf0 ns' ∧ gN ns' = 0 ∧ dpN ns' = dpN ns ∧ tkN ns' = tkN ns + (gN ns).natAbs ∧ (ns ≠ .nil → ns' ≠ .nil)) ∧ m ≤ n + 6 * (gN ns).natAbs
theorem ln__law_levelled (ns : Ns) : [D.kln, .py (.list (ttx (toks ns))), .py (.int 0)].length = 3 := rfl
theorem nm__law_levelled (ns : Ns) : [D.kln, .py (.list (ttx (toks ns))), .py (.int 0)].all D.nm = true := rfl
theorem sc__law_levelled : FnScope ["bag", "words", "growth", "more", "k"] ["bag", "words", "growth"] (defScope (top 81)) := ⟨rfl, rfl, rfl, by decide +kernel, rfl, by decide +kernel, by decide +kernel⟩
theorem ok__law_levelled (F : FnP K "_law_levelled" "_law_levelled" (top 81) f fd) (S__law_measure : Std P w K mg base 2 "_law_measure" ["words"] (sp__law_measure K)) (S__law_constant : Std P w K mg base 2 "_law_constant" ["bag"] (sp__law_constant K)) (g_range : mg "range" = none) : FnOk P w K mg base CX0 3 f fd ["bag", "words", "growth"] (sp__law_levelled K) := by
  refine F.ok sc__law_levelled (sx_len ln__law_levelled) (fun cdv A outer s H vs Q E hr h => ?_)
  have nd := sc__law_levelled.nd
  refine ⟨_, PSs.nox (pss_cons (ps_set (i := 3) nd rfl (Or.inl rfl) (pe_op op_sub (pv 2) (pe_ix (ixK (K := K) rfl) (pe_std S__law_measure hr rfl (pa_cons (pv 1) (pa_nil))) (pe_int) (fun _ _ => rfl))))
 (pss_one (ps_ret (pe_op (addK (K := K) rfl) (pe_op (addK (K := K) rfl) (pv 1) (pe_op opMUL (pe_lst (pa_cons (pe_str) (pa_nil))) (pe_op op_sub (pe_int) (pv 3)))) (pe_lc (own := [("k", 4)]) rfl nd (pi_range1 rfl g_range (pa_cons (pv 3) (pa_nil))) (blkOk_by (N := ["bag", "words", "growth", "more", "k"]) (sc := (defScope (top 81))) (by decide +kernel)) (fun _ _ _ _ _ => pg_name (i := 4) nd rfl (Or.inl rfl) (.inr rfl)) (fun _ _ _ _ _ => pts_nil) (fun _ _ _ _ _ => pe_std S__law_constant hr rfl (pa_cons (pv 0) (pa_nil)))))))), ?_⟩
  refine body_x nm__law_levelled ?_ vs H Q E h
  clear h hr
  intro c n x hK hp
  (subst hK)
  try clear S__law_measure S__law_constant g_range F
  obtain ⟨hw, ht, hg, hn⟩ : wf0 x ∧ tkN x ≤ 20000 ∧ (gN x).natAbs ≤ 100000 ∧ n < 2 ^ 97 := hp
  walk_at "WK"
  refine ⟨(toks x, mN x), rfl, ⟨by rw [toks_len]; omega, wf0_tok hw, mr_all hw⟩, ?_⟩
  rintro d m ⟨rfl, rfl⟩
  refine ⟨rfl, ?_⟩
  dsimp only
  walk_at "WK"
  refine ⟨_, rfl, ?_⟩
  walk_at "WK"
  rw [gN_m]
  have hs : (1000000 : Nat) ≤ sizeLine := by rw [sizeLine_eq]; decide
  refine ⟨_, rfl, ?_⟩
  walk_at "WK"
  refine ⟨_, rfl, by omega, by omega, by show 1 * _ ≤ _; omega, ?_⟩
  rw [ttx_rep]
  generalize hk : (0 - (0 - gN x)).toNat = k
  have hk2 : k = (gN x).toNat := by omega
  refine rw_catL2 rfl ⟨by rw [ttx_len, ttx_len, toks_len, toks_len, dows_tk, List.length_replicate]; omega, ?_⟩
  refine wp_new (wn_lc (fun v hv => ?_) (wi_rng1 ?_))
  · have : v = 4 := by simpa using hv
    subst this
    exact Nat.le_of_ble_eq_true rfl
  walk_at "WK"
  refine ⟨by omega, by omega, fun i acc m' => m' ≤ m + 6 * i ∧ ∃ cs : List Int, cs.length = i ∧ acc = ttx ((cs.map Wd.c).map Tk.w) ∧ ∀ v ∈ cs, okWd (.c v), ⟨by omega, [], rfl, rfl, fun _ z => nomatch z⟩, by rw [seqI_len]; omega, ?_, ?_⟩
  · rintro i acc m' d hd ⟨hm, cs, hl, rfl, hc⟩
    obtain ⟨hi, rfl⟩ := seqI_of hd
    refine wg_name ⟨rfl, ?_⟩ (Nat.le_of_ble_eq_true rfl) (by decide)
    refine wt_yes ⟨fun _ => ?_, fun z => nomatch z⟩
    walk_at "WK"
    refine ⟨(), rfl, by (try dsimp only); omega, ?_⟩
    rintro d m2 ⟨⟨v, rfl, hv⟩, hm2⟩
    refine ⟨rfl, ?_⟩
    refine ⟨by (try dsimp only at hm2); omega, cs ++ [v], by rw [List.length_append, hl]; rfl, by rw [List.map_append, List.map_append, ttx_app]; rfl, fun u hu => ?_⟩
    rcases List.mem_append.mp hu with q | q
    · exact hc u q
    · rw [List.mem_singleton.mp q]; exact hv
  rintro acc m' ⟨hm, cs, hl, rfl, hc⟩
  rw [seqI_len] at hm hl
  have ec : ttx ((cs.map Wd.c).map Tk.w) = ttx (toks (dows (cs.map .c))) := by rw [dows_toks]
  rw [ec]
  have e2 : ttx (toks x) ++ ttx (toks (dows (List.replicate k Wd.d))) ++ ttx (toks (dows (cs.map .c))) = ttx (toks (appN (appN x (dows (List.replicate k .d))) (dows (cs.map .c)))) := by rw [toks_app, toks_app, ttx_app, ttx_app]
  refine rw_catL2 rfl ⟨by rw [List.length_append, ttx_len, ttx_len, ttx_len, toks_len, toks_len, toks_len, dows_tk, dows_tk, List.length_replicate, List.length_map]; omega, ?_⟩
  rw [e2]
  refine ⟨⟨_, rfl, wf0_app (wf0_app hw (dows_wf fun w hw => by rw [List.eq_of_mem_replicate hw]; exact True.intro)) (dows_wf fun w hw => by obtain ⟨c, a, rfl⟩ := List.mem_map.mp hw; exact hc c a), ?_, ?_, ?_, fun h => appN_ne1 (appN_ne1 h)⟩, by omega⟩
  · rw [gN_app, gN_app, dows_g, dows_g, gF_d, gF_c]
    omega
  · rw [dpN_app, dpN_app, dows_dp, dows_dp]
    omega
  · rw [tkN_app, tkN_app, dows_tk, dows_tk, List.length_replicate, List.length_map]
    omega
end
end Wx

/-! ### part R5 -/
set_option Elab.async false
set_option linter.all false
set_option maxRecDepth 100000
set_option maxHeartbeats 1000000
set_option autoImplicit false
namespace Wx
open PySem L2
theorem Ld_bd {d : Nat} (h : d ≤ 3) : 20 ≤ Ld d ∧ Ld d ≤ 5610 ∧ (d ≤ 2 → Ld d ≤ 930) := by
  match d, h with
  | 0, _ => decide
  | 1, _ => decide
  | 2, _ => decide
  | 3, _ => decide
theorem Cd_bd {d : Nat} (h : d ≤ 3) : 1000 ≤ Cd d ∧ Cd d ≤ 10 ^ 10 := by
  match d, h with
  | 0, _ => decide
  | 1, _ => decide
  | 2, _ => decide
  | 3, _ => decide
def Co : Nat → Nat
  | 0 => 40
  | d + 1 => 40 + Cd d + 30 * Ld d
theorem Co_bd (d : Nat) : 1 + 20 * Co d ≤ Cd d ∧ 40 ≤ Co d := by
  cases d with
  | zero => decide
  | succ d =>
    show 1 + 20 * (40 + Cd d + 30 * Ld d) ≤ 1000 + 100 * Cd d + 1000 * Ld d ∧ 40 ≤ 40 + Cd d + 30 * Ld d
    omega
structure PI (deep most many n : Nat) (ns : Ns) (j m : Nat) : Prop where
  wf : wf0 ns
  dp : dpN ns ≤ deep
  gb : (gN ns).natAbs ≤ 5 * tkN ns
  jt : j ≤ tkN ns
  jm : j ≤ many
  tk : tkN ns ≤ Ld deep
  z : j = 0 → ns = .nil
  one : most = 1 → j ≠ 0 → ∃ w, okWd w ∧ ns = .dow w .nil
  nn : m ≤ n + 1 + j * Co deep
theorem pi_nil {deep most many n : Nat} : PI deep most many n .nil 0 (n + 1) :=
  ⟨True.intro, Nat.zero_le _, Nat.zero_le _, Nat.zero_le _, Nat.zero_le _, Nat.zero_le _, fun _ => rfl, fun _ h => absurd rfl h, by omega⟩
theorem pi_word {deep most many n : Nat} {ns : Ns} {j m m' : Nat} {w : Wd} (h : PI deep most many n ns j m) (hl : tkN ns < many) (hm : many ≤ most) (h20 : most ≤ 20) (hd : deep ≤ 3) (hw : okWd w) (hc : m' ≤ m + 8) : PI deep most many n (appN ns (.dow w .nil)) (j + 1) m' := by
  have ht := tkN_app ns (.dow w .nil)
  have ht1 : tkN (.dow w .nil) = 1 := rfl
  have hg := gN_app ns (.dow w .nil)
  have hg1 : gN (.dow w .nil) = (mW w).2.2 + 0 := rfl
  have gw := gW_bd w
  have := h.gb
  have := h.jt
  have := h.nn
  have := (Co_bd deep).2
  have := (Ld_bd hd).1
  have e : (j + 1) * Co deep = j * Co deep + Co deep := Nat.succ_mul _ _
  refine ⟨wf0_app h.wf ⟨hw, True.intro⟩, by rw [dpN_app]; have := h.dp; show max (dpN ns) 0 ≤ deep; omega, by rw [hg, hg1, ht, ht1]; omega, by omega, by omega, by omega, fun z => (nomatch z), fun ho _ => ?_, by omega⟩
  have : j = 0 := by omega
  rw [h.z this]
  exact ⟨w, hw, rfl⟩
theorem pi_rep {deep most many n : Nat} {ns b : Ns} {j m m' k : Nat} (h : PI deep most many n ns j m) (hl : tkN ns + 2 < many) (hm : many ≤ most) (h20 : most ≤ 20) (hb : wf0 b) (hne : b ≠ .nil) (hdp : dpN b + 1 ≤ deep) (k1 : 2 ≤ k) (k2 : k ≤ 10 ^ 30)
    (hg : -100 ≤ gN b ∧ gN b ≤ 100) (hkg : ((k : Int) * gN b).natAbs ≤ 5 * tkN b) (htk : tkN b + 22 ≤ Ld deep) (hc : m' ≤ m + Co deep) : PI deep most many n (appN ns (.rep k b .nil)) (j + 1) m' := by
  have ht := tkN_app ns (.rep k b .nil)
  have ht1 : tkN (.rep k b .nil) = 2 + tkN b + 0 := rfl
  have hg2 := gN_app ns (.rep k b .nil)
  have hg1 : gN (.rep k b .nil) = (k : Int) * gN b + 0 := rfl
  have := h.gb
  have := h.jt
  have := h.nn
  have e : (j + 1) * Co deep = j * Co deep + Co deep := Nat.succ_mul _ _
  generalize (k : Int) * gN b = y at *
  refine ⟨wf0_app h.wf ⟨⟨k1, k2, hne, hg.1, hg.2⟩, hb, True.intro⟩, by rw [dpN_app]; have := h.dp; show max (dpN ns) (max (1 + dpN b) 0) ≤ deep; omega, by rw [hg2, hg1, ht, ht1]; omega, by omega, by omega, by omega, fun z => (nomatch z), fun ho _ => by omega, by omega⟩
theorem pi_raw {deep most many n : Nat} {ns : Ns} {j m : Nat} (h : PI deep most many n ns j m) (hl : many ≤ tkN ns) (h1 : 1 ≤ many) (hm : many ≤ 20) : Raw deep most ns ∧ m ≤ n + Cd deep := by
  have hj : j ≠ 0 := fun z => by
    rw [h.z z] at hl
    have : tkN .nil = 0 := rfl
    omega
  refine ⟨⟨h.wf, fun z => ?_, h.dp, h.tk, h.gb, fun ho => h.one ho hj⟩, ?_⟩
  · rw [z] at hl
    have : tkN .nil = 0 := rfl
    omega
  · have := h.nn
    have := (Co_bd deep).1
    have : j * Co deep ≤ 20 * Co deep := Nat.mul_le_mul_right _ (Nat.le_trans h.jm hm)
    omega
theorem cl_len {k : Nat} (h : k ≤ 10 ^ 30) : (Str.ofString ")").length + (txN k).length ≤ sizeLine := by
  have a : (Str.ofString ")").length = 1 := by decide +kernel
  have b := txN_le (n := k) (k := 31) (by decide) (by omega)
  rw [sizeLine_eq]
  omega
theorem rep_ttx {ns b : Ns} {k : Nat} : ttx (toks ns) ++ [PyData.str (Str.ofString "(")] ++ ttx (toks b) ++ [PyData.str (Tk.cl k).tx] = ttx (toks (appN ns (.rep k b .nil))) := by
  rw [toks_app]
  show _ = ttx (toks ns ++ (.op :: (toks b ++ .cl k :: [])))
  rw [ttx_app, txt_o]
  unfold ttx
  simp only [List.map_cons, List.map_append, List.map_nil, List.append_assoc, List.cons_append, List.nil_append]
  rfl
theorem dow_ttx {ns : Ns} {v : Wd} : ttx (toks ns) ++ [PyData.str v.tx] = ttx (toks (appN ns (.dow v .nil))) := by
  rw [toks_app, ttx_app]
  rfl

section
variable {P : Program} {w : World} {K : PySem.W.Frag} {mg : Str → Option Value} {base : Heap} {f C : Addr} {fd : FuncData} {dp : Nat}
abbrev sp__law_part (K : PySem.W.Frag) (dp : Nat) : Sp := SpX (ι := Nat × Nat × Int) K (fun x => [.kln, .py (.int (x.2.1 : Int)), .py (.int (x.1 : Int)), .py (.int x.2.2), .py (.int 0), .py (.int 1)]) (fun x n => x.1 < dp ∧ x.1 ≤ 3 ∧ 1 ≤ x.2.1 ∧ x.2.1 ≤ 20 ∧ 2 ≤ x.2.2 ∧ x.2.2 ≤ 90 ∧ n + Cd x.1 < 2 ^ 90) fun x n d m => (∃ ns, d = .py (.list (ttx (toks ns))) ∧ Raw x.1 x.2.1 ns) ∧ m ≤ n + Cd x.1
theorem ln__law_part (x : Nat × Nat × Int) : [D.kln, .py (.int (x.2.1 : Int)), .py (.int (x.1 : Int)), .py (.int x.2.2), .py (.int 0), .py (.int 1)].length = 6 := rfl
theorem nm__law_part (x : Nat × Nat × Int) : [D.kln, .py (.int (x.2.1 : Int)), .py (.int (x.1 : Int)), .py (.int x.2.2), .py (.int 0), .py (.int 1)].all D.nm = true := rfl
theorem sc__law_part : FnScope ["bag", "most", "deep", "high", "split", "far", "found", "many", "way", "room", "part", "one", "other", "k"] ["bag", "most", "deep", "high", "split", "far"] (defScope (top 82)) := ⟨rfl, rfl, rfl, by decide +kernel, rfl, by decide +kernel, by decide +kernel⟩
theorem ok__law_part (F : FnP K "_law_part" "_law_part" (top 82) f fd) (S__law_pick : Std P w K mg base 1 "_law_pick" ["bag", "many"] (sp__law_pick K)) (g_len : mg "len" = none) (S__law_levelled : Std P w K mg base 3 "_law_levelled" ["bag", "words", "growth"] (sp__law_levelled K)) (S__law_part : Std P w K mg base (dp + 4) "_law_part" ["bag", "most", "deep", "high", "split", "far"] (sp__law_part K dp)) (g_max : mg "max" = none) (S__law_number : Std P w K mg base 2 "_law_number" ["bag", "far"] (sp__law_number K)) (S__law_word : Std P w K mg base 3 "_law_word" ["bag", "high"] (sp__law_word K)) (g_range : mg "range" = none) (S__law_measure : Std P w K mg base 2 "_law_measure" ["words"] (sp__law_measure K)) (g_str : mg "str" = none) : FnOk P w K mg base CX0 (dp + 4 + 1) f fd ["bag", "most", "deep", "high", "split", "far"] (sp__law_part K (dp + 1)) := by
  refine F.ok sc__law_part (sx_len ln__law_part) (fun cdv A outer s H vs Q E hr h => ?_)
  have nd := sc__law_part.nd
  refine ⟨_, PSs.nox (pss_cons (ps_setO (i := 6) nd rfl (Or.inl rfl) (pe_lst (pa_nil)))
 (pss_cons (ps_set (i := 7) nd rfl (Or.inl rfl) (pe_op (addK (K := K) rfl) (pe_int) (pe_std S__law_pick (hr.mono (by omega)) rfl (pa_cons (pv 0) (pa_cons (pv 1) (pa_nil))))))
 (pss_cons (ps_while PassesOwn.never (pt_cmpR op_lt (pe_callB (lenK (K := K) rfl) rfl g_len PySem.boot_len (pa_cons (pv 6) (pa_nil))) (pv 7) (nomark _)) (pss_cons (ps_set (i := 8) nd rfl (Or.inl rfl) (pe_std S__law_pick (hr.mono (by omega)) rfl (pa_cons (pv 0) (pa_cons (pe_int) (pa_nil)))))
 (pss_cons (ps_set (i := 9) nd rfl (Or.inl rfl) (pe_op op_sub (pv 7) (pe_callB (lenK (K := K) rfl) rfl g_len PySem.boot_len (pa_cons (pv 6) (pa_nil)))))
 (pss_one (ps_if (PW.pt (pw_and (pt_cmpR (eqK (K := K) rfl (room64 hr)) (pv 8) (pe_int) (nomark _)) (pw_and (pt_cmpR op_gt (pv 2) (pe_int) (nomark _)) (pw_and1 (pt_cmpR op_gt (pv 9) (pe_int) (nomark _)))))) (pss_cons (ps_set (i := 10) nd rfl (Or.inl rfl) (pe_std S__law_levelled (hr.mono (by omega)) rfl (pa_cons (pv 0) (pa_cons (pe_std S__law_part hr rfl (pa_cons (pv 0) (pa_cons (pv 9) (pa_cons (pe_op op_sub (pv 2) (pe_int)) (pa_cons (pv 3) (pa_cons (pv 4) (pa_cons (pv 5) (pa_nil)))))))) (pa_cons (pe_int) (pa_nil))))))
 (pss_one (ps_setO (i := 6) nd rfl (Or.inl rfl) (pe_op (addK (K := K) rfl) (pe_op (addK (K := K) rfl) (pe_op (addK (K := K) rfl) (pv 6) (pe_lst (pa_cons (pe_str) (pa_nil)))) (pv 10)) (pe_lst (pa_cons (pe_op (addK (K := K) rfl) (pe_str) (pe_std S__law_number (hr.mono (by omega)) rfl (pa_cons (pv 0) (pa_cons (pv 5) (pa_nil))))) (pa_nil))))))) (pss_one (ps_if (PW.pt (pw_and (pt_cmpR (eqK (K := K) rfl (room64 hr)) (pv 8) (pe_int) (nomark _)) (pw_and (pt_cmpR op_gt (pv 2) (pe_int) (nomark _)) (pw_and1 (pt_cmpR (eqK (K := K) rfl (room64 hr)) (pv 4) (pe_int) (nomark _)))))) (pss_cons (ps_never)
 (pss_cons (ps_never)
 (pss_one (ps_never)))) (pss_one (ps_if (PW.pt (pw_and (pt_cmpR (eqK (K := K) rfl (room64 hr)) (pv 8) (pe_int) (nomark _)) (pw_and (pt_cmpR op_gt (pv 2) (pe_int) (nomark _)) (pw_and1 (pt_cmpR op_gt (pv 9) (pe_int) (nomark _)))))) (pss_cons (ps_setLc (i := 10) (own := [("k", 13)]) rfl nd rfl rfl (sw_true rfl rfl rfl (by decide +kernel)) (pi_range1 rfl g_range (pa_cons (pe_op (addK (K := K) rfl) (pe_int) (pe_std S__law_pick (hr.mono (by omega)) rfl (pa_cons (pv 0) (pa_cons (pe_int) (pa_nil))))) (pa_nil))) (blkOk_by (N := ["bag", "most", "deep", "high", "split", "far", "found", "many", "way", "room", "part", "one", "other", "k"]) (sc := (defScope (top 82))) (by decide +kernel)) (fun _ _ _ _ _ => pg_name (i := 13) nd rfl (Or.inl rfl) (.inr rfl)) (fun _ _ _ _ _ => pts_nil) (fun _ _ _ _ _ => pe_std S__law_word (hr.mono (by omega)) rfl (pa_cons (pv 0) (pa_cons (pv 3) (pa_nil)))))
 (pss_one (ps_setO (i := 6) nd rfl (Or.inl rfl) (pe_op (addK (K := K) rfl) (pe_op (addK (K := K) rfl) (pe_op (addK (K := K) rfl) (pv 6) (pe_lst (pa_cons (pe_str) (pa_nil)))) (pv 10)) (pe_lst (pa_cons (pe_op (addK (K := K) rfl) (pe_str) (pe_callTy callSTR rfl g_str bt_str (pa_cons (pe_op (addK (K := K) rfl) (pe_int) (pe_std S__law_pick (hr.mono (by omega)) rfl (pa_cons (pv 0) (pa_cons (pe_int) (pa_nil))))) (pa_nil)))) (pa_nil))))))) (pss_one (ps_expr (pe_bm PySem.F.plainAttrs_list PySem.F.slot_list_append PySem.F.type_list_append mt_append (pv 6) (pa_cons (pe_std S__law_word (hr.mono (by omega)) rfl (pa_cons (pv 0) (pa_cons (pv 3) (pa_nil)))) (pa_nil))))))))))))))
 (pss_one (ps_ret (pv 6)))))), ?_⟩
  refine body_x nm__law_part ?_ vs H Q E h
  clear h hr
  intro c n x hK hp
  (subst hK)
  try clear S__law_pick g_len S__law_levelled S__law_part g_max S__law_number S__law_word g_range S__law_measure g_str F
  obtain ⟨deep, most, high⟩ := x
  obtain ⟨q1, q2, m1, m2', g1, g2, hn⟩ : deep < dp + 1 ∧ deep ≤ 3 ∧ 1 ≤ most ∧ most ≤ 20 ∧ 2 ≤ high ∧ high ≤ 90 ∧ n + Cd deep < 2 ^ 90 := hp
  have hs : (1000000 : Nat) ≤ sizeLine := by rw [sizeLine_eq]; decide
  dsimp only
  walk_at "WK"
  refine ⟨_, rfl, by omega, by omega, by omega, fun r0 a0 b0 => ?_⟩
  walk_at "WK"
  obtain ⟨many, hmany⟩ := Int.eq_ofNat_of_zero_le (show 0 ≤ 1 + r0 by omega)
  rw [hmany]
  refine ws_mid (fun e1 => ∃ (ns : Ns) (m : Nat) (s8 s9 s10 s11 s12 s13 : Slo), Raw deep most ns ∧ m ≤ n + Cd deep ∧ e1 = ⟨[.val .kln, .val (.py (.int (most : Int))), .val (.py (.int (deep : Int))), .val (.py (.int high)), .val (.py (.int 0)), .val (.py (.int 1)), .own (.lst (ttx (toks ns))), .val (.py (.int (many : Int))), s8, s9, s10, s11, s12, s13], m⟩) ?_ ?_
  · refine ws_while (fun mm e1 => ∃ (ns : Ns) (j m : Nat) (s8 s9 s10 s11 s12 s13 : Slo), mm = many - j ∧ PI deep most many n ns j m ∧ e1 = ⟨[.val .kln, .val (.py (.int (most : Int))), .val (.py (.int (deep : Int))), .val (.py (.int high)), .val (.py (.int 0)), .val (.py (.int 1)), .own (.lst (ttx (toks ns))), .val (.py (.int (many : Int))), s8, s9, s10, s11, s12, s13], m⟩) ⟨many, .nil, 0, n + 1, .emp, .emp, .emp, .emp, .emp, .emp, rfl, pi_nil, rfl⟩ ?_
    rintro mm e1 ⟨ns, j, m, s8, s9, s10, s11, s12, s13, rfl, hi, rfl⟩
    walk_at "WK"
    rw [ttx_len, toks_len]
    refine ⟨fun c1 => ?_, fun c1 => ?_⟩
    · have c1' := of_decide_eq_true c1
      have hl : tkN ns < many := by omega
      have hmn : m + Co deep ≤ n + Cd deep := by have := hi.nn; have := hi.jt; have := (Co_bd deep).1; have : (j + 1) * Co deep ≤ 20 * Co deep := Nat.mul_le_mul_right _ (by omega); have e : (j + 1) * Co deep = j * Co deep + Co deep := Nat.succ_mul _ _; omega
      have hCo := (Co_bd deep).2
      have hC := Cd_bd q2
      have hL := Ld_bd q2
      refine ws_seq (ws_mid (fun e1 => ∃ way : Int, 0 ≤ way ∧ way < 8 ∧ e1 = ⟨[.val .kln, .val (.py (.int (most : Int))), .val (.py (.int (deep : Int))), .val (.py (.int high)), .val (.py (.int 0)), .val (.py (.int 1)), .own (.lst (ttx (toks ns))), .val (.py (.int (many : Int))), .val (.py (.int way)), s9, s10, s11, s12, s13], m + 1⟩) ?_ ?_)
      · walk_at "WK"
        refine ⟨_, rfl, by decide, by decide, by omega, fun way w0 w1 => ?_⟩
        exact ⟨rfl, way, w0, w1, rfl⟩
      rintro e1 ⟨way, w0, w1, rfl⟩
      obtain ⟨room, hroom⟩ := Int.eq_ofNat_of_zero_le (show 0 ≤ (many : Int) - (tkN ns : Int) by omega)
      refine ws_seq (ws_mid (fun e1 => e1 = ⟨[.val .kln, .val (.py (.int (most : Int))), .val (.py (.int (deep : Int))), .val (.py (.int high)), .val (.py (.int 0)), .val (.py (.int 1)), .own (.lst (ttx (toks ns))), .val (.py (.int (many : Int))), .val (.py (.int way)), .val (.py (.int (room : Int))), s10, s11, s12, s13], m + 1⟩) ?_ ?_)
      · walk_at "WK"
        rw [ttx_len, toks_len, hroom]
        first | exact ⟨rfl, rfl⟩ | rfl
      rintro e1 rfl
      have fin : ∀ (ns' : Ns) (m' : Nat) (t8 t9 t10 t11 t12 t13 : Slo), PI deep most many n ns' (j + 1) m' → ∃ mm', mm' < many - j ∧ ∃ (ns : Ns) (j m : Nat) (s8 s9 s10 s11 s12 s13 : Slo), mm' = many - j ∧ PI deep most many n ns j m ∧ (⟨[.val .kln, .val (.py (.int (most : Int))), .val (.py (.int (deep : Int))), .val (.py (.int high)), .val (.py (.int 0)), .val (.py (.int 1)), .own (.lst (ttx (toks ns'))), .val (.py (.int (many : Int))), t8, t9, t10, t11, t12, t13], m'⟩ : En) = ⟨[.val .kln, .val (.py (.int (most : Int))), .val (.py (.int (deep : Int))), .val (.py (.int high)), .val (.py (.int 0)), .val (.py (.int 1)), .own (.lst (ttx (toks ns))), .val (.py (.int (many : Int))), s8, s9, s10, s11, s12, s13], m⟩ :=
        fun ns' m' t8 t9 t10 t11 t12 t13 h => ⟨many - (j + 1), by have := hi.jt; omega, ns', j + 1, m', t8, t9, t10, t11, t12, t13, rfl, h, rfl⟩
      have ttl : ∀ a : Ns, (ttx (toks a)).length = tkN a := fun a => by rw [ttx_len, toks_len]
      refine ws_if (wt_mono (Θ := fun b n' => n' = m + 1 ∧ (b = true → 0 < deep ∧ 2 < room)) ?_ fun b n' ⟨hn', hb⟩ => ⟨fun hb1 => ?_, fun hb1 => ?_⟩)
      · walk_at "WK"
        refine ⟨fun d1 => ?_, fun d1 => ⟨rfl, fun z => (nomatch z)⟩⟩
        walk_at "WK"
        refine ⟨fun d2 => ?_, fun d2 => ⟨rfl, fun z => (nomatch z)⟩⟩
        walk_at "WK"
        have d2' := of_decide_eq_true d2
        first | exact ⟨rfl, fun z => by have := of_decide_eq_true z; omega⟩ | exact fun z => by have := of_decide_eq_true z; omega
      · obtain ⟨hd0, hr2⟩ := hb hb1
        subst hn'
        clear hb hb1
        obtain ⟨d, rfl⟩ : ∃ d, deep = d + 1 := ⟨deep - 1, by omega⟩
        have hLd := Ld_bd (d := d) (by omega)
        have hCd := Cd_bd (d := d) (by omega)
        have eL : Ld (d + 1) = 30 + 6 * Ld d := rfl
        have eC : Co (d + 1) = 40 + Cd d + 30 * Ld d := rfl
        refine ws_seq (ws_mid (fun e1 => ∃ (b : Ns) (m2 : Nat), wf0 b ∧ b ≠ .nil ∧ gN b = 0 ∧ dpN b ≤ d ∧ tkN b ≤ 6 * Ld d ∧ m2 ≤ m + 1 + Cd d + 30 * Ld d ∧ e1 = ⟨[.val .kln, .val (.py (.int (most : Int))), .val (.py (.int ((d + 1 : Nat) : Int))), .val (.py (.int high)), .val (.py (.int 0)), .val (.py (.int 1)), .own (.lst (ttx (toks ns))), .val (.py (.int (many : Int))), .val (.py (.int way)), .val (.py (.int (room : Int))), .val (.py (.list (ttx (toks b)))), s11, s12, s13], m2⟩) ?_ ?_)
        · walk_at "WK"
          rw [show ((d + 1 : Nat) : Int) - 1 = (d : Int) by omega]
          refine ⟨(d, room, high), rfl, ⟨by omega, by omega, by dsimp only; omega, by dsimp only; omega, g1, g2, by dsimp only; omega⟩, ?_⟩
          rintro _ m2 ⟨⟨b, rfl, hr⟩, hm2⟩
          dsimp only at hm2 hr
          have r1 := hr.tk
          have r2 := hr.gb
          have r3 := hr.dp
          refine ⟨rfl, ?_⟩
          walk_at "WK"
          refine ⟨b, rfl, ⟨hr.wf, by omega, by omega, by omega⟩, ?_⟩
          rintro _ m3 ⟨⟨b', rfl, v1, v2, v3, v4, v5⟩, hm3⟩
          refine ⟨rfl, rfl, b', m3, v1, v5 hr.ne, v2, by omega, by omega, by omega, rfl⟩
        rintro e1 ⟨b, m2, b1, b2, b3, b4, b5, b6, rfl⟩
        walk_at "WK"
        refine ⟨_, rfl, by rw [ttl]; show _ + 1 ≤ _; omega, ?_⟩
        walk_at "WK"
        refine ⟨by rw [List.length_append, ttl, ttl]; show tkN ns + 1 + tkN b ≤ _; omega, ?_⟩
        walk_at "WK"
        refine ⟨(), rfl, by omega, ?_⟩
        rintro _ m3 ⟨⟨k, rfl, k1, k2⟩, hm3⟩
        refine ⟨rfl, ?_⟩
        refine rw_addS ⟨cl_len k2, ?_⟩
        rw [show Str.ofString ")" ++ txN k = (Tk.cl k).tx from cl_txI k]
        walk_at "WK"
        refine rn_cat rfl ⟨by rw [List.length_append, List.length_append, ttl, ttl]; show tkN ns + 1 + tkN b + 1 ≤ _; omega, ?_⟩
        rw [rep_ttx]
        exact fin _ _ _ _ _ _ _ _ (pi_rep hi (by omega) (by omega) m2' b1 b2 (by omega) k1 k2 (by omega) (by rw [b3, Int.mul_zero]; exact Nat.zero_le _) (by omega) (by omega))
      · subst hn'
        clear hb hb1
        refine ws_if (wt_mono (Θ := fun b n' => n' = m + 1 ∧ b = false) ?_ fun b n' ⟨hn', hb⟩ => ⟨fun hb1 => absurd hb1 (by rw [hb]; exact fun z => nomatch z), fun _ => ?_⟩)
        · walk_at "WK"
          refine ⟨fun d1 => ?_, fun d1 => ⟨rfl, rfl⟩⟩
          walk_at "WK"
          refine ⟨fun d2 => ?_, fun d2 => ⟨rfl, rfl⟩⟩
          walk_at "WK"
          first | exact ⟨rfl, by decide⟩ | exact (by decide)
        subst hn'
        refine ws_if (wt_mono (Θ := fun b n' => n' = m + 1 ∧ (b = true → 0 < deep ∧ 2 < room)) ?_ fun b n' ⟨hn', hb⟩ => ⟨fun hb1 => ?_, fun hb1 => ?_⟩)
        · walk_at "WK"
          refine ⟨fun d1 => ?_, fun d1 => ⟨rfl, fun z => (nomatch z)⟩⟩
          walk_at "WK"
          refine ⟨fun d2 => ?_, fun d2 => ⟨rfl, fun z => (nomatch z)⟩⟩
          walk_at "WK"
          have d2' := of_decide_eq_true d2
          first | exact ⟨rfl, fun z => by have := of_decide_eq_true z; omega⟩ | exact fun z => by have := of_decide_eq_true z; omega
        · obtain ⟨hd0, hr2⟩ := hb hb1
          subst hn'
          clear hb hb1
          obtain ⟨d, rfl⟩ : ∃ d, deep = d + 1 := ⟨deep - 1, by omega⟩
          have hLd := Ld_bd (d := d) (by omega)
          have eL : Ld (d + 1) = 30 + 6 * Ld d := rfl
          refine ws_seq (ws_mid (fun e1 => ∃ (ws : List Wd) (m2 : Nat) (t13 : Slo), 1 ≤ ws.length ∧ ws.length ≤ 3 ∧ (∀ w ∈ ws, okWd w) ∧ m2 ≤ m + 23 ∧ e1 = ⟨[.val .kln, .val (.py (.int (most : Int))), .val (.py (.int ((d + 1 : Nat) : Int))), .val (.py (.int high)), .val (.py (.int 0)), .val (.py (.int 1)), .own (.lst (ttx (toks ns))), .val (.py (.int (many : Int))), .val (.py (.int way)), .val (.py (.int (room : Int))), .val (.py (.list (ttx (toks (dows ws))))), s11, s12, t13], m2⟩) ?_ ?_)
          · walk_at "WK"
            refine wp_new (wn_lc (fun v hv => ?_) (wi_rng1 ?_))
            · have : v = 13 := by simpa using hv
              subst this
              exact Nat.le_of_ble_eq_true rfl
            walk_at "WK"
            refine ⟨_, rfl, by decide, by decide, by omega, fun r a b => ?_⟩
            walk_at "WK"
            refine ⟨by omega, by omega, fun i acc m' => m' ≤ m + 2 + 7 * i ∧ ∃ ws : List Wd, ws.length = i ∧ acc = ttx (ws.map Tk.w) ∧ ∀ v ∈ ws, okWd v, ⟨by omega, [], rfl, rfl, fun _ z => nomatch z⟩, by rw [seqI_len]; omega, ?_, ?_⟩
            · rintro i acc m' d hd ⟨hm, cs, hl, rfl, hc⟩
              obtain ⟨hi, rfl⟩ := seqI_of hd
              refine wg_name ⟨rfl, ?_⟩ (Nat.le_of_ble_eq_true rfl) (by decide)
              refine wt_yes ⟨fun _ => ?_, fun z => nomatch z⟩
              walk_at "WK"
              refine ⟨high, rfl, ⟨by omega, g2, by (try dsimp only); omega⟩, ?_⟩
              rintro d m2 ⟨⟨v, rfl, hv⟩, hm2⟩
              refine ⟨rfl, ?_⟩
              refine ⟨by (try dsimp only at hm2); omega, cs ++ [v], by rw [List.length_append, hl]; rfl, by rw [List.map_append, ttx_app]; rfl, fun u hu => ?_⟩
              rcases List.mem_append.mp hu with q | q
              · exact hc u q
              · rw [List.mem_singleton.mp q]; exact hv
            rintro acc m' ⟨hm, ws, hl, rfl, hc⟩
            rw [seqI_len] at hm hl
            refine ⟨rfl, ws, m', s13, by omega, by omega, hc, by omega, ?_⟩
            rw [← dows_toks]
            rfl
          rintro e1 ⟨ws, m2, t13, l1, l2, hws, hm2, rfl⟩
          have tw : tkN (dows ws) = ws.length := dows_tk ws
          have gb := gF_bd ws
          have gw : gN (dows ws) = gF ws := dows_g ws
          walk_at "WK"
          refine ⟨_, rfl, by rw [ttl]; show _ + 1 ≤ _; omega, ?_⟩
          walk_at "WK"
          refine ⟨by rw [List.length_append, ttl, ttl]; show tkN ns + 1 + tkN _ ≤ _; omega, ?_⟩
          walk_at "WK"
          refine ⟨_, rfl, by decide, by decide, by omega, fun r a b => ?_⟩
          walk_at "WK"
          obtain ⟨k, hk⟩ := Int.eq_ofNat_of_zero_le (show 0 ≤ 2 + r by omega)
          refine cw_str (one_mk ⟨2 + r, rfl, log2_lt (by omega), ?_⟩)
          rw [hk]
          refine rw_addS ⟨cl_len (k := k) (by omega), ?_⟩
          rw [cl_txI]
          walk_at "WK"
          refine rn_cat rfl ⟨by rw [List.length_append, List.length_append, ttl, ttl]; show tkN ns + 1 + tkN _ + 1 ≤ _; omega, ?_⟩
          rw [rep_ttx]
          have kg : ((k : Int) * gN (dows ws)).natAbs ≤ 5 * tkN (dows ws) := by
            rw [Int.natAbs_mul, gw, tw]
            exact Nat.mul_le_mul (by omega) (by omega)
          exact fin _ _ _ _ _ _ _ _ (pi_rep hi (by omega) (by omega) m2' (dows_wf hws) (by cases ws with | nil => simp at l1 | cons _ _ => exact fun z => nomatch z) (by rw [dows_dp]; omega) (by omega) (by omega) (by omega) kg (by omega) (by omega))
        · subst hn'
          walk_at "WK"
          refine ⟨high, rfl, ⟨by omega, g2, by omega⟩, ?_⟩
          rintro _ m3 ⟨⟨v, rfl, hv⟩, hm3⟩
          refine ⟨rfl, ?_⟩
          walk_at "WK"
          refine ⟨_, rfl, by rw [ttl]; omega, ?_⟩
          rw [dow_ttx]
          exact fin _ _ _ _ _ _ _ _ (pi_word hi hl (by omega) m2' q2 hv (by omega))
    · have c1' := of_decide_eq_false c1
      obtain ⟨r1, r2⟩ := pi_raw hi (by omega) (by omega) (by omega)
      exact ⟨ns, m, _, _, _, _, _, _, r1, r2, rfl⟩
  · rintro e1 ⟨ns, m, s8, s9, s10, s11, s12, s13, hr, hm, rfl⟩
    walk_at "WK"
    exact ⟨⟨ns, rfl, hr⟩, hm⟩
end
end Wx

/-! ### part R6 -/
set_option Elab.async false
set_option linter.all false
set_option maxRecDepth 100000
set_option maxHeartbeats 1000000
set_option autoImplicit false
namespace Wx
open PySem L2
theorem raw_up {d most : Nat} {ns : Ns} (h : Raw d most ns) (hd : d ≤ 3) : Raw 3 most ns :=
  ⟨h.wf, h.ne, Nat.le_trans h.dp hd, Nat.le_trans h.tk (by match d, hd with | 0, _ => decide | 1, _ => decide | 2, _ => decide | 3, _ => decide), h.gb, h.one⟩

section
variable {P : Program} {w : World} {K : PySem.W.Frag} {mg : Str → Option Value} {base : Heap} {f C : Addr} {fd : FuncData}
abbrev sp__law_program (K : PySem.W.Frag) : Sp := SpX (ι := Nat × Int) K (fun x => [.kln, .py (.int (x.1 : Int)), .py (.int 3), .py (.int x.2), .py (.int 0), .py (.int 1)]) (fun x n => 1 ≤ x.1 ∧ x.1 ≤ 20 ∧ 2 ≤ x.2 ∧ x.2 ≤ 90 ∧ n < 2 ^ 89) fun x n d m => (∃ ns, d = .py (.list (ttx (toks ns))) ∧ wf0 ns ∧ ns ≠ .nil ∧ hiM (mN ns) ∧ tkN ns ≤ 69 ∧ dpN ns ≤ 3) ∧ m ≤ n + 10 ^ 12
theorem ln__law_program (x : Nat × Int) : [D.kln, .py (.int (x.1 : Int)), .py (.int 3), .py (.int x.2), .py (.int 0), .py (.int 1)].length = 6 := rfl
theorem nm__law_program (x : Nat × Int) : [D.kln, .py (.int (x.1 : Int)), .py (.int 3), .py (.int x.2), .py (.int 0), .py (.int 1)].all D.nm = true := rfl
theorem sc__law_program : FnScope ["bag", "most", "deep", "high", "split", "far", "found"] ["bag", "most", "deep", "high", "split", "far"] (defScope (top 83)) := ⟨rfl, rfl, rfl, by decide +kernel, rfl, by decide +kernel, by decide +kernel⟩
theorem ok__law_program (F : FnP K "_law_program" "_law_program" (top 83) f fd) (S__law_part : Std P w K mg base 8 "_law_part" ["bag", "most", "deep", "high", "split", "far"] (sp__law_part K 4)) (g_len : mg "len" = none) (g_max : mg "max" = none) (g_min : mg "min" = none) (S__law_measure : Std P w K mg base 2 "_law_measure" ["words"] (sp__law_measure K)) : FnOk P w K mg base CX0 10 f fd ["bag", "most", "deep", "high", "split", "far"] (sp__law_program K) := by
  refine F.ok sc__law_program (sx_len ln__law_program) (fun cdv A outer s H vs Q E hr h => ?_)
  have nd := sc__law_program.nd
  refine ⟨_, PSs.nox (pss_cons (ps_set (i := 6) nd rfl (Or.inl rfl) (pe_std S__law_part (hr.mono (by decide)) rfl (pa_cons (pv 0) (pa_cons (pv 1) (pa_cons (pv 2) (pa_cons (pv 3) (pa_cons (pv 4) (pa_cons (pv 5) (pa_nil)))))))))
 (pss_cons (ps_while PassesOwn.never (PW.pt (pw_or (pt_cmpR op_gt (pe_op (addK (K := K) rfl) (pe_ix (ixK (K := K) rfl) (pe_std S__law_measure (hr.mono (by decide)) rfl (pa_cons (pv 6) (pa_nil))) (pe_int) (fun _ _ => rfl)) (pe_ix (ixK (K := K) rfl) (pe_std S__law_measure (hr.mono (by decide)) rfl (pa_cons (pv 6) (pa_nil))) (pe_int) (fun _ _ => rfl))) (pe_int) (nomark _)) (pw_or1 (pt_cmpR op_gt (pe_callB (lenK (K := K) rfl) rfl g_len PySem.boot_len (pa_cons (pv 6) (pa_nil))) (pe_op (addK (K := K) rfl) (pe_op opMUL (pe_int) (pv 1)) (pe_int)) (nomark _))))) (pss_cons (ps_par (i := 1) (j := 3) rfl nd rfl rfl (by decide) rfl rfl (pa_cons (pe_callB (callMAX2 rfl) rfl g_max bt_max (pa_cons (pe_int) (pa_cons (pe_op op_fdivW (pv 1) (pe_int)) (pa_nil)))) (pa_cons (pe_callB (callMAX2 rfl) rfl g_max bt_max (pa_cons (pe_int) (pa_cons (pe_op op_fdivW (pv 3) (pe_int)) (pa_nil)))) (pa_nil))) rfl)
 (pss_one (ps_set (i := 6) nd rfl (Or.inl rfl) (pe_std S__law_part (hr.mono (by decide)) rfl (pa_cons (pv 0) (pa_cons (pv 1) (pa_cons (pe_callB (callMIN2 rfl) rfl g_min bt_min (pa_cons (pv 2) (pa_cons (pe_int) (pa_nil)))) (pa_cons (pv 3) (pa_cons (pv 4) (pa_cons (pv 5) (pa_nil))))))))))))
 (pss_one (ps_ret (pv 6))))), ?_⟩
  refine body_x nm__law_program ?_ vs H Q E h
  clear h hr
  intro c n x hK hp
  (subst hK)
  try clear S__law_part g_len g_max g_min S__law_measure F
  obtain ⟨most, high⟩ := x
  obtain ⟨m1, m2', g1, g2, hn⟩ : 1 ≤ most ∧ most ≤ 20 ∧ 2 ≤ high ∧ high ≤ 90 ∧ n < 2 ^ 89 := hp
  have hC := Cd_bd (d := 3) (by decide)
  have hC2 := Cd_bd (d := 2) (by decide)
  dsimp only
  refine ws_seq ?_
  walk_at "WJ"
  refine ⟨(3, most, high), rfl, ⟨by dsimp only; omega, by dsimp only; omega, m1, m2', g1, g2, by dsimp only; omega⟩, ?_⟩
  rintro _ m0 ⟨⟨ns0, rfl, hr0⟩, hm0⟩
  dsimp only at hr0 hm0
  refine ⟨rfl, rfl, ?_⟩
  refine ws_seq (ws_mid (fun e1 => ∃ (ns : Ns) (mo : Nat) (hi : Int) (m : Nat), e1 = ⟨[.val .kln, .val (.py (.int (mo : Int))), .val (.py (.int 3)), .val (.py (.int hi)), .val (.py (.int 0)), .val (.py (.int 1)), .val (.py (.list (ttx (toks ns))))], m⟩ ∧ m ≤ n + 10 ^ 12 ∧ Raw 3 mo ns ∧ hiM (mN ns) ∧ tkN ns ≤ 69) ?_ ?_)
  · refine ws_while (fun mm e1 => ∃ (ns : Ns) (mo : Nat) (hi : Int) (m : Nat), mm = mo ∧ 1 ≤ mo ∧ mo ≤ 20 ∧ 2 ≤ hi ∧ hi ≤ 90 ∧ Raw 3 mo ns ∧ m ≤ n + (21 - mo) * 10 ^ 10 ∧ e1 = ⟨[.val .kln, .val (.py (.int (mo : Int))), .val (.py (.int 3)), .val (.py (.int hi)), .val (.py (.int 0)), .val (.py (.int 1)), .val (.py (.list (ttx (toks ns))))], m⟩) ⟨most, ns0, most, high, m0, rfl, m1, m2', g1, g2, hr0, by omega, rfl⟩ ?_
    rintro mm e1 ⟨ns, mo, hi, m, rfl, o1, o2, i1, i2, hr, hm, rfl⟩
    have htk : tkN ns ≤ 5610 := Nat.le_trans hr.tk (by decide)
    have pm : (toks ns).length ≤ 100000 ∧ (∀ t ∈ toks ns, okTk t) ∧ MR (toks ns) [(0, 0, 0)] (mN ns) := ⟨by rw [toks_len]; omega, wf0_tok hr.wf, mr_all hr.wf⟩
    refine wt_mono (Θ := fun b n' => n' = m ∧ b = decide (100 < (mN ns).1 + (mN ns).2.1 ∨ 3 * (mm : Int) + 9 < (tkN ns : Int))) ?_ ?_
    · walk_at "WK"
      refine ⟨(toks ns, mN ns), rfl, pm, ?_⟩
      rintro d m ⟨rfl, rfl⟩
      refine ⟨rfl, ?_⟩
      dsimp only
      walk_at "WK"
      refine ⟨_, rfl, ?_⟩
      walk_at "WK"
      refine ⟨(toks ns, mN ns), rfl, pm, ?_⟩
      rintro d m ⟨rfl, rfl⟩
      refine ⟨rfl, ?_⟩
      dsimp only
      walk_at "WK"
      refine ⟨_, rfl, ?_⟩
      walk_at "WK"
      refine ⟨fun c1 => ?_, fun c1 => ?_⟩
      · have c1' := of_decide_eq_false c1
        walk_at "WK"
        rw [ttx_len, toks_len]
        refine rw_mI (wide_mul (a := 3) (b := 10) (by decide) (by omega) (by decide) (by decide) (by decide)) ?_
        walk_at "WK"
        first | exact ⟨rfl, decide_eq_decide.mpr (by omega)⟩ | exact decide_eq_decide.mpr (by omega)
      · have c1' := of_decide_eq_true c1
        first | exact ⟨rfl, (decide_eq_true (by omega)).symm⟩ | exact (decide_eq_true (by omega)).symm
    · rintro b n' ⟨rfl, hb⟩
      refine ⟨fun c1 => ?_, fun c1 => ?_⟩
      · rw [hb] at c1
        have c2 := of_decide_eq_true c1
        have hmm : 2 ≤ mm := by
          by_cases q : mm = 1
          · subst q
            obtain ⟨r1, r2⟩ := raw_one hr
            unfold hiM at r1
            omega
          · omega
        walk_at "WK"
        refine rw_fdI (wide_div (b := 10) (by decide) (by decide) (by decide) (by decide)) ?_
        walk_at "WK"
        refine rw_fdI (wide_div (b := 10) (by decide) (by decide) (by decide) (by decide)) ?_
        walk_at "WK"
        obtain ⟨mo, hmo⟩ := Int.eq_ofNat_of_zero_le (show 0 ≤ (if (mm : Int) / 2 > 1 then (mm : Int) / 2 else 1) by split <;> omega)
        rw [hmo]
        have hmo2 : 1 ≤ mo ∧ mo < mm := by split at hmo <;> omega
        generalize hhi : (if hi / 2 > 2 then hi / 2 else 2) = hi2
        have hhi2 : 2 ≤ hi2 ∧ hi2 ≤ 90 := by rw [← hhi]; split <;> omega
        refine ⟨(2, mo, hi2), rfl, ⟨by dsimp only; omega, by dsimp only; omega, hmo2.1, by dsimp only; omega, hhi2.1, hhi2.2, by dsimp only; omega⟩, ?_⟩
        rintro _ m2 ⟨⟨ns2, rfl, hr2⟩, hm2⟩
        dsimp only at hr2 hm2
        refine ⟨rfl, rfl, mo, hmo2.2, ns2, mo, hi2, m2, rfl, hmo2.1, by omega, hhi2.1, hhi2.2, raw_up hr2 (by decide), ?_, rfl⟩
        have e : (21 - mo) * 10 ^ 10 = (21 - mo - 1) * 10 ^ 10 + 10 ^ 10 := by omega
        have e2 : (21 - mm) * 10 ^ 10 ≤ (21 - mo - 1) * 10 ^ 10 := Nat.mul_le_mul_right _ (by omega)
        omega
      · rw [hb] at c1
        have c2 := of_decide_eq_false c1
        refine ⟨ns, mm, hi, n', rfl, by omega, hr, ?_, by omega⟩
        unfold hiM
        omega
  · rintro e1 ⟨ns, mo, hi, m, rfl, h1, h2, h3, h4⟩
    walk_at "WK"
    exact ⟨⟨ns, rfl, h2.wf, h2.ne, h3, h4, h2.dp⟩, h1⟩
end
end Wx

/-! ### part R7 -/
set_option Elab.async false
set_option linter.all false
set_option maxRecDepth 100000
set_option maxHeartbeats 1000000
set_option autoImplicit false
namespace Wx
open PySem L2
theorem p6E : (10 : Int) ^ Int.toNat 6 = 1000000 := by decide +kernel

section
variable {P : Program} {w : World} {K : PySem.W.Frag} {mg : Str → Option Value} {base : Heap} {f C : Addr} {fd : FuncData}
abbrev sp__law_stack (K : PySem.W.Frag) : Sp := SpX (ι := Nat) K (fun x => [.kln, .py (.int (x : Int))]) (fun x n => x ≤ 100 ∧ n < 2 ^ 95) fun x n d m => (∃ xs : List Int, d = .py (.tuple (nums xs)) ∧ x ≤ xs.length ∧ xs.length ≤ 100 ∧ ∀ v ∈ xs, okX v) ∧ m ≤ n + 200
theorem ln__law_stack (x : Nat) : [D.kln, .py (.int (x : Int))].length = 2 := rfl
theorem nm__law_stack (x : Nat) : [D.kln, .py (.int (x : Int))].all D.nm = true := rfl
theorem sc__law_stack : FnScope ["bag", "many", "wide", "size", "k"] ["bag", "many"] (defScope (top 88)) := ⟨rfl, rfl, rfl, by decide +kernel, rfl, by decide +kernel, by decide +kernel⟩
theorem ok__law_stack (F : FnP K "_law_stack" "_law_stack" (top 88) f fd) (S__law_pick : Std P w K mg base 1 "_law_pick" ["bag", "many"] (sp__law_pick K)) (g_min : mg "min" = none) (g_tuple : mg "tuple" = none) (g_range : mg "range" = none) : FnOk P w K mg base CX0 2 f fd ["bag", "many"] (sp__law_stack K) := by
  refine F.ok sc__law_stack (sx_len ln__law_stack) (fun cdv A outer s H vs Q E hr h => ?_)
  have nd := sc__law_stack.nd
  refine ⟨_, PSs.nox (pss_cons (ps_set (i := 2) nd rfl (Or.inr rfl) (pe_ix (ixK (K := K) rfl) (pe_lst (pa_cons (pe_int) (pa_cons (pe_op opPOW (pe_int) (pe_int)) (pa_cons (pe_op opPOW (pe_int) (pe_int)) (pa_nil))))) (pe_std S__law_pick hr rfl (pa_cons (pv 0) (pa_cons (pe_int) (pa_nil)))) (fun _ _ => rfl)))
 (pss_cons (ps_set (i := 3) nd rfl (Or.inl rfl) (pe_callB (callMIN2 rfl) rfl g_min bt_min (pa_cons (pe_int) (pa_cons (pe_op (addK (K := K) rfl) (pv 1) (pe_std S__law_pick hr rfl (pa_cons (pv 0) (pa_cons (pe_int) (pa_nil))))) (pa_nil)))))
 (pss_one (ps_ret (pe_callTy (tupK (K := K) rfl) rfl g_tuple bt_tuple (pa_cons (pe_lc (own := [("k", 4)]) rfl nd (pi_range1 rfl g_range (pa_cons (pv 3) (pa_nil))) (blkOk_by (N := ["bag", "many", "wide", "size", "k"]) (sc := (defScope (top 88))) (by decide +kernel)) (fun _ _ _ _ _ => pg_name (i := 4) nd rfl (Or.inl rfl) (.inr rfl)) (fun _ _ _ _ _ => pts_nil) (fun _ _ _ _ _ => pe_op op_sub (pe_std S__law_pick hr rfl (pa_cons (pv 0) (pa_cons (pv 2) (pa_nil)))) (pe_op op_fdivW (pv 2) (pe_int)))) (pa_nil))))))), ?_⟩
  refine body_x nm__law_stack ?_ vs H Q E h
  clear h hr
  intro c n x hK hp
  (subst hK)
  try clear S__law_pick g_min g_tuple g_range F
  obtain ⟨h1, hn⟩ : x ≤ 100 ∧ n < 2 ^ 95 := hp
  walk_at "WK"
  rw [p6E, p30E]
  refine ⟨_, rfl, by decide, by decide, by omega, fun r1 a1 b1 => ?_⟩
  walk_at "WK"
  obtain ⟨wide, ew, ww⟩ := at3 (fun v => 3 ≤ v ∧ v ≤ 10 ^ 30) (i := 3) (j := 1000000) (k := 10 ^ 30) (by decide) (by decide) (by decide) a1 b1
  refine ⟨_, ew, ?_⟩
  clear ew
  walk_at "WK"
  refine ⟨_, rfl, by decide, by decide, by omega, fun r2 a2 b2 => ?_⟩
  walk_at "WK"
  obtain ⟨sz, hsz⟩ := Int.eq_ofNat_of_zero_le (show 0 ≤ (if (x : Int) + r2 < 100 then (x : Int) + r2 else 100) by split <;> omega)
  have hsz2 : x ≤ sz ∧ sz ≤ 100 := by split at hsz <;> omega
  rw [hsz]
  refine wp_new (wn_lc (fun v hv => ?_) (wi_rng1 ?_))
  · have : v = 4 := by simpa using hv
    subst this
    exact Nat.le_of_ble_eq_true rfl
  walk_at "WK"
  refine ⟨by omega, by omega, fun i acc m' => m' = n + 2 + i ∧ ∃ xs : List Int, xs.length = i ∧ acc = nums xs ∧ ∀ v ∈ xs, okX v, ⟨rfl, [], rfl, rfl, fun _ z => nomatch z⟩, by rw [seqI_len]; omega, ?_, ?_⟩
  · rintro i acc m' d hd ⟨rfl, xs, hl, rfl, hc⟩
    obtain ⟨hi, rfl⟩ := seqI_of hd
    refine wg_name ⟨rfl, ?_⟩ (Nat.le_of_ble_eq_true rfl) (by decide)
    refine wt_yes ⟨fun _ => ?_, fun z => nomatch z⟩
    walk_at "WK"
    refine ⟨_, rfl, by omega, by omega, by (try dsimp only); omega, fun r a b => ?_⟩
    walk_at "WK"
    refine rw_fdI (wide_div (b := 10) (by decide) (by decide) (by decide) (by decide)) ?_
    walk_at "WK"
    refine ⟨xs ++ [r - wide / 2], by rw [List.length_append, hl]; rfl, by unfold nums; rw [List.map_append]; rfl, fun u hu => ?_⟩
    rcases List.mem_append.mp hu with q | q
    · exact hc u q
    · rw [List.mem_singleton.mp q]
      show -(10 ^ 30) ≤ r - wide / 2 ∧ r - wide / 2 ≤ 10 ^ 30
      omega
  rintro acc m' ⟨rfl, xs, hl, rfl, hc⟩
  rw [seqI_len] at hl ⊢
  walk_at "WK"
  exact ⟨⟨xs, rfl, by omega, by omega, hc⟩, by omega⟩
end
end Wx

/-! ### part S1 -/
set_option Elab.async false
set_option linter.all false
set_option maxRecDepth 100000
set_option maxHeartbeats 1000000
set_option autoImplicit false
namespace Wx
open PySem L2
theorem Str_assoc (a b c : Str) : a ++ b ++ c = a ++ (b ++ c) := by
  show (⟨(a.cps ++ b.cps) ++ c.cps⟩ : Str) = ⟨a.cps ++ (b.cps ++ c.cps)⟩
  rw [Array.append_assoc]
theorem join_app (s : Str) : ∀ {a b : List Str}, a ≠ [] → b ≠ [] → Str.join s (a ++ b) = Str.join s a ++ s ++ Str.join s b
  | [], _, h, _ => absurd rfl h
  | _, [], _, h => absurd rfl h
  | [x], y :: r, _, _ => rfl
  | x :: x2 :: r, y :: q, _, _ => by
    have ih := join_app s (a := x2 :: r) (b := y :: q) (fun z => nomatch z) (fun z => nomatch z)
    show x ++ s ++ Str.join s ((x2 :: r) ++ (y :: q)) = x ++ s ++ Str.join s (x2 :: r) ++ s ++ Str.join s (y :: q)
    rw [ih, Str_assoc (x ++ s) (Str.join s (x2 :: r)) s, Str_assoc (x ++ s) (Str.join s (x2 :: r) ++ s) _]
theorem joinT_app {a b : List Tk} (ha : a ≠ []) (hb : b ≠ []) : joinT (a ++ b) = joinT a ++ Str.ofString " " ++ joinT b := by
  unfold joinT
  rw [TL.join_eq, TL.join_eq, TL.join_eq, List.map_append]
  exact join_app _ (fun z => ha (List.map_eq_nil_iff.mp z)) (fun z => hb (List.map_eq_nil_iff.mp z))
theorem app_len (a b : Str) : (a ++ b).length = a.length + b.length := by
  show (a.cps ++ b.cps).size = _
  rw [Array.size_append]
  rfl
theorem joinT_one (t : Tk) : joinT [t] = t.tx := rfl
theorem toks_ne {ns : Ns} (h : ns ≠ .nil) : toks ns ≠ [] := by
  cases ns with
  | nil => exact absurd rfl h
  | dow w r => exact fun z => nomatch z
  | rep n b r => exact fun z => nomatch z
  | cho a b r => exact fun z => nomatch z
theorem joinT_rep {ns : Ns} (h : ns ≠ .nil) (k : Nat) : Str.ofString "( " ++ joinT (toks ns) ++ Str.ofString " )" ++ (toString ((k : Nat) : Int) : Str) = joinT (toks (.rep k ns .nil)) := by
  have e : toks (.rep k ns .nil) = [.op] ++ (toks ns ++ [.cl k]) := rfl
  have n1 : ([.op] : List Tk) ≠ [] := List.cons_ne_nil _ _
  have n2 : ([.cl k] : List Tk) ≠ [] := List.cons_ne_nil _ _
  have n3 : toks ns ++ [.cl k] ≠ [] := List.append_ne_nil_of_right_ne_nil _ n2
  rw [e, joinT_app n1 n3, joinT_app (toks_ne h) n2, joinT_one, joinT_one]
  have e1 : Str.ofString "( " = Tk.op.tx ++ Str.ofString " " := by decide +kernel
  have e2 : Str.ofString " )" = Str.ofString " " ++ Str.ofString ")" := by decide +kernel
  rw [e1, e2, ← cl_txI k]
  simp only [Str_assoc]
theorem op_ns : ∀ {ns : Ns} {ts : List Tk} {h f : Int}, wf0 ns → h ≤ f → opF (toks ns ++ ts) h f = opF ts h (mxI f (h + dpN ns))
  | .nil, ts, h, f, _, hf => by
    show opF ts h f = opF ts h (mxI f (h + ((0 : Nat) : Int)))
    congr 1
    unfold mxI
    split <;> omega
  | .dow w r, ts, h, f, hw, hf => by
    show opF (toks r ++ ts) (h + 0 - 0) (mxI f (h + 0 - 0)) = _
    rw [show h + 0 - 0 = h by omega, show mxI f h = f by unfold mxI; split <;> omega]
    exact op_ns (ns := r) hw.2 hf
  | .rep n b r, ts, h, f, hw, hf => by
    show opF ((toks b ++ .cl n :: toks r) ++ ts) (h + 1 - 0) (mxI f (h + 1 - 0)) = _
    have m1 : h + 1 - 0 ≤ mxI f (h + 1 - 0) := by unfold mxI; split <;> omega
    rw [List.append_assoc, op_ns (ns := b) hw.2.1 m1]
    show opF (toks r ++ ts) (h + 1 - 0 + 0 - 1) (mxI (mxI (mxI f (h + 1 - 0)) (h + 1 - 0 + dpN b)) (h + 1 - 0 + 0 - 1)) = _
    rw [show h + 1 - 0 + 0 - 1 = h by omega]
    have m2 : h ≤ mxI (mxI (mxI f (h + 1 - 0)) (h + 1 - 0 + dpN b)) h := by unfold mxI; (repeat' split) <;> omega
    rw [op_ns (ns := r) hw.2.2 m2]
    congr 1
    show _ = mxI f (h + ((max (1 + dpN b) (dpN r) : Nat) : Int))
    simp only [mxI_eq]
    omega
  | .cho _ _ _, _, _, _, hw, _ => hw.elim
theorem op_all {ns : Ns} (h : wf0 ns) : opN ns = dpN ns := by
  have := op_ns (ts := []) (h := 0) (f := 0) h (Int.le_refl _)
  rw [List.append_nil] at this
  unfold opN
  rw [this]
  show mxI 0 (0 + (dpN ns : Int)) = _
  rw [mxI_eq]
  omega

section
variable {P : Program} {w : World} {K : PySem.W.Frag} {mg : Str → Option Value} {base : Heap} {f C : Addr} {fd : FuncData}
abbrev sp_Program_rise (K : PySem.W.Frag) (C : Addr) : Sp := SpX (ι := Ns) K (fun ws => [progD C ws]) (fun _ _ => True) fun ws n d m => d = .py (.int (mN ws).2.1) ∧ m = n
theorem ln_Program_rise (ws : Ns) : [progD C ws].length = 1 := rfl
theorem nm_Program_rise (ws : Ns) : [progD C ws].all D.nm = true := rfl
theorem sc_Program_rise : FnScope ["self"] ["self"] (defScope (meth 40 3)) := ⟨rfl, rfl, rfl, by decide +kernel, rfl, by decide +kernel, by decide +kernel⟩
theorem ok_Program_rise (F : FnP K "rise" "Program.rise" (meth 40 3) f fd) (kc : KitC K C) (pa : PrA K C) (gP : mg "Program" = some (.ref C)) : FnOk P w K mg base CX0 1 f fd ["self"] (sp_Program_rise K C) := by
  refine F.ok sc_Program_rise (sx_len ln_Program_rise) (fun cdv A outer s H vs Q E hr h => ?_)
  have nd := sc_Program_rise.nd
  refine ⟨_, PSs.nox (pss_one (ps_ret (pe_fld (pv 0) rfl))), ?_⟩
  refine body_x nm_Program_rise ?_ vs H Q E h
  clear h hr
  intro c n x hK hp
  (subst hK)
  try clear F
  walk_at "WK"
  exact ⟨C, _, _, rfl, kc.cl, pa.a5, rfl, rfl, rfl⟩
abbrev sp_joined_text (K : PySem.W.Frag) : Sp := SpX (ι := Ns × Ns) K (fun x => [.py (.str (joinT (toks x.1))), .py (.str (joinT (toks x.2)))]) (fun x _ => x.1 ≠ .nil ∧ x.2 ≠ .nil ∧ wf0 x.1 ∧ wf0 x.2 ∧ tkN x.1 ≤ 1000 ∧ tkN x.2 ≤ 1000) fun x n d m => d = .py (.str (joinT (toks (appN x.1 x.2)))) ∧ m = n
theorem ln_joined_text (x : Ns × Ns) : [D.py (.str (joinT (toks x.1))), .py (.str (joinT (toks x.2)))].length = 2 := rfl
theorem nm_joined_text (x : Ns × Ns) : [D.py (.str (joinT (toks x.1))), .py (.str (joinT (toks x.2)))].all D.nm = true := rfl
theorem sc_joined_text : FnScope ["text", "other"] ["text", "other"] (defScope (top 39)) := ⟨rfl, rfl, rfl, by decide +kernel, rfl, by decide +kernel, by decide +kernel⟩
theorem ok_joined_text (F : FnP K "joined_text" "joined_text" (top 39) f fd)  : FnOk P w K mg base CX0 1 f fd ["text", "other"] (sp_joined_text K) := by
  refine F.ok sc_joined_text (sx_len ln_joined_text) (fun cdv A outer s H vs Q E hr h => ?_)
  have nd := sc_joined_text.nd
  refine ⟨_, PSs.nox (pss_one (ps_ret (pe_ifExp (pt_cmpR (inK (K := K) rfl (room65 hr)) (pe_str) (pe_lst (pa_cons (pv 0) (pa_cons (pv 1) (pa_nil)))) (by rfl)) (pe_op (addK (K := K) rfl) (pv 0) (pv 1)) (pe_op (addK (K := K) rfl) (pe_op (addK (K := K) rfl) (pv 0) (pe_str)) (pv 1))))), ?_⟩
  refine body_x nm_joined_text ?_ vs H Q E h
  clear h hr
  intro c n x hK hp
  (subst hK)
  try clear F
  obtain ⟨a, b⟩ := x
  obtain ⟨h1, h2, h3, h4, h5, h6⟩ : a ≠ .nil ∧ b ≠ .nil ∧ wf0 a ∧ wf0 b ∧ tkN a ≤ 1000 ∧ tkN b ≤ 1000 := hp
  have la := joinT_len (wf0_tok h3)
  have lb := joinT_len (wf0_tok h4)
  rw [toks_len] at la lb
  have hs : (1000000 : Nat) ≤ sizeLine := by rw [sizeLine_eq]; decide
  dsimp only
  walk_at "WK"
  refine ⟨by decide +kernel, by simp [SeqAt.shaped, PyData.canLay0, PyData.canLayAll0, PyData.depth, PyData.depthAll, joinT_ok], ?_⟩
  have key : Mem (.str (Str.ofString "")) [.str (joinT (toks a)), .str (joinT (toks b))] = false := by
    unfold Mem
    simp only [List.any_cons, List.any_nil, eqv_strD, Bool.or_false]
    rw [decide_eq_false (joinT_ne (toks_ne h1)), decide_eq_false (joinT_ne (toks_ne h2))]
    rfl
  rw [key]
  walk_at "WK"
  refine ⟨fun z => (nomatch z), fun _ => ?_⟩
  walk_at "WK"
  have l1 : (Str.ofString " ").length = 1 := by decide +kernel
  refine ⟨by rw [l1]; omega, ?_⟩
  walk_at "WK"
  refine ⟨?_, ?_⟩
  · rw [app_len, l1]
    omega
  rw [toks_app, joinT_app (toks_ne h1) (toks_ne h2)]
  exact ⟨rfl, rfl⟩
abbrev sp_Program___add__ (K : PySem.W.Frag) (C : Addr) : Sp := SpX (ι := Ns × Ns) K (fun x => [progD C x.1, progD C x.2]) (fun x _ => x.1 ≠ .nil ∧ x.2 ≠ .nil ∧ wf0 x.1 ∧ wf0 x.2 ∧ okNs (appN x.1 x.2)) fun x n d m => d = progD C (appN x.1 x.2) ∧ m = n
theorem ln_Program___add__ (x : Ns × Ns) : [progD C x.1, progD C x.2].length = 2 := rfl
theorem nm_Program___add__ (x : Ns × Ns) : [progD C x.1, progD C x.2].all D.nm = true := rfl
theorem sc_Program___add__ : FnScope ["self", "other"] ["self", "other"] (defScope (meth 40 10)) := ⟨rfl, rfl, rfl, by decide +kernel, rfl, by decide +kernel, by decide +kernel⟩
theorem ok_Program___add__ (F : FnP K "__add__" "Program.__add__" (meth 40 10) f fd) (g_isinstance : mg "isinstance" = none) (i_MOST_WORDS : GInt mg "MOST_WORDS" 1000) (g_len : mg "len" = none) (S_joined_text : Std P w K mg base 1 "joined_text" ["text", "other"] (sp_joined_text K)) (kc : KitC K C) (pa : PrA K C) (gP : mg "Program" = some (.ref C)) (I_Program : StdI P w K mg base 16 C (si_Program___init__ K C)) : FnOk P w K mg base CX0 19 f fd ["self", "other"] (sp_Program___add__ K C) := by
  refine F.ok sc_Program___add__ (sx_len ln_Program___add__) (fun cdv A outer s H vs Q E hr h => ?_)
  have nd := sc_Program___add__.nd
  refine ⟨_, PSs.nox (pss_cons (ps_if (pt_not (truK (K := K) rfl (pe_callB (isiK (K := K) rfl) rfl g_isinstance bt_isinstance (pa_cons (pv 1) (pa_cons (pe_glob (v := .ref C) rfl gP rfl) pa_nil))) (by intro _; rfl))) (pss_one (ps_never)) (pss_nil))
 (pss_cons (ps_if (pt_cmpR op_gt (pe_op (addK (K := K) rfl) (pe_callB (lenK (K := K) rfl) rfl g_len PySem.boot_len (pa_cons (pe_fld (pv 0) rfl) (pa_nil))) (pe_callB (lenK (K := K) rfl) rfl g_len PySem.boot_len (pa_cons (pe_fld (pv 1) rfl) (pa_nil)))) (pe_gint i_MOST_WORDS rfl) (nomark _)) (pss_one (ps_never)) (pss_nil))
 (pss_one (ps_ret (pe_makeS I_Program gP (hr.mono (by decide)) rfl (pa_cons (pe_std S_joined_text (hr.mono (by decide)) rfl (pa_cons (pe_fld (pv 0) rfl) (pa_cons (pe_fld (pv 1) rfl) (pa_nil)))) (pa_nil))))))), ?_⟩
  refine body_x nm_Program___add__ ?_ vs H Q E h
  clear h hr
  intro c n x hK hp
  (subst hK)
  try clear g_isinstance i_MOST_WORDS g_len S_joined_text I_Program F
  obtain ⟨a, b⟩ := x
  obtain ⟨h1, h2, h3, h4, h5⟩ : a ≠ .nil ∧ b ≠ .nil ∧ wf0 a ∧ wf0 b ∧ okNs (appN a b) := hp
  have ht := h5.2.2.1
  rw [tkN_app] at ht
  dsimp only
  walk_at "WK"
  refine cw_isiC rfl (ty2_i kc) kc.me ?_
  walk_at "WK"
  refine ⟨fun z => (nomatch z), fun _ => ?_⟩
  walk_at "WK"
  refine ⟨C, _, _, rfl, kc.cl, pa.a2, rfl, ?_⟩
  walk_at "WK"
  refine ⟨C, _, _, rfl, kc.cl, pa.a2, rfl, ?_⟩
  walk_at "WK"
  rw [ttx_len, toks_len, ttx_len, toks_len, decide_eq_false (by omega)]
  refine ⟨fun z => (nomatch z), fun _ => ?_⟩
  walk_at "WK"
  refine ⟨C, _, _, rfl, kc.cl, pa.a1, rfl, ?_⟩
  walk_at "WK"
  refine ⟨C, _, _, rfl, kc.cl, pa.a1, rfl, ?_⟩
  walk_at "WK"
  refine ⟨(a, b), rfl, ⟨h1, h2, h3, h4, by dsimp only; omega, by dsimp only; omega⟩, ?_⟩
  rintro d m ⟨rfl, rfl⟩
  refine ⟨rfl, ?_⟩
  walk_at "WK"
  refine ⟨appN a b, rfl, h5, ?_⟩
  exact ⟨rfl, rfl⟩
abbrev sp_Program___mul__ (K : PySem.W.Frag) (C : Addr) : Sp := SpX (ι := Ns × Nat) K (fun x => [progD C x.1, .py (.int (x.2 : Int))]) (fun x _ => x.1 ≠ .nil ∧ wf0 x.1 ∧ 2 ≤ x.2 ∧ x.2 ≤ 10 ^ 30 ∧ okNs (.rep x.2 x.1 .nil)) fun x n d m => d = progD C (.rep x.2 x.1 .nil) ∧ m = n
theorem ln_Program___mul__ (x : Ns × Nat) : [progD C x.1, .py (.int (x.2 : Int))].length = 2 := rfl
theorem nm_Program___mul__ (x : Ns × Nat) : [progD C x.1, .py (.int (x.2 : Int))].all D.nm = true := rfl
theorem sc_Program___mul__ : FnScope ["self", "times"] ["self", "times"] (defScope (meth 40 11)) := ⟨rfl, rfl, rfl, by decide +kernel, rfl, by decide +kernel, by decide +kernel⟩
theorem ok_Program___mul__ (F : FnP K "__mul__" "Program.__mul__" (meth 40 11) f fd) (S_in_range : Std P w K mg base 2 "in_range" ["value", "low", "high"] (sp_in_range K)) (i_MOST_TIMES : GInt mg "MOST_TIMES" (10 ^ 30)) (i_MOST_WORDS : GInt mg "MOST_WORDS" 1000) (g_len : mg "len" = none) (i_MOST_OPEN : GInt mg "MOST_OPEN" 12) (g_str : mg "str" = none) (kc : KitC K C) (pa : PrA K C) (gP : mg "Program" = some (.ref C)) (I_Program : StdI P w K mg base 16 C (si_Program___init__ K C)) : FnOk P w K mg base CX0 19 f fd ["self", "times"] (sp_Program___mul__ K C) := by
  refine F.ok sc_Program___mul__ (sx_len ln_Program___mul__) (fun cdv A outer s H vs Q E hr h => ?_)
  have nd := sc_Program___mul__.nd
  refine ⟨_, PSs.nox (pss_cons (ps_if (pt_not (truK (K := K) rfl (pe_std S_in_range (hr.mono (by decide)) rfl (pa_cons (pv 1) (pa_cons (pe_int) (pa_cons (pe_gint i_MOST_TIMES rfl) (pa_nil))))) (by intro _; rfl))) (pss_one (ps_never)) (pss_nil))
 (pss_cons (ps_if (pt_cmpR (eqK (K := K) rfl (room64 hr)) (pv 1) (pe_int) (nomark _)) (pss_one (ps_ret (pe_makeS I_Program gP (hr.mono (by decide)) rfl (pa_cons (pe_str) (pa_nil))))) (pss_nil))
 (pss_cons (ps_if (PW.pt (pw_or (pt_cmpR (eqK (K := K) rfl (room64 hr)) (pv 1) (pe_int) (nomark _)) (pw_or1 (pt_cmpR (eqK (K := K) rfl (room64 hr)) (pe_fld (pv 0) rfl) (pe_str) (nomark _))))) (pss_one (ps_ret (pe_makeS I_Program gP (hr.mono (by decide)) rfl (pa_cons (pe_fld (pv 0) rfl) (pa_nil))))) (pss_nil))
 (pss_cons (ps_if (pt_cmpR op_gt (pe_op (addK (K := K) rfl) (pe_callB (lenK (K := K) rfl) rfl g_len PySem.boot_len (pa_cons (pe_fld (pv 0) rfl) (pa_nil))) (pe_int)) (pe_gint i_MOST_WORDS rfl) (nomark _)) (pss_one (ps_never)) (pss_nil))
 (pss_cons (ps_if (pt_cmpR op_gt (pe_op (addK (K := K) rfl) (pe_fld (pv 0) rfl) (pe_int)) (pe_gint i_MOST_OPEN rfl) (nomark _)) (pss_one (ps_never)) (pss_nil))
 (pss_one (ps_ret (pe_makeS I_Program gP (hr.mono (by decide)) rfl (pa_cons (pe_op (addK (K := K) rfl) (pe_op (addK (K := K) rfl) (pe_op (addK (K := K) rfl) (pe_str) (pe_fld (pv 0) rfl)) (pe_str)) (pe_callTy callSTR rfl g_str bt_str (pa_cons (pv 1) (pa_nil)))) (pa_nil)))))))))), ?_⟩
  refine body_x nm_Program___mul__ ?_ vs H Q E h
  clear h hr
  intro c n x hK hp
  (subst hK)
  try clear S_in_range i_MOST_TIMES i_MOST_WORDS g_len i_MOST_OPEN g_str I_Program F
  obtain ⟨a, k⟩ := x
  obtain ⟨h1, h3, k1, k2, h5⟩ : a ≠ .nil ∧ wf0 a ∧ 2 ≤ k ∧ k ≤ 10 ^ 30 ∧ okNs (.rep k a .nil) := hp
  have ht : 2 + tkN a + 0 ≤ 1000 := h5.2.2.1
  have hd : max (1 + dpN a) 0 ≤ 12 := h5.2.1
  have la := joinT_len (wf0_tok h3)
  rw [toks_len] at la
  have hs : (1000000 : Nat) ≤ sizeLine := by rw [sizeLine_eq]; decide
  dsimp only
  walk_at "WK"
  refine ⟨((k : Int), 0, 10 ^ 30), rfl, trivial, ?_⟩
  rintro d m ⟨rfl, rfl⟩
  refine ⟨rfl, ?_⟩
  rw [decide_eq_true (show (0 : Int) ≤ k ∧ (k : Int) ≤ 10 ^ 30 by omega)]
  refine ⟨fun z => (nomatch z), fun _ => ?_⟩
  walk_at "WK"
  rw [decide_eq_false (show ¬ (k : Int) = 0 by omega)]
  refine ⟨fun z => (nomatch z), fun _ => ?_⟩
  walk_at "WK"
  refine ⟨fun _ => ?_, fun z => absurd (of_decide_eq_true z) (by omega)⟩
  walk_at "WK"
  refine ⟨C, _, _, rfl, kc.cl, pa.a1, rfl, ?_⟩
  walk_at "WK"
  refine ⟨shp_str (joinT_ok _), by decide +kernel, ?_⟩
  rw [eqv_strD, decide_eq_false (joinT_ne (toks_ne h1))]
  refine ⟨fun z => (nomatch z), fun _ => ?_⟩
  walk_at "WK"
  refine ⟨C, _, _, rfl, kc.cl, pa.a2, rfl, ?_⟩
  walk_at "WK"
  rw [ttx_len, toks_len, decide_eq_false (by omega)]
  refine ⟨fun z => (nomatch z), fun _ => ?_⟩
  walk_at "WK"
  refine ⟨C, _, _, rfl, kc.cl, pa.a9, rfl, ?_⟩
  walk_at "WK"
  rw [show opF (toks a) 0 0 = dpN a from op_all h3, decide_eq_false (by omega)]
  refine ⟨fun z => (nomatch z), fun _ => ?_⟩
  walk_at "WK"
  refine ⟨C, _, _, rfl, kc.cl, pa.a1, rfl, ?_⟩
  walk_at "WK"
  have l1 : (Str.ofString "( ").length = 2 := by decide +kernel
  have l2 : (Str.ofString " )").length = 2 := by decide +kernel
  have lt := tx_len (v := (k : Int)) (by omega)
  refine ⟨by rw [l1]; omega, ?_⟩
  walk_at "WK"
  refine ⟨by rw [app_len, l1, l2]; omega, ?_⟩
  walk_at "WK"
  refine cw_str (one_mk ⟨(k : Int), rfl, log2_lt (by omega), ?_⟩)
  walk_at "WK"
  refine ⟨by rw [app_len, app_len, l1, l2]; omega, ?_⟩
  rw [joinT_rep h1]
  walk_at "WK"
  refine ⟨.rep k a .nil, rfl, h5, ?_⟩
  exact ⟨rfl, rfl⟩
end
end Wx

/-! ### part S2 -/
set_option Elab.async false
set_option linter.all false
set_option maxRecDepth 100000
set_option maxHeartbeats 1000000
set_option autoImplicit false
namespace Wx
open PySem L2
abbrev FnPK (kws : List (Str × V)) (K : PySem.W.Frag) (x qual : Str) (st : Stmt) (f : Addr) (fd : FuncData) : Prop := FunD K x qual (defArgs st) (defBody st) (defScope st) [] kws f fd

section
variable {P : Program} {w : World} {K : PySem.W.Frag} {mg : Str → Option Value} {base : Heap} {f C CP CT fI : Addr} {fd : FuncData}
abbrev efD (C : Addr) (ns : Ns) : D := effD C (prN ns).1 (prN ns).2
theorem efD_ok {ns : Ns} (h : okPl ns) : okE (prN ns).1 (prN ns).2 := okP_E (okP_N h.1.1 h.2 h.1.2.2.2) h.1.2.2.2
abbrev sp_effect_of (K : PySem.W.Frag) (C CP : Addr) : Sp := SpX (ι := Ns) K (fun x => [progD CP x, .py (.str (Str.ofString ""))]) (fun x _ => okPl x) fun x n d m => d = efD C x ∧ m = n
theorem ln_effect_of (x : Ns) : [progD CP x, .py (.str (Str.ofString ""))].length = 2 := rfl
theorem nm_effect_of (x : Ns) : [progD CP x, .py (.str (Str.ofString ""))].all D.nm = true := rfl
theorem sc_effect_of : FnScope ["program", "choices"] ["program", "choices"] (defScope (top 68)) := ⟨rfl, rfl, rfl, by decide +kernel, rfl, by decide +kernel, by decide +kernel⟩
theorem ok_effect_of (F : FnPK [("choices", V.str (Str.ofString ""))] K "effect_of" "effect_of" (top 68) f fd) (S_require_program : Std P w K mg base 1 "require_program" ["value"] (sp_require_program K CP)) (S_effect_from : Std P w K mg base 7 "effect_from" ["pair"] (sp_effect_from K C)) (S_chosen_pair : Std P w K mg base 43 "chosen_pair" ["program", "choices"] (sp_chosen_pair K CP)) (kp : KitC K CP) (pa : PrA K CP) (gP : mg "Program" = some (.ref CP)) : FnOk P w K mg base CX0 45 f fd ["program", "choices"] (sp_effect_of K C CP) := by
  refine F.ok sc_effect_of (sx_len ln_effect_of) (fun cdv A outer s H vs Q E hr h => ?_)
  have nd := sc_effect_of.nd
  refine ⟨_, PSs.nox (pss_cons (ps_expr (pe_std S_require_program (hr.mono (by decide)) rfl (pa_cons (pv 0) (pa_nil))))
 (pss_one (ps_ret (pe_std S_effect_from (hr.mono (by decide)) rfl (pa_cons (pe_std S_chosen_pair (hr.mono (by decide)) rfl (pa_cons (pv 0) (pa_cons (pv 1) (pa_nil)))) (pa_nil)))))), ?_⟩
  refine body_x nm_effect_of ?_ vs H Q E h
  clear h hr
  intro c n x hK hp
  (subst hK)
  try clear S_require_program S_effect_from S_chosen_pair F
  have h1 : okPl x := hp
  walk_at "WK"
  refine ⟨x, rfl, trivial, ?_⟩
  rintro d m ⟨rfl, rfl⟩
  refine ⟨rfl, ?_⟩
  walk_at "WK"
  refine ⟨x, rfl, h1, ?_⟩
  rintro d m ⟨rfl, rfl⟩
  refine ⟨rfl, ?_⟩
  walk_at "WK"
  refine ⟨prN x, rfl, efD_ok h1, ?_⟩
  rintro d m ⟨rfl, rfl⟩
  rw [prN_cut]
  exact ⟨rfl, rfl, rfl⟩
abbrev sp_require_height (K : PySem.W.Frag) (C : Addr) : Sp := SpX (ι := Ns × List Int) K (fun x => [progD C x.1, .py (.tuple (nums x.2))]) (fun x _ => (mN x.1).1 ≤ x.2.length) fun x n d m => d = .py .none ∧ m = n
theorem ln_require_height (x : Ns × List Int) : [progD CP x.1, .py (.tuple (nums x.2))].length = 2 := rfl
theorem nm_require_height (x : Ns × List Int) : [progD CP x.1, .py (.tuple (nums x.2))].all D.nm = true := rfl
theorem sc_require_height : FnScope ["program", "stack"] ["program", "stack"] (defScope (top 71)) := ⟨rfl, rfl, rfl, by decide +kernel, rfl, by decide +kernel, by decide +kernel⟩
theorem ok_require_height (F : FnP K "require_height" "require_height" (top 71) f fd) (g_len : mg "len" = none) (kp : KitC K CP) (pa : PrA K CP) (gP : mg "Program" = some (.ref CP)) (P_need : StdP P w K mg base 1 CP "need" (sp_Program_need K CP)) : FnOk P w K mg base CX0 3 f fd ["program", "stack"] (sp_require_height K CP) := by
  refine F.ok sc_require_height (sx_len ln_require_height) (fun cdv A outer s H vs Q E hr h => ?_)
  have nd := sc_require_height.nd
  refine ⟨_, PSs.nox (pss_one (ps_if (pt_cmpR op_lt (pe_callB (lenK (K := K) rfl) rfl g_len PySem.boot_len (pa_cons (pv 1) (pa_nil))) (pe_propS P_need kp.cl hr (pv 0) rfl) (nomark _)) (pss_one (ps_never)) (pss_nil))), ?_⟩
  refine body_x nm_require_height ?_ vs H Q E h
  clear h hr
  intro c n x hK hp
  (subst hK)
  try clear g_len P_need F
  obtain ⟨ns, xs⟩ := x
  have h1 : (mN ns).1 ≤ xs.length := hp
  have nl : (nums xs).length = xs.length := List.length_map _
  dsimp only
  walk_at "WK"
  refine ⟨progF ns, rfl, ns, rfl, trivial, ?_⟩
  rintro d m ⟨rfl, rfl⟩
  refine ⟨rfl, ?_⟩
  walk_at "WK"
  rw [nl, decide_eq_false (by omega)]
  refine ⟨fun z => (nomatch z), fun _ => ?_⟩
  walk_at "WK"
  first | exact ⟨rfl, rfl⟩ | rfl
abbrev spr_require_height (K : PySem.W.Frag) (C CT : Addr) : Sp := SpR (ι := Ns × List Int) K (fun x => [progD C x.1, .py (.tuple (nums x.2))]) (fun x _ => (x.2.length : Int) < (mN x.1).1) fun x n cl fs m => cl = CT ∧ fs = (some [(("least" : Str), PyData.int (mN x.1).1)] : XFs) ∧ m = n
theorem lnr_require_height (x : Ns × List Int) : [progD CP x.1, .py (.tuple (nums x.2))].length = 2 := rfl
theorem nmr_require_height (x : Ns × List Int) : [progD CP x.1, .py (.tuple (nums x.2))].all D.nm = true := rfl
theorem okr_require_height (F : FnP K "require_height" "require_height" (top 71) f fd) (g_len : mg "len" = none) (kp : KitC K CP) (pa : PrA K CP) (gP : mg "Program" = some (.ref CP)) (P_need : StdP P w K mg base 1 CP "need" (sp_Program_need K CP)) (TH : PySem.XShortStack.TxtShortStack K mg CT fI) : FnOk P w K mg base (L2.CX P w) 3 f fd ["program", "stack"] (spr_require_height K CP CT) := by
  refine F.ok sc_require_height (sr_len lnr_require_height) (fun cdv A outer s H vs Q E hr h => ?_)
  have nd := sc_require_height.nd
  have tk : Takes (cxOf (L2.CX P w) P w K mg base ["program", "stack"] "require_height" (defScope (top 71)) f cdv A outer s H E) (fun cls d _ H => E cls d H) := takes_of rfl rfl rfl rfl
  refine ⟨_, (pss_one (ps_if (pt_cmpR op_lt (pe_callB (lenK (K := K) rfl) rfl g_len PySem.boot_len (pa_cons (pv 1) (pa_nil))) (pe_propS P_need kp.cl hr (pv 0) rfl) (nomark _)) (pss_one (ps_raiseShortStack rfl TH hr tk (pa_cons (pe_propS P_need kp.cl hr (pv 0) rfl) (pa_nil)))) (pss_nil))), ?_⟩
  refine body_r nmr_require_height ?_ vs H Q h
  clear h hr tk
  intro c n x hK hp
  (subst hK)
  try clear g_len P_need F
  obtain ⟨ns, xs⟩ := x
  have h1 : (xs.length : Int) < (mN ns).1 := hp
  have nl : (nums xs).length = xs.length := List.length_map _
  dsimp only
  refine wr_if ?_
  walk_at "WK"
  refine ⟨progF ns, rfl, ns, rfl, trivial, ?_⟩
  rintro d m ⟨rfl, rfl⟩
  refine ⟨rfl, ?_⟩
  walk_at "WK"
  rw [nl, decide_eq_true (by omega)]
  refine ⟨fun _ => ?_, fun z => (nomatch z)⟩
  refine wr_raiseShortStack ?_
  walk_at "WK"
  refine ⟨progF ns, rfl, ns, rfl, trivial, ?_⟩
  rintro d m ⟨rfl, rfl⟩
  refine ⟨rfl, ?_⟩
  walk_at "WK"
  exact ⟨_, rfl, rfl, rfl, rfl⟩
def runS (ns : Ns) (xs : List Int) : List Int := putS (prN ns).1 (prN ns).2 xs
abbrev sp_run_ (K : PySem.W.Frag) (C : Addr) : Sp := SpX (ι := Ns × List Int) K (fun x => [progD C x.1, .py (.tuple (nums x.2)), .py (.str (Str.ofString ""))]) (fun x _ => okPl x.1 ∧ (mN x.1).1 ≤ x.2.length ∧ x.2.length ≤ 100 ∧ ∀ v ∈ x.2, okX v) fun x n d m => d = .py (.tuple (nums (runS x.1 x.2))) ∧ m = n
theorem ln_run_ (x : Ns × List Int) : [progD CP x.1, .py (.tuple (nums x.2)), .py (.str (Str.ofString ""))].length = 3 := rfl
theorem nm_run_ (x : Ns × List Int) : [progD CP x.1, .py (.tuple (nums x.2)), .py (.str (Str.ofString ""))].all D.nm = true := rfl
theorem sc_run_ : FnScope ["program", "stack", "choices"] ["program", "stack", "choices"] (defScope (top 72)) := ⟨rfl, rfl, rfl, by decide +kernel, rfl, by decide +kernel, by decide +kernel⟩
theorem ok_run_ (F : FnPK [("choices", V.str (Str.ofString ""))] K "run" "run" (top 72) f fd) (S_require_program : Std P w K mg base 1 "require_program" ["value"] (sp_require_program K CP)) (S_require_stack : Std P w K mg base 5 "require_stack" ["value"] (sp_require_stack K)) (S_require_height : Std P w K mg base 3 "require_height" ["program", "stack"] (sp_require_height K CP)) (S_after_pair : Std P w K mg base 1 "after_pair" ["pair", "cells"] (sp_after_pair K)) (S_chosen_pair : Std P w K mg base 43 "chosen_pair" ["program", "choices"] (sp_chosen_pair K CP)) (kp : KitC K CP) (pa : PrA K CP) (gP : mg "Program" = some (.ref CP)) : FnOk P w K mg base CX0 46 f fd ["program", "stack", "choices"] (sp_run_ K CP) := by
  refine F.ok sc_run_ (sx_len ln_run_) (fun cdv A outer s H vs Q E hr h => ?_)
  have nd := sc_run_.nd
  refine ⟨_, PSs.nox (pss_cons (ps_expr (pe_std S_require_program (hr.mono (by decide)) rfl (pa_cons (pv 0) (pa_nil))))
 (pss_cons (ps_expr (pe_std S_require_stack (hr.mono (by decide)) rfl (pa_cons (pv 1) (pa_nil))))
 (pss_cons (ps_expr (pe_std S_require_height (hr.mono (by decide)) rfl (pa_cons (pv 0) (pa_cons (pv 1) (pa_nil)))))
 (pss_one (ps_ret (pe_std S_after_pair (hr.mono (by decide)) rfl (pa_cons (pe_std S_chosen_pair (hr.mono (by decide)) rfl (pa_cons (pv 0) (pa_cons (pv 2) (pa_nil)))) (pa_cons (pv 1) (pa_nil))))))))), ?_⟩
  refine body_x nm_run_ ?_ vs H Q E h
  clear h hr
  intro c n x hK hp
  (subst hK)
  try clear S_require_program S_require_stack S_require_height S_after_pair S_chosen_pair F
  obtain ⟨ns, xs⟩ := x
  obtain ⟨h1, h2, h3, h4⟩ : okPl ns ∧ (mN ns).1 ≤ xs.length ∧ xs.length ≤ 100 ∧ ∀ v ∈ xs, okX v := hp
  have hP := okP_N h1.1.1 h1.2 h1.1.2.2.2
  dsimp only
  walk_at "WK"
  refine ⟨ns, rfl, trivial, ?_⟩
  rintro d m ⟨rfl, rfl⟩
  refine ⟨rfl, ?_⟩
  walk_at "WK"
  refine ⟨xs, rfl, ⟨h3, h4⟩, ?_⟩
  rintro d m ⟨rfl, rfl⟩
  refine ⟨rfl, ?_⟩
  walk_at "WK"
  refine ⟨(ns, xs), rfl, h2, ?_⟩
  rintro d m ⟨rfl, rfl⟩
  refine ⟨rfl, ?_⟩
  walk_at "WK"
  refine ⟨ns, rfl, h1, ?_⟩
  rintro d m ⟨rfl, rfl⟩
  refine ⟨rfl, ?_⟩
  walk_at "WK"
  refine ⟨((prN ns).1, (prN ns).2, xs), rfl, ⟨efD_ok h1, Int.le_trans hP.2.2.1 h2, Nat.le_trans h3 (by decide)⟩, ?_⟩
  rintro d m ⟨rfl, rfl⟩
  exact ⟨rfl, rfl, rfl⟩
abbrev spr_run_ (K : PySem.W.Frag) (C CT : Addr) : Sp := SpR (ι := Ns × List Int) K (fun x => [progD C x.1, .py (.tuple (nums x.2)), .py (.str (Str.ofString ""))]) (fun x _ => (x.2.length : Int) < (mN x.1).1 ∧ x.2.length ≤ 100 ∧ ∀ v ∈ x.2, okX v) fun x n cl fs m => cl = CT ∧ fs = (some [(("least" : Str), PyData.int (mN x.1).1)] : XFs) ∧ m = n
theorem lnr_run_ (x : Ns × List Int) : [progD CP x.1, .py (.tuple (nums x.2)), .py (.str (Str.ofString ""))].length = 3 := rfl
theorem nmr_run_ (x : Ns × List Int) : [progD CP x.1, .py (.tuple (nums x.2)), .py (.str (Str.ofString ""))].all D.nm = true := rfl
theorem okr_run_ (F : FnPK [("choices", V.str (Str.ofString ""))] K "run" "run" (top 72) f fd) (S_require_program : Std P w K mg base 1 "require_program" ["value"] (sp_require_program K CP)) (S_require_stack : Std P w K mg base 5 "require_stack" ["value"] (sp_require_stack K)) (R_require_height : StdE P w K mg base 3 "require_height" ["program", "stack"] (spr_require_height K CP CT)) (S_after_pair : Std P w K mg base 1 "after_pair" ["pair", "cells"] (sp_after_pair K)) (S_chosen_pair : Std P w K mg base 43 "chosen_pair" ["program", "choices"] (sp_chosen_pair K CP)) (kp : KitC K CP) (pa : PrA K CP) (gP : mg "Program" = some (.ref CP)) : FnOk P w K mg base (L2.CX P w) 46 f fd ["program", "stack", "choices"] (spr_run_ K CP CT) := by
  refine F.ok sc_run_ (sr_len lnr_run_) (fun cdv A outer s H vs Q E hr h => ?_)
  have nd := sc_run_.nd
  have tk : Takes (cxOf (L2.CX P w) P w K mg base ["program", "stack", "choices"] "run" (defScope (top 72)) f cdv A outer s H E) (fun cls d _ H => E cls d H) := takes_of rfl rfl rfl rfl
  refine ⟨_, (pss_cons (ps_expr (pe_std S_require_program (hr.mono (by decide)) rfl (pa_cons (pv 0) (pa_nil))))
 (pss_cons (ps_expr (pe_std S_require_stack (hr.mono (by decide)) rfl (pa_cons (pv 1) (pa_nil))))
 (pss_cons (ps_expr (pe_stdE R_require_height (hr.mono (by decide)) tk rfl (pa_cons (pv 0) (pa_cons (pv 1) (pa_nil)))))
 (pss_one (ps_ret (pe_std S_after_pair (hr.mono (by decide)) rfl (pa_cons (pe_std S_chosen_pair (hr.mono (by decide)) rfl (pa_cons (pv 0) (pa_cons (pv 2) (pa_nil)))) (pa_cons (pv 1) (pa_nil))))))))), ?_⟩
  refine body_r nmr_run_ ?_ vs H Q h
  clear h hr tk
  intro c n x hK hp
  (subst hK)
  try clear S_require_program S_require_stack R_require_height S_after_pair S_chosen_pair F
  obtain ⟨ns, xs⟩ := x
  obtain ⟨h2, h3, h4⟩ : (xs.length : Int) < (mN ns).1 ∧ xs.length ≤ 100 ∧ ∀ v ∈ xs, okX v := hp
  dsimp only
  refine wr_seq2 ?_
  walk_at "WK"
  refine ⟨ns, rfl, trivial, ?_⟩
  rintro d m ⟨rfl, rfl⟩
  refine ⟨rfl, ?_⟩
  refine wr_seq2 ?_
  walk_at "WK"
  refine ⟨xs, rfl, ⟨h3, h4⟩, ?_⟩
  rintro d m ⟨rfl, rfl⟩
  refine ⟨rfl, ?_⟩
  refine wr_seq1 (wr_drop (wq_callE rfl ?_))
  walk_at "WK"
  refine ⟨(ns, xs), rfl, h2, ?_⟩
  rintro cl fs m ⟨rfl, rfl, rfl⟩
  exact ⟨rfl, rfl, rfl⟩
end
end Wx

/-! ### part Q1 -/
set_option Elab.async false
set_option linter.all false
set_option maxRecDepth 100000
set_option maxHeartbeats 1000000
set_option autoImplicit false
/-! What an effect does to a stack; programs one behind the other, and many times. -/
namespace Wx
open PySem L2
theorem put_length {t : Int} {l : List Src} {xs : List Int} (h0 : 0 ≤ t) (h : t ≤ xs.length) : ((putS t l xs).length : Int) = xs.length - t + l.length := by
  unfold putS
  rw [List.length_append, List.length_take, List.length_map]
  omega
theorem put_at {t : Int} {l : List Src} {xs : List Int} {d : Int} (h0 : 0 ≤ t) (h : t ≤ xs.length) (d0 : 0 ≤ d) (d1 : d < xs.length - t + l.length) : (putS t l xs)[((xs.length : Int) - t + l.length - 1 - d).toNat]? = some (valS xs (srcAt t l d)) := by
  have hk : (xs.take ((xs.length : Int) - t).toNat).length = ((xs.length : Int) - t).toNat := by rw [List.length_take]; omega
  unfold putS
  by_cases q : d < l.length
  · rw [List.getElem?_append_right (by omega), hk, List.getElem?_map]
    have e : ((xs.length : Int) - t + l.length - 1 - d).toNat - ((xs.length : Int) - t).toNat = ((l.length : Int) - 1 - d).toNat := by omega
    have hi : ((l.length : Int) - 1 - d).toNat < l.length := by omega
    rw [e, List.getElem?_eq_getElem hi]
    have y := srcAt_get (t := t) hi
    have e2 : (l.length : Int) - 1 - ((((l.length : Int) - 1 - d).toNat : Nat) : Int) = d := by omega
    rw [e2] at y
    rw [y]
    rfl
  · rw [List.getElem?_append_left (by omega), srcAt_far (by omega), List.getElem?_take_of_lt (by omega)]
    have e : ((xs.length : Int) - t + l.length - 1 - d).toNat = ((xs.length : Int) - 1 - (d + t - l.length)).toNat := by omega
    have hi : ((xs.length : Int) - 1 - (d + t - l.length)).toNat < xs.length := by omega
    rw [e, List.getElem?_eq_getElem hi]
    show _ = some ((xs[((xs.length : Int) - 1 - (d + t - l.length)).toNat]?).getD 0)
    rw [List.getElem?_eq_getElem hi, Option.getD_some]

theorem put_ext {t t' : Int} {l l' : List Src} {xs : List Int} {ys : List Int} (h0 : 0 ≤ t) (h : t ≤ xs.length) (hl : (ys.length : Int) = xs.length - t + l.length) (hy : ∀ d : Int, 0 ≤ d → d < ys.length → ys[((ys.length : Int) - 1 - d).toNat]? = some (valS xs (srcAt t l d))) : ys = putS t l xs := by
  have hp := put_length (l := l) h0 h
  refine List.ext_getElem? fun i => ?_
  by_cases hi : i < ys.length
  · have a := hy ((ys.length : Int) - 1 - i) (by omega) (by omega)
    have b := put_at (l := l) (d := (ys.length : Int) - 1 - i) h0 h (by omega) (by omega)
    have e1 : ((ys.length : Int) - 1 - ((ys.length : Int) - 1 - (i : Int))).toNat = i := by omega
    have e2 : ((xs.length : Int) - t + l.length - 1 - ((ys.length : Int) - 1 - (i : Int))).toNat = i := by omega
    rw [e1] at a
    rw [e2] at b
    rw [a, b]
  · rw [List.getElem?_eq_none_iff.mpr (by omega), List.getElem?_eq_none_iff.mpr (by omega)]
/-- what two representations of one effect do -/
theorem put_same {t t' : Int} {l l' : List Src} {xs : List Int} (h0 : 0 ≤ t) (h : t ≤ xs.length) (h0' : 0 ≤ t') (h' : t' ≤ xs.length) (hg : (l.length : Int) - t = l'.length - t') (hs : ∀ d, 0 ≤ d → srcAt t l d = srcAt t' l' d) : putS t l xs = putS t' l' xs := by
  have hp := put_length (l := l) h0 h
  refine put_ext (t' := t') (l' := l') h0' h' (by omega) fun d d0 d1 => ?_
  have b := put_at (l := l) (d := d) h0 h d0 (by omega)
  rw [← hs d d0, ← b]
  congr 2
  omega
/-- one after the other is both at once -/
theorem put_put {t1 t2 : Int} {l1 l2 : List Src} {xs : List Int} (o1 : okE t1 l1) (o2 : okE t2 l2) (h1 : t1 ≤ xs.length) (h2 : t2 ≤ (putS t1 l1 xs).length) : putS t2 l2 (putS t1 l1 xs) = putS (jTake t1 l1 t2) (jAll t1 l1 t2 l2) xs := by
  have p1 := put_length (l := l1) o1.1 h1
  have p2 := put_length (l := l2) o2.1 h2
  have hm : 0 ≤ jMore l1 t2 := by unfold jMore; split <;> omega
  have hj : (((l2.length : Int) + jMore l1 t2).toNat : Int) = (l2.length : Int) + jMore l1 t2 := by omega
  have hT : 0 ≤ jTake t1 l1 t2 ∧ jTake t1 l1 t2 ≤ xs.length := by have := o1.1; unfold jTake; split <;> omega
  have hJ : ((jAll t1 l1 t2 l2).length : Int) = (l2.length : Int) + jMore l1 t2 := by unfold jAll; rw [jLeft_len, hj]
  have hg : (xs.length : Int) - t1 + l1.length - t2 + l2.length = xs.length - jTake t1 l1 t2 + ((l2.length : Int) + jMore l1 t2) := by
    unfold jTake jMore
    split <;> split <;> omega
  refine put_ext (t' := t1) (l' := l1) hT.1 hT.2 ?_ fun d d0 d1 => ?_
  · rw [hJ, p2, p1]
    omega
  · have b := put_at (l := l2) (xs := putS t1 l1 xs) (d := d) o2.1 h2 d0 (by omega)
    have e : (((putS t2 l2 (putS t1 l1 xs)).length : Int) - 1 - d).toNat = (((putS t1 l1 xs).length : Int) - t2 + l2.length - 1 - d).toNat := by omega
    rw [e, b, srcAt_jAll d0]
    congr 1
    cases z : srcAt t2 l2 d with
    | lit v => rfl
    | inp q =>
      have q0 : 0 ≤ q ∧ q < (putS t1 l1 xs).length := by
        unfold srcAt at z
        split at z
        · cases y : l2[((l2.length : Int) - 1 - d).toNat]? with
          | none =>
            have := List.getElem?_eq_none_iff.mp y
            omega
          | some s =>
            rw [y] at z
            have o := o2.2.2.2 s (List.mem_of_getElem? y)
            rw [show s = .inp q from z] at o
            have o' : 0 ≤ q ∧ q < t2 := o
            omega
        · have := Src.inp.inj z
          have := o2.1
          omega
      have c := put_at (l := l1) (d := q) o1.1 h1 q0.1 (by omega)
      have e3 : (((putS t1 l1 xs).length : Int) - 1 - q).toNat = ((xs.length : Int) - t1 + l1.length - 1 - q).toNat := by omega
      show ((putS t1 l1 xs)[(((putS t1 l1 xs).length : Int) - 1 - q).toNat]?).getD 0 = valS xs (srcAt t1 l1 q)
      rw [e3, c, Option.getD_some]
end Wx

/-! ### part Q2 -/
set_option Elab.async false
set_option linter.all false
set_option maxRecDepth 100000
set_option maxHeartbeats 1000000
set_option autoImplicit false
namespace Wx
open PySem L2
/-! ## measures put together -/
theorem joinM_assoc (a b c : M3) : joinM (joinM a b) c = joinM a (joinM b c) := by
  obtain ⟨a1, a2, a3⟩ := a
  obtain ⟨b1, b2, b3⟩ := b
  obtain ⟨c1, c2, c3⟩ := c
  unfold joinM
  simp only [mxI_eq]
  refine Prod.ext ?_ (Prod.ext ?_ ?_)
  · show max (max a1 (b1 - a3)) (c1 - (a3 + b3)) = max a1 (max b1 (c1 - b3) - a3); omega
  · show max (max a2 (a3 + b2)) (a3 + b3 + c2) = max a2 (a3 + max b2 (b3 + c2)); omega
  · show a3 + b3 + c3 = a3 + (b3 + c3); omega
theorem joinM_zero {a : M3} (h : okMs a) : joinM a (0, 0, 0) = a := by
  obtain ⟨a1, a2, a3⟩ := a
  obtain ⟨h1, h2, h3, h4⟩ : 0 ≤ a1 ∧ 0 ≤ a2 ∧ -a1 ≤ a3 ∧ a3 ≤ a2 := h
  unfold joinM
  simp only [mxI_eq]
  refine Prod.ext ?_ (Prod.ext ?_ ?_)
  · show max a1 (0 - a3) = a1; omega
  · show max a2 (a3 + 0) = a2; omega
  · show a3 + 0 = a3; omega
theorem zero_joinM {a : M3} (h : okMs a) : joinM (0, 0, 0) a = a := by
  obtain ⟨a1, a2, a3⟩ := a
  obtain ⟨h1, h2, h3, h4⟩ : 0 ≤ a1 ∧ 0 ≤ a2 ∧ -a1 ≤ a3 ∧ a3 ≤ a2 := h
  unfold joinM
  simp only [mxI_eq]
  refine Prod.ext ?_ (Prod.ext ?_ ?_)
  · show max 0 (a1 - 0) = a1; omega
  · show max 0 (0 + a2) = a2; omega
  · show 0 + a3 = a3; omega
theorem mA_join : ∀ {ns : Ns} {m : M3}, wfN ns → plainN ns = true → okMs m → mA m ns = joinM m (mN ns)
  | .nil, m, _, _, h => (joinM_zero h).symm
  | .dow w r, m, hw, hp, h => by
    have o1 := okMs_w w
    show mA (joinM m (mW w)) r = joinM m (mA (joinM (0, 0, 0) (mW w)) r)
    rw [mA_join (ns := r) hw.2 hp (okMs_join h o1), zero_joinM o1, mA_join (ns := r) hw.2 hp o1, joinM_assoc]
  | .rep n b r, m, hw, hp, h => by
    have hp' : (plainN b && plainN r) = true := hp
    rw [Bool.and_eq_true] at hp'
    have o1 : okMs (repM (mN b) n) := okMs_rep (okMs_mN hw.2.1) (by have := hw.1.1; omega)
    show mA (joinM m (repM (mN b) n)) r = joinM m (mA (joinM (0, 0, 0) (repM (mN b) n)) r)
    rw [mA_join (ns := r) hw.2.2 hp'.2 (okMs_join h o1), zero_joinM o1, mA_join (ns := r) hw.2.2 hp'.2 o1, joinM_assoc]
  | .cho _ _ _, _, _, hp, _ => by cases hp
theorem mN_app {a b : Ns} (ha : okPl a) (hb : okPl b) : mN (appN a b) = joinM (mN a) (mN b) := by
  show mA (0, 0, 0) (appN a b) = _
  rw [mA_app]
  exact mA_join hb.1.1 hb.2 (okMs_mN ha.1.1)
theorem mN_rep {a : Ns} {k : Nat} (ha : okPl a) (hk : 1 ≤ k) : mN (.rep k a .nil) = repM (mN a) k := by
  show joinM (0, 0, 0) (repM (mN a) k) = _
  exact zero_joinM (okMs_rep (okMs_mN ha.1.1) (by omega))
/-! ## what the law's generator gives, as far as it matters -/
structure Gd (ns : Ns) : Prop where
  wf : wf0 ns
  ne : ns ≠ .nil
  hi : hiM (mN ns)
  tk : tkN ns ≤ 300
  dp : dpN ns ≤ 3
theorem Gd.pl {ns : Ns} (h : Gd ns) : okPl ns := ⟨⟨wf_of h.wf h.hi, Nat.le_trans h.dp (by decide), Nat.le_trans h.tk (by decide), h.hi⟩, wf0_plain h.wf⟩
theorem Gd.app {a b : Ns} (ha : Gd a) (hb : Gd b) (h : hiM (mN (appN a b))) : okPl (appN a b) := by
  have w := wf0_app ha.wf hb.wf
  refine ⟨⟨wf_of w h, ?_, ?_, h⟩, wf0_plain w⟩
  · rw [dpN_app]
    have := ha.dp
    have := hb.dp
    omega
  · rw [tkN_app]
    have := ha.tk
    have := hb.tk
    omega
theorem Gd.rep {a : Ns} {k : Nat} (ha : Gd a) (k1 : 2 ≤ k) (k2 : k ≤ 10 ^ 30) (h : hiM (mN (.rep k a .nil))) : okPl (.rep k a .nil) := by
  have g := gN_le ha.pl.1.1 ha.hi
  have w : wf0 (.rep k a .nil) := ⟨⟨k1, k2, ha.ne, g.1, g.2⟩, ha.wf, True.intro⟩
  refine ⟨⟨wf_of w h, ?_, ?_, h⟩, wf0_plain w⟩
  · show max (1 + dpN a) 0 ≤ 12
    have := ha.dp
    omega
  · show 2 + tkN a + 0 ≤ 1000
    have := ha.tk
    omega
/-! ## effects -/
theorem prP {ns : Ns} (h : okPl ns) : okP (prN ns) (mN ns) := okP_N h.1.1 h.2 h.1.2.2.2
theorem sem_thr {ns : Ns} (h : okPl ns) {s : Src} (hs : posS s) : thr (prN ns).1 (prN ns).2 s = semS (flN ns) s := by
  cases s with
  | lit v => rfl
  | inp p => exact prN_src h.1.1 h.2 hs
theorem prN_app {a b : Ns} (ha : okPl a) (hb : okPl b) (h : okPl (appN a b)) : prN (appN a b) = joP (prN a) (prN b) := by
  have j := okP_join (prP ha) (prP hb) ha.1.2.2.2 hb.1.2.2.2
  have u := prN_uniq (ns := appN a b) (t := (joP (prN a) (prN b)).1) (l := (joP (prN a) (prN b)).2) h.1.1 h.2 h.1.2.2.2 j.1 (by
    have e := j.2.2.2.1
    rw [gN_app, ← gN_m, ← gN_m]
    exact e) fun d d0 => by
      have t := thr_joP (f := prN a) (g := prN b) (s := .inp d) d0
      have e : thr (prN b).1 (prN b).2 (.inp d) = sem (flN b) d := prN_src hb.1.1 hb.2 d0
      show thr (joP (prN a) (prN b)).1 (joP (prN a) (prN b)).2 (.inp d) = _
      rw [t, e, sem_thr ha (sem_pos (fl_ok hb.1.1) d0), flN_app, sem_app]
  rw [← u, joP_cut]
theorem prN_rep {a : Ns} {k : Nat} (ha : okPl a) (hk : 1 ≤ k) (h : okPl (.rep k a .nil)) : prN (.rep k a .nil) = pwr (prN a).1 (prN a).2 k := by
  have j := okP_rep (prP ha) ha.1.2.2.2 hk
  have u := prN_uniq (ns := .rep k a .nil) (t := (pwr (prN a).1 (prN a).2 k).1) (l := (pwr (prN a).1 (prN a).2 k).2) h.1.1 h.2 h.1.2.2.2 j.1 (by
    have e := j.2.2.2.1
    rw [e, show (repM (mN a) k).2.2 = (k : Int) * (mN a).2.2 from rfl, gN_m]
    show _ = (k : Int) * gN a + 0
    omega) fun d d0 => by
      rw [pwr_src d0, pw_sem (fl_ok ha.1.1) (fun d h0 => prN_src ha.1.1 ha.2 h0) k d d0]
      show _ = sem ((List.replicate k (flN a)).flatten ++ []) d
      rw [List.append_nil]
  rw [← u, pwr_cut]
/-! ## stacks -/
theorem run_len_ {ns : Ns} {xs : List Int} (h : okPl ns) (hn : (mN ns).1 ≤ xs.length) : ((runS ns xs).length : Int) = xs.length + gN ns := by
  have p := prP h
  have := put_length (l := (prN ns).2) (xs := xs) p.2.1 (Int.le_trans p.2.2.1 hn)
  have e := p.2.2.2.1
  rw [gN_m] at e
  show ((putS _ _ xs).length : Int) = _
  omega
theorem put_okX {t : Int} {l : List Src} {xs : List Int} (o : ∀ s ∈ l, okS t s) (h : ∀ v ∈ xs, okX v) : ∀ v ∈ putS t l xs, okX v := by
  intro v hv
  unfold putS at hv
  rcases List.mem_append.mp hv with q | q
  · exact h v (List.mem_of_mem_take q)
  · obtain ⟨s, hs, rfl⟩ := List.mem_map.mp q
    have z := o s hs
    cases s with
    | inp p =>
      unfold valS
      dsimp only
      cases y : xs[((xs.length : Int) - 1 - p).toNat]? with
      | none => exact ⟨by decide, by decide⟩
      | some w => exact h w (List.mem_of_getElem? y)
    | lit w => exact z
theorem run_okX {ns : Ns} {xs : List Int} (h : okPl ns) (hx : ∀ v ∈ xs, okX v) : ∀ v ∈ runS ns xs, okX v := put_okX (prP h).1 hx
theorem put_joP {f g : Int × List Src} {xs : List Int} (o1 : okE f.1 f.2) (o2 : okE g.1 g.2) (h0 : 0 ≤ (joP f g).1) (h1 : f.1 ≤ xs.length) (h2 : g.1 ≤ (putS f.1 f.2 xs).length) : putS (joP f g).1 (joP f g).2 xs = putS g.1 g.2 (putS f.1 f.2 xs) := by
  rw [put_put o1 o2 h1 h2]
  have p1 := put_length (l := f.2) o1.1 h1
  have hT : 0 ≤ jTake f.1 f.2 g.1 ∧ jTake f.1 f.2 g.1 ≤ xs.length := by have := o1.1; unfold jTake; split <;> omega
  have le : (joP f g).1 ≤ jTake f.1 f.2 g.1 := cut_le1 _ _
  exact put_same h0 (by omega) hT.1 hT.2 (cut_grow _ _) fun d hd => srcAt_cut _ _ d hd
theorem runS_app {a b : Ns} {xs : List Int} (ha : okPl a) (hb : okPl b) (h : okPl (appN a b)) (hn : (mN (appN a b)).1 ≤ xs.length) : runS (appN a b) xs = runS b (runS a xs) ∧ (mN a).1 ≤ xs.length ∧ (mN b).1 ≤ (runS a xs).length := by
  have pa := prP ha
  have pb := prP hb
  rw [mN_app ha hb] at hn
  have hn' : mxI (mN a).1 ((mN b).1 - (mN a).2.2) ≤ xs.length := hn
  rw [mxI_eq] at hn'
  have h1 : (mN a).1 ≤ xs.length := by omega
  have h2 : (mN b).1 ≤ (runS a xs).length := by rw [run_len_ ha h1]; have := gN_m a; omega
  refine ⟨?_, h1, h2⟩
  show putS (prN (appN a b)).1 (prN (appN a b)).2 xs = putS (prN b).1 (prN b).2 (putS (prN a).1 (prN a).2 xs)
  have j := okP_join pa pb ha.1.2.2.2 hb.1.2.2.2
  rw [prN_app ha hb h]
  exact put_joP (okP_E pa ha.1.2.2.2) (okP_E pb hb.1.2.2.2) j.2.1 (Int.le_trans pa.2.2.1 h1) (Int.le_trans pb.2.2.1 h2)
/-- so many times -/
def itS (ns : Ns) : Nat → List Int → List Int
  | 0, xs => xs
  | k + 1, xs => runS ns (itS ns k xs)
theorem repM_le {m : M3} {i k : Nat} (h1 : 1 ≤ i) (h : i ≤ k) : (repM m i).1 ≤ (repM m k).1 ∧ (repM m i).2.1 ≤ (repM m k).2.1 := by
  unfold repM
  simp only [mxI_eq]
  have a : ((i : Int) - 1) * max 0 (-m.2.2) ≤ ((k : Int) - 1) * max 0 (-m.2.2) := Int.mul_le_mul_of_nonneg_right (by omega) (by omega)
  have b : ((i : Int) - 1) * max 0 m.2.2 ≤ ((k : Int) - 1) * max 0 m.2.2 := Int.mul_le_mul_of_nonneg_right (by omega) (by omega)
  constructor <;> omega
theorem nhi_of {ns : Ns} {k : Nat} (h : okPl ns) (hk : 1 ≤ k) (hh : hiM (repM (mN ns) k)) : ¬ hi (prN ns).1 (prN ns).2 k := by
  have o := okP_E (okP_rep (prP h) h.1.2.2.2 hk) hh
  unfold hi
  have := o.2.1
  have := o.2.2.1
  omega
theorem it_put {ns : Ns} {xs : List Int} (h : okPl ns) : ∀ {k : Nat}, hiM (repM (mN ns) ((k + 1 : Nat) : Int)) → (repM (mN ns) ((k + 1 : Nat) : Int)).1 ≤ xs.length → putS (pwr (prN ns).1 (prN ns).2 (k + 1)).1 (pwr (prN ns).1 (prN ns).2 (k + 1)).2 xs = itS ns (k + 1) xs ∧ ((itS ns (k + 1) xs).length : Int) = xs.length + ((k + 1 : Nat) : Int) * gN ns ∧ (mN ns).1 ≤ (itS ns k xs).length
  | 0, hh, hn => by
    have e1 : pwr (prN ns).1 (prN ns).2 (0 + 1) = prN ns := pwr_one (efD_ok h) (prN_cut ns)
    have n1 : (mN ns).1 ≤ xs.length := by
      have : (repM (mN ns) ((0 + 1 : Nat) : Int)).1 = (mN ns).1 + (((0 + 1 : Nat) : Int) - 1) * mxI 0 (-(mN ns).2.2) := rfl
      rw [this] at hn
      simp at hn
      exact hn
    refine ⟨by rw [e1]; rfl, ?_, n1⟩
    show ((runS ns xs).length : Int) = _
    rw [run_len_ h n1]
    simp
  | k + 1, hh, hn => by
    have le := repM_le (m := mN ns) (i := k + 1) (k := k + 1 + 1) (by omega) (by omega)
    have hh1 : hiM (repM (mN ns) ((k + 1 : Nat) : Int)) := by unfold hiM at *; omega
    obtain ⟨i1, i2, i3⟩ := it_put h (k := k) (xs := xs) hh1 (by omega)
    have q := pwr_join (a := k + 1) (b := 1) (efD_ok h) (nhi_of h (by omega) hh1) (nhi_of h (by omega) (by
      have := (repM_le (m := mN ns) (i := 1) (k := k + 1) (by omega) (by omega))
      unfold hiM at *
      omega))
    rw [show pwr (prN ns).1 (prN ns).2 1 = prN ns from pwr_one (efD_ok h) (prN_cut ns)] at q
    have okA := okP_E (okP_rep (prP h) h.1.2.2.2 (show 1 ≤ k + 1 by omega)) hh1
    have pA := okP_rep (prP h) h.1.2.2.2 (show 1 ≤ k + 1 by omega)
    have okB := okP_rep (prP h) h.1.2.2.2 (show 1 ≤ k + 1 + 1 by omega)
    have need : (mN ns).1 ≤ (itS ns (k + 1) xs).length := by
      rw [i2]
      have e : (repM (mN ns) ((k + 1 + 1 : Nat) : Int)).1 = (mN ns).1 + (((k + 1 + 1 : Nat) : Int) - 1) * mxI 0 (-(mN ns).2.2) := rfl
      rw [e, mxI_eq] at hn
      have g := gN_m ns
      rw [g] at hn
      have e2 : (((k + 1 + 1 : Nat) : Int) - 1) = ((k + 1 : Nat) : Int) := by omega
      rw [e2] at hn
      have m1 : ((k + 1 : Nat) : Int) * (-gN ns) ≤ ((k + 1 : Nat) : Int) * max 0 (-gN ns) := Int.mul_le_mul_of_nonneg_left (by omega) (by omega)
      rw [Int.mul_neg] at m1
      generalize ((k + 1 : Nat) : Int) * gN ns = y at *
      generalize ((k + 1 : Nat) : Int) * max 0 (-gN ns) = z at *
      omega
    have t1 : (prN ns).1 ≤ (itS ns (k + 1) xs).length := Int.le_trans (prP h).2.2.1 need
    refine ⟨?_, ?_, need⟩
    · have p := put_joP (f := pwr (prN ns).1 (prN ns).2 (k + 1)) (g := prN ns) (xs := xs) okA (efD_ok h) (by
        show 0 ≤ (joinE _ _ _ _).1
        rw [q]
        exact okB.2.1) (by have := pA.2.2.1; omega) (by rw [i1]; exact t1)
      rw [i1] at p
      have q' : joP (pwr (prN ns).1 (prN ns).2 (k + 1)) (prN ns) = pwr (prN ns).1 (prN ns).2 (k + 1 + 1) := q
      rw [q'] at p
      exact p
    · show ((runS ns (itS ns (k + 1) xs)).length : Int) = _
      rw [run_len_ h need, i2]
      have e : ((k + 1 + 1 : Nat) : Int) * gN ns = ((k + 1 : Nat) : Int) * gN ns + gN ns := by
        rw [show ((k + 1 + 1 : Nat) : Int) = ((k + 1 : Nat) : Int) + 1 by omega, Int.add_mul, Int.one_mul]
      omega
end Wx

/-! ### part S3 -/
set_option Elab.async false
set_option linter.all false
set_option maxRecDepth 100000
set_option maxHeartbeats 1000000
set_option autoImplicit false
namespace Wx
open PySem L2
def leastP (ns : Ns) (xs : List Int) : PyData := if (xs.length : Int) < (mN ns).1 then .int (mN ns).1 else .none

section
variable {P : Program} {w : World} {K : PySem.W.Frag} {mg : Str → Option Value} {base : Heap} {f C CP CT fI : Addr} {fd : FuncData}
abbrev sp__law_least (K : PySem.W.Frag) (C : Addr) : Sp := SpX (ι := Ns × List Int) K (fun x => [progD C x.1, .py (.tuple (nums x.2))]) (fun x _ => okPl x.1 ∧ x.2.length ≤ 100 ∧ ∀ v ∈ x.2, okX v) fun x n d m => d = .py (leastP x.1 x.2) ∧ m = n
theorem ln__law_least (x : Ns × List Int) : [progD CP x.1, .py (.tuple (nums x.2))].length = 2 := rfl
theorem nm__law_least (x : Ns × List Int) : [progD CP x.1, .py (.tuple (nums x.2))].all D.nm = true := rfl
theorem sc__law_least : FnScope ["told", "cells", "e"] ["told", "cells"] (defScope (top 89)) := ⟨rfl, rfl, rfl, by decide +kernel, rfl, by decide +kernel, by decide +kernel⟩
theorem ok__law_least (F : FnP K "_law_least" "_law_least" (top 89) f fd) (R_run : StdF P w K mg base 46 "run" ["program", "stack", "choices"] (Str.ofString "") (SpO (sp_run_ K CP) (spr_run_ K CP CT))) (TH : PySem.XShortStack.TxtShortStack K mg CT fI) : FnOk P w K mg base CX0 47 f fd ["told", "cells"] (sp__law_least K CP) := by
  refine F.ok sc__law_least (sx_len ln__law_least) (fun cdv A outer s H vs Q E hr h => ?_)
  have nd := sc__law_least.nd
  refine ⟨_, PSs.nox (pss_cons (ps_try_as (i := 2) rfl rfl nd rfl rfl ⟨rfl, by decide, .inl TH.gC⟩ takes0 (fun W pn xe tk _ => pss_one (ps_expr (pe_stdF R_run hr tk rfl (pa_cons (pv 0) (pa_cons (pv 1) (pa_nil)))))) (fun a oe cls d pn hz hf => pss_one (ps_ret (pe_byShortStack TH hz hf (pv 2)))))
 (pss_one (ps_ret (pe_non)))), ?_⟩
  refine body_x nm__law_least ?_ vs H Q E h
  clear h hr
  intro c n x hK hp
  (subst hK)
  try clear R_run F
  obtain ⟨ns, xs⟩ := x
  obtain ⟨h1, h2, h3⟩ : okPl ns ∧ xs.length ≤ 100 ∧ ∀ v ∈ xs, okX v := hp
  dsimp only
  refine ws_seq ?_
  by_cases hH : (xs.length : Int) < (mN ns).1
  · refine ws_tryR (tb := fun W => tDrop (tCallF (SpO (sp_run_ c.K CP) (spr_run_ c.K CP CT)) (Str.ofString "") W (tCons (tVar 0) (tCons (tVar 1) tNil)))) (Ψ := fun cl fs e' => cl = CT ∧ fs = (some [(("least" : Str), PyData.int (mN ns).1)] : XFs) ∧ e'.n = n ∧ e'.sl.length = 3) (fun W => wr_drop (wq_callFO rfl ?_)) ?_
    · walk_at "WK"
      refine ⟨(ns, xs), rfl, ⟨hH, h2, h3⟩, ?_⟩
      rintro cl fs m ⟨rfl, rfl, rfl⟩
      exact ⟨rfl, rfl, rfl, rfl⟩
    · rintro σ A1 H1 e' cl fs od ⟨rfl, rfl, en, el⟩ o xd
      refine ⟨TH.te, fun a ha Dn nx rt bk ct => ?_⟩
      obtain ⟨_, d, vs, rfl, nA, hd, hf⟩ := xd
      obtain ⟨v, rfl, hv⟩ : ∃ v : V, vs = [(("least" : Str), v)] ∧ Da c.K A1 H1 v (.int (mN ns).1) := by
        match vs, hf with
        | [(x, v)], hf =>
          obtain ⟨rfl, hv, _⟩ := hf
          exact ⟨v, rfl, hv⟩
      cases Da.int_eq hv
      have hσ : (σ.set 2 (some (V.ref a)))[2]? = some (some (V.ref a)) := by
        rw [List.getElem?_set_self (by rw [o.len, el]; decide)]
      dsimp only [tRet, tByShortStack, tVar]
      refine ⟨.ref a, hσ, rfl, rfl, d, .int (mN ns).1, rfl, hd, ?_⟩
      refine rt (.int (mN ns).1) H1 (.py (.int (mN ns).1)) n ⟨?_, rfl⟩ (Kp.ek Ek.refl) (en ▸ o.good) (.int _)
      unfold leastP
      rw [if_pos hH]
  · refine ws_tryN (tb := fun W => tDrop (tCallF (SpO (sp_run_ c.K CP) (spr_run_ c.K CP CT)) (Str.ofString "") W (tCons (tVar 0) (tCons (tVar 1) tNil)))) (fun W => ?_)
    refine ws_drop (wp_callFO rfl ?_)
    walk_at "WK"
    refine ⟨(ns, xs), rfl, ⟨h1, by dsimp only; omega, h2, h3⟩, ?_⟩
    rintro d m ⟨rfl, rfl⟩
    refine ⟨rfl, ?_⟩
    walk_at "WK"
    unfold leastP
    rw [if_neg hH]
    first | exact ⟨rfl, rfl⟩ | rfl
end
end Wx

/-! ### part Rg -/
set_option Elab.async false
set_option linter.all false
set_option maxRecDepth 100000
set_option maxHeartbeats 1000000
set_option autoImplicit false
namespace Wx
open PySem L2
section
variable {c : Cy} {sl : List Slo} {nn : Nat} {K : PySem.W.Frag} {te : TE} {Φ : D → Nat → Prop}
theorem wp_joinT (hK : K = c.K) (h : Wp c te ⟨sl, nn⟩ fun d n => ∃ ts : List Tk, d = .py (.list (ttx ts)) ∧ (∀ t ∈ ts, okTk t) ∧ ts.length ≤ 10000 ∧ Φ (.py (.str (joinT ts))) n) : Wp c (tM1 (rJoin K) (tC (V.str (Str.ofString " "))) te) ⟨sl, nn⟩ Φ := by
  refine wp_join hK (wp_cS ?_)
  refine ⟨_, rfl, h.mono fun d n q => ?_⟩
  obtain ⟨ts, rfl, h1, h2, h3⟩ := q
  refine ⟨ts.map Tk.tx, by unfold ttx; rw [List.map_map]; rfl, ?_, h3⟩
  have s := sumT h1
  rw [List.length_map, show (Str.ofString " ").length = 1 by decide +kernel]
  omega
end
theorem cut_toN {α : Type} (xs : List α) (i : Nat) : cutD xs none (some (i : Int)) = xs.take i := by
  unfold cutD
  rw [HT.sIx_nat, HT.sIx_none]
  simp
theorem zeros_nums (k : Nat) : (List.replicate k [PyData.int 0]).flatten = nums (List.replicate k 0) := by
  induction k with
  | zero => rfl
  | succ k ih => rw [List.replicate_succ, List.flatten_cons, ih, List.replicate_succ]; rfl
theorem eqv_nums (a b : List Int) : PyData.eqv (.tuple (nums a)) (.tuple (nums b)) = decide (a = b) := by
  rw [PyData.eqv]
  induction a generalizing b with
  | nil => cases b <;> rfl
  | cons x a ih =>
    cases b with
    | nil => rfl
    | cons y b =>
      show (PyData.eqv (.int x) (.int y) && PyData.eqvAll (nums a) (nums b)) = _
      rw [ih b, eqv_int, ← Bool.decide_and]
      exact decide_eq_decide.mpr ⟨fun z => by rw [z.1, z.2], fun z => List.cons.inj z⟩
theorem shp_numsT (l : List Int) : SeqAt.shaped (.tuple (nums l)) = true := by
  have h : PyData.canLayAll0 (nums l) = true ∧ PyData.depthAll (nums l) ≤ 0 := by
    induction l with
    | nil => exact ⟨rfl, Nat.le_refl _⟩
    | cons a r ih =>
      refine ⟨?_, ?_⟩
      · show (PyData.canLay0 (.int a) && PyData.canLayAll0 (nums r)) = true
        rw [ih.1]
        rfl
      · show max (PyData.depth (.int a)) (PyData.depthAll (nums r)) ≤ 0
        exact Nat.max_le.mpr ⟨Nat.le_refl _, ih.2⟩
  unfold SeqAt.shaped
  rw [Bool.and_eq_true]
  exact ⟨by rw [PyData.canLay0]; exact h.1, decide_eq_true (by rw [PyData.depth]; omega)⟩
theorem leastP_lo {ns : Ns} {k : Nat} (h : (k : Int) < (mN ns).1) : leastP ns (List.replicate k 0) = .int (mN ns).1 := by
  unfold leastP
  rw [List.length_replicate, if_pos h]
theorem leastP_hi {ns : Ns} {k : Nat} (h : (mN ns).1 ≤ k) : leastP ns (List.replicate k 0) = .none := by
  unfold leastP
  rw [List.length_replicate, if_neg (by omega)]
theorem zeros_ok {k : Nat} (h : k ≤ 100) : (List.replicate k (0 : Int)).length ≤ 100 ∧ ∀ v ∈ List.replicate k (0 : Int), okX v :=
  ⟨by rw [List.length_replicate]; exact h, fun v hv => by rw [List.eq_of_mem_replicate hv]; exact ⟨by decide, by decide⟩⟩
end Wx

/-! ### part S4 -/
set_option Elab.async false
set_option linter.all false
set_option maxRecDepth 100000
set_option maxHeartbeats 1000000
set_option autoImplicit false
namespace Wx
open PySem L2

section
variable {P : Program} {w : World} {K : PySem.W.Frag} {mg : Str → Option Value} {base : Heap} {f C CP CT fI : Addr} {fd : FuncData}
abbrev sp__law_pair_right (K : PySem.W.Frag) (C CP : Addr) : Sp := SpX (ι := Ns × Ns) K (fun x => [.kln, .py (.list (ttx (toks x.1))), .py (.list (ttx (toks x.2)))]) (fun x n => Gd x.1 ∧ Gd x.2 ∧ n < 2 ^ 90) fun x n d m => d = .py (.bool true) ∧ m ≤ n + 1000
theorem ln__law_pair_right (x : Ns × Ns) : [D.kln, .py (.list (ttx (toks x.1))), .py (.list (ttx (toks x.2)))].length = 3 := rfl
theorem nm__law_pair_right (x : Ns × Ns) : [D.kln, .py (.list (ttx (toks x.1))), .py (.list (ttx (toks x.2)))].all D.nm = true := rfl
theorem sc__law_pair_right : FnScope ["bag", "one", "two", "both", "cells", "low", "again", "first_program", "last_program", "one_effect", "two_effect"] ["bag", "one", "two"] (defScope (top 90)) := ⟨rfl, rfl, rfl, by decide +kernel, rfl, by decide +kernel, by decide +kernel⟩
theorem ok__law_pair_right (F : FnP K "_law_pair_right" "_law_pair_right" (top 90) f fd) (S__law_measure : Std P w K mg base 2 "_law_measure" ["words"] (sp__law_measure K)) (S__law_stack : Std P w K mg base 2 "_law_stack" ["bag", "many"] (sp__law_stack K)) (S_effect_of : StdD P w K mg base 45 "effect_of" ["program", "choices"] (Str.ofString "") (sp_effect_of K C CP)) (S_run : StdD P w K mg base 46 "run" ["program", "stack", "choices"] (Str.ofString "") (sp_run_ K CP)) (S__law_pick : Std P w K mg base 1 "_law_pick" ["bag", "many"] (sp__law_pick K)) (S__law_least : Std P w K mg base 47 "_law_least" ["told", "cells"] (sp__law_least K CP)) (S_same_effect : Std P w K mg base 43 "same_effect" ["program", "other"] (sp_same_effect K CP)) (kc : KitC K C) (a1 : NoAttr K C "kept_taken") (a2 : NoAttr K C "kept_left") (kp : KitC K CP) (pa : PrA K CP) (gP : mg "Program" = some (.ref CP)) (I_Program : StdI P w K mg base 16 CP (si_Program___init__ K CP)) (P_need : StdP P w K mg base 1 CP "need" (sp_Program_need K CP)) (P_rise : StdP P w K mg base 1 CP "rise" (sp_Program_rise K CP)) (M_call : StdC P w K mg base 6 C (sp_Effect___call__ K C)) (M_eq : StdM P w K mg base 1 C "__eq__" (sp_Effect___eq__ K C)) (M_add : StdM P w K mg base 8 C "__add__" (sp_Effect___add__ K C)) (sf : PySem.W.selfFirst K C = true) (M_padd : StdM P w K mg base 19 CP "__add__" (sp_Program___add__ K CP)) (sfp : PySem.W.selfFirst K CP = true) : FnOk P w K mg base CX0 48 f fd ["bag", "one", "two"] (sp__law_pair_right K C CP) := by
  refine F.ok sc__law_pair_right (sx_len ln__law_pair_right) (fun cdv A outer s H vs Q E hr h => ?_)
  have nd := sc__law_pair_right.nd
  refine ⟨_, PSs.nox (pss_cons (ps_par (i := 7) (j := 8) rfl nd rfl rfl (by decide) rfl rfl (pa_cons (pe_makeS I_Program gP (hr.mono (by decide)) rfl (pa_cons (pe_joinK (K := K) rfl (pe_str) (pv 1)) (pa_nil))) (pa_cons (pe_makeS I_Program gP (hr.mono (by decide)) rfl (pa_cons (pe_joinK (K := K) rfl (pe_str) (pv 2)) (pa_nil))) (pa_nil))) rfl)
 (pss_cons (ps_if (pt_cmpR op_gt (pe_op (addK (K := K) rfl) (pe_ix (ixK (K := K) rfl) (pe_std S__law_measure (hr.mono (by decide)) rfl (pa_cons (pe_op (addK (K := K) rfl) (pv 1) (pv 2)) (pa_nil))) (pe_int) (fun _ _ => rfl)) (pe_ix (ixK (K := K) rfl) (pe_std S__law_measure (hr.mono (by decide)) rfl (pa_cons (pe_op (addK (K := K) rfl) (pv 1) (pv 2)) (pa_nil))) (pe_int) (fun _ _ => rfl))) (pe_int) (nomark _)) (pss_one (ps_ret (pe_bl))) (pss_nil))
 (pss_cons (ps_set (i := 3) nd rfl (Or.inl rfl) (pe_op (addS M_padd sfp (hr.mono (by decide))) (pv 7) (pv 8)))
 (pss_cons (ps_set (i := 4) nd rfl (Or.inl rfl) (pe_slice (slK (K := K) rfl) (pe_std S__law_stack (hr.mono (by decide)) rfl (pa_cons (pv 0) (pa_cons (pe_propS P_need kp.cl (hr.mono (by decide)) (pv 3) rfl) (pa_nil)))) po_none (po_some (pe_op op_sub (pe_int) (pe_propS P_rise kp.cl (hr.mono (by decide)) (pv 3) rfl)))))
 (pss_cons (ps_par (i := 9) (j := 10) rfl nd rfl rfl (by decide) rfl rfl (pa_cons (pe_stdD S_effect_of (hr.mono (by decide)) rfl (pa_cons (pv 7) (pa_nil))) (pa_cons (pe_stdD S_effect_of (hr.mono (by decide)) rfl (pa_cons (pv 8) (pa_nil))) (pa_nil))) rfl)
 (pss_cons (ps_if (PW.pt (pw_or (pt_cmpR (neK (K := K) rfl (room64 hr)) (pe_stdD S_run (hr.mono (by decide)) rfl (pa_cons (pv 3) (pa_cons (pv 4) (pa_nil)))) (pe_callZ M_call (hr.mono (by decide)) (pv 10) (pa_cons (pe_stdD S_run (hr.mono (by decide)) rfl (pa_cons (pv 7) (pa_cons (pv 4) (pa_nil)))) (pa_nil))) (nomark _)) (pw_or1 (pt_not (pt_cmpR (eqS (K := K) rfl M_eq (hr.mono (by decide))) (pe_stdD S_effect_of (hr.mono (by decide)) rfl (pa_cons (pv 3) (pa_nil))) (pe_op (addS M_add sf (hr.mono (by decide))) (pv 9) (pv 10)) (nomark _)))))) (pss_one (ps_ret (pe_bl))) (pss_nil))
 (pss_cons (ps_set (i := 5) nd rfl (Or.inl rfl) (pe_op op_sub (pe_op op_sub (pe_propS P_need kp.cl (hr.mono (by decide)) (pv 3) rfl) (pe_int)) (pe_std S__law_pick (hr.mono (by decide)) rfl (pa_cons (pv 0) (pa_cons (pe_int) (pa_nil))))))
 (pss_cons (ps_if (PW.pt (pw_and (pt_cmpR op_ge (pv 5) (pe_int) (nomark _)) (pw_and1 (pt_cmpR (neK (K := K) rfl (room64 hr)) (pe_std S__law_least hr rfl (pa_cons (pv 3) (pa_cons (pe_op (repSK (K := K) rfl) (pe_tup (pa_cons (pe_int) (pa_nil))) (pv 5)) (pa_nil)))) (pe_propS P_need kp.cl (hr.mono (by decide)) (pv 3) rfl) (nomark _))))) (pss_one (ps_ret (pe_bl))) (pss_nil))
 (pss_cons (ps_if (pt_cmpR opNTN (pe_std S__law_least hr rfl (pa_cons (pv 3) (pa_cons (pe_op (repSK (K := K) rfl) (pe_tup (pa_cons (pe_int) (pa_nil))) (pe_propS P_need kp.cl (hr.mono (by decide)) (pv 3) rfl)) (pa_nil)))) (pe_non) (nomark _)) (pss_one (ps_ret (pe_bl))) (pss_nil))
 (pss_cons (ps_set (i := 6) nd rfl (Or.inl rfl) (pe_ifExp (pt_cmpR op_lt (pe_op (addK (K := K) rfl) (pe_ix (ixK (K := K) rfl) (pe_std S__law_measure (hr.mono (by decide)) rfl (pa_cons (pe_op (addK (K := K) rfl) (pv 2) (pv 1)) (pa_nil))) (pe_int) (fun _ _ => rfl)) (pe_ix (ixK (K := K) rfl) (pe_std S__law_measure (hr.mono (by decide)) rfl (pa_cons (pe_op (addK (K := K) rfl) (pv 2) (pv 1)) (pa_nil))) (pe_int) (fun _ _ => rfl))) (pe_int) (nomark _)) (pe_makeS I_Program gP (hr.mono (by decide)) rfl (pa_cons (pe_joinK (K := K) rfl (pe_str) (pe_op (addK (K := K) rfl) (pv 2) (pv 1))) (pa_nil))) (pv 3)))
 (pss_one (ps_ret (pe_and (pe_cmpR (eqK (K := K) rfl (room64 hr)) (pe_std S_same_effect (hr.mono (by decide)) rfl (pa_cons (pv 3) (pa_cons (pv 6) (pa_nil)))) (pe_cmpR (eqS (K := K) rfl M_eq (hr.mono (by decide))) (pe_stdD S_effect_of (hr.mono (by decide)) rfl (pa_cons (pv 3) (pa_nil))) (pe_stdD S_effect_of (hr.mono (by decide)) rfl (pa_cons (pv 6) (pa_nil))) (nomark _)) (nomark _)) (pe_one (pe_std S_same_effect (hr.mono (by decide)) rfl (pa_cons (pv 3) (pa_cons (pv 3) (pa_nil)))))))))))))))))), ?_⟩
  refine body_x nm__law_pair_right ?_ vs H Q E h
  clear h hr
  intro c n x hK hp
  (subst hK)
  try clear S__law_measure S__law_stack S_effect_of S_run S__law_pick S__law_least S_same_effect I_Program P_need P_rise M_call M_eq M_add sf M_padd F
  obtain ⟨a, b⟩ := x
  obtain ⟨ga, gb, hn⟩ : Gd a ∧ Gd b ∧ n < 2 ^ 90 := hp
  dsimp only
  have pa_ := ga.pl
  have pb_ := gb.pl
  have ta := wf0_tok ga.wf
  have tb := wf0_tok gb.wf
  have wab := wf0_app ga.wf gb.wf
  have wba := wf0_app gb.wf ga.wf
  have la := ga.tk
  have lb := gb.tk
  have hs : (1000000 : Nat) ≤ sizeLine := by rw [sizeLine_eq]; decide
  have ttl : ∀ a : Ns, (ttx (toks a)).length = tkN a := fun a => by rw [ttx_len, toks_len]
  have mab : (toks (appN a b)).length ≤ 100000 ∧ (∀ t ∈ toks (appN a b), okTk t) ∧ MR (toks (appN a b)) [(0, 0, 0)] (mN (appN a b)) := ⟨by rw [toks_len, tkN_app]; omega, wf0_tok wab, mr_all wab⟩
  have mba : (toks (appN b a)).length ≤ 100000 ∧ (∀ t ∈ toks (appN b a), okTk t) ∧ MR (toks (appN b a)) [(0, 0, 0)] (mN (appN b a)) := ⟨by rw [toks_len, tkN_app]; omega, wf0_tok wba, mr_all wba⟩
  have eab : ttx (toks a) ++ ttx (toks b) = ttx (toks (appN a b)) := by rw [toks_app, ttx_app]
  have eba : ttx (toks b) ++ ttx (toks a) = ttx (toks (appN b a)) := by rw [toks_app, ttx_app]
  walk_at "WK"
  refine wp_joinT rfl ?_
  walk_at "WK"
  refine ⟨toks a, rfl, ta, by rw [toks_len]; omega, ?_⟩
  walk_at "WK"
  refine ⟨a, rfl, pa_.1, ?_⟩
  walk_at "WK"
  refine wp_joinT rfl ?_
  walk_at "WK"
  refine ⟨toks b, rfl, tb, by rw [toks_len]; omega, ?_⟩
  walk_at "WK"
  refine ⟨b, rfl, pb_.1, ?_⟩
  walk_at "WK"
  -- REST
  refine ⟨by rw [ttl, ttl]; omega, ?_⟩
  rw [eab]
  walk_at "WK"
  refine ⟨(toks (appN a b), mN (appN a b)), rfl, mab, ?_⟩
  rintro d m ⟨rfl, rfl⟩
  refine ⟨rfl, ?_⟩
  dsimp only
  walk_at "WK"
  refine ⟨_, rfl, ?_⟩
  walk_at "WK"
  refine ⟨by rw [ttl, ttl]; omega, ?_⟩
  rw [eab]
  walk_at "WK"
  refine ⟨(toks (appN a b), mN (appN a b)), rfl, mab, ?_⟩
  rintro d m ⟨rfl, rfl⟩
  refine ⟨rfl, ?_⟩
  dsimp only
  walk_at "WK"
  refine ⟨_, rfl, ?_⟩
  walk_at "WK"
  refine ⟨fun c1 => ?_, fun c1 => ?_⟩
  · walk_at "WK"
    first | exact ⟨rfl, by omega⟩ | omega
  have c1' := of_decide_eq_false c1
  have hab : hiM (mN (appN a b)) := by unfold hiM; omega
  have pab := ga.app gb hab
  have ms := okMs_mN pab.1.1
  have hms : 0 ≤ (mN (appN a b)).1 ∧ 0 ≤ (mN (appN a b)).2.1 := ⟨ms.1, ms.2.1⟩
  obtain ⟨nd, hnd⟩ := Int.eq_ofNat_of_zero_le hms.1
  obtain ⟨rs, hrs⟩ := Int.eq_ofNat_of_zero_le hms.2
  have hsum : nd + rs ≤ 100 := by unfold hiM at hab; omega
  walk_at "WK"
  refine ⟨(a, b), rfl, ⟨ga.ne, gb.ne, ga.wf, gb.wf, pab.1⟩, ?_⟩
  rintro d m ⟨rfl, rfl⟩
  refine ⟨rfl, ?_⟩
  dsimp only
  walk_at "WK"
  refine ⟨progF (appN a b), rfl, appN a b, rfl, trivial, ?_⟩
  rintro d m ⟨rfl, rfl⟩
  refine ⟨rfl, ?_⟩
  rw [hnd]
  walk_at "WK"
  refine ⟨nd, rfl, ⟨by omega, by omega⟩, ?_⟩
  rintro d m1 ⟨⟨xs, rfl, x1, x2, x3⟩, hm1⟩
  refine ⟨rfl, ?_⟩
  walk_at "WK"
  refine ⟨progF (appN a b), rfl, appN a b, rfl, trivial, ?_⟩
  rintro d m ⟨rfl, rfl⟩
  refine ⟨rfl, ?_⟩
  rw [hrs]
  walk_at "WK"
  rw [show (100 : Int) - (rs : Int) = ((100 - rs : Nat) : Int) by omega, cut_toN, nums_take]
  have y1 : nd ≤ (xs.take (100 - rs)).length := by rw [List.length_take]; omega
  have y2 : (xs.take (100 - rs)).length ≤ 100 - rs := by rw [List.length_take]; omega
  have y3 : ∀ v ∈ xs.take (100 - rs), okX v := fun v hv => x3 v (List.mem_of_mem_take hv)
  generalize xs.take (100 - rs) = ys at *
  obtain ⟨ra, rb, rc⟩ := runS_app pa_ pb_ pab (xs := ys) (by omega)
  have rl := run_len_ pa_ rb
  have gle : gN a ≤ rs := by
    have e := mN_app pa_ pb_
    have e2 : (mN (appN a b)).2.1 = mxI (mN a).2.1 ((mN a).2.2 + (mN b).2.1) := by rw [e]; rfl
    rw [mxI_eq] at e2
    have o := okMs_mN pa_.1.1
    have g := gN_m a
    have o4 : (mN a).2.2 ≤ (mN a).2.1 := o.2.2.2
    omega
  have rk := run_okX pa_ y3
  refine ⟨a, rfl, pa_, ?_⟩
  rintro d m ⟨rfl, rfl⟩
  refine ⟨rfl, ?_⟩
  walk_at "WK"
  refine ⟨b, rfl, pb_, ?_⟩
  rintro d m ⟨rfl, rfl⟩
  refine ⟨rfl, ?_⟩
  walk_at "WK"
  refine ⟨(appN a b, ys), rfl, ⟨pab, by dsimp only; omega, by dsimp only; omega, y3⟩, ?_⟩
  rintro d m ⟨rfl, rfl⟩
  refine ⟨rfl, ?_⟩
  walk_at "WK"
  refine ⟨_, rfl, ?_⟩
  walk_at "WK"
  refine ⟨(a, ys), rfl, ⟨pa_, rb, by dsimp only; omega, y3⟩, ?_⟩
  rintro d m ⟨rfl, rfl⟩
  refine ⟨rfl, ?_⟩
  walk_at "WK"
  refine ⟨((prN b).1, (prN b).2, runS a ys), rfl, ⟨efD_ok pb_, Int.le_trans (prP pb_).2.2.1 rc, by dsimp only; omega, rk⟩, ?_⟩
  rintro d m ⟨rfl, rfl⟩
  refine ⟨rfl, ?_⟩
  walk_at "WK"
  refine ⟨shp_numsT _, shp_numsT _, ?_⟩
  rw [eqv_nums]
  have ejo : joinE (prN a).1 (prN a).2 (prN b).1 (prN b).2 = prN (appN a b) := (prN_app pa_ pb_ pab).symm
  rw [decide_eq_true (show runS (appN a b) ys = putS (prN b).1 (prN b).2 (runS a ys) from ra)]
  walk_at "WK"
  refine ⟨fun _ => ?_, fun z => (nomatch z)⟩
  walk_at "WK"
  refine ⟨appN a b, rfl, pab, ?_⟩
  rintro d m ⟨rfl, rfl⟩
  refine ⟨rfl, ?_⟩
  walk_at "WK"
  refine ⟨(prN a, prN b), rfl, ⟨efD_ok pa_, efD_ok pb_, by rw [ejo]; exact efD_ok pab⟩, ?_⟩
  rintro d m ⟨rfl, rfl⟩
  refine ⟨rfl, ?_⟩
  dsimp only
  rw [ejo]
  walk_at "WK"
  have nf_me : PySem.W.notFirst c.K C (.ref C) = true := by unfold PySem.W.notFirst; simp
  have eqP : ∀ f g : Int × List Src, oEq f.1 f.2 (.inl g) = decide (f = g) := fun f g => by
    show (decide (f.1 = g.1) && decide (f.2 = g.2)) = _
    rw [← Bool.decide_and]
    exact decide_eq_decide.mpr ⟨fun z => Prod.ext z.1 z.2, fun z => by rw [z]; exact ⟨rfl, rfl⟩⟩
  refine rw_eqO rfl (ty2_i kc) nf_me rfl ⟨((prN (appN a b)).1, (prN (appN a b)).2, .inl (prN (appN a b))), rfl, trivial, ?_⟩
  rintro d m ⟨rfl, rfl⟩
  refine ⟨_, rfl, ?_⟩
  dsimp only
  rw [eqP, decide_eq_true rfl]
  walk_at "WK"
  refine ⟨fun z => (nomatch z), fun _ => ?_⟩
  walk_at "WK"
  refine ⟨progF (appN a b), rfl, appN a b, rfl, trivial, ?_⟩
  rintro d m ⟨rfl, rfl⟩
  refine ⟨rfl, ?_⟩
  rw [hnd]
  walk_at "WK"
  refine ⟨_, rfl, by decide, by decide, by omega, fun r r0 r1 => ?_⟩
  walk_at "WJ"
  refine ws_seq (ws_if (wt_mono (Θ := fun b n' => n' = m + 1 ∧ b = false) ?_ fun bb n' ⟨hn', hb⟩ => ⟨fun z => absurd (hb ▸ z) (by decide), fun _ => ?_⟩))
  · walk_at "WK"
    refine ⟨fun d1 => ?_, fun d1 => ⟨rfl, rfl⟩⟩
    have d1' := of_decide_eq_true d1
    obtain ⟨k, hk⟩ := Int.eq_ofNat_of_zero_le (show 0 ≤ (nd : Int) - 1 - r by omega)
    rw [hk]
    walk_at "WK"
    refine rw_repT (k := k) rfl (List.cons_ne_nil _ _) (by simp) (by omega) ?_
    rw [zeros_nums]
    walk_at "WK"
    refine ⟨(appN a b, List.replicate k 0), rfl, ⟨pab, zeros_ok (by omega)⟩, ?_⟩
    rintro d m ⟨rfl, rfl⟩
    refine ⟨rfl, ?_⟩
    dsimp only
    rw [leastP_lo (by omega)]
    walk_at "WK"
    refine ⟨progF (appN a b), rfl, appN a b, rfl, trivial, ?_⟩
    rintro d m ⟨rfl, rfl⟩
    refine ⟨rfl, ?_⟩
    walk_at "WK"
    simp
  subst hn'
  walk_at "WJ"
  refine ws_seq ?_
  walk_at "WK"
  refine ⟨progF (appN a b), rfl, appN a b, rfl, trivial, ?_⟩
  rintro d m ⟨rfl, rfl⟩
  refine ⟨rfl, ?_⟩
  rw [hnd]
  walk_at "WK"
  refine rw_repT (k := nd) rfl (List.cons_ne_nil _ _) (by simp) (by omega) ?_
  rw [zeros_nums]
  walk_at "WK"
  refine ⟨(appN a b, List.replicate nd 0), rfl, ⟨pab, zeros_ok (by omega)⟩, ?_⟩
  rintro d m ⟨rfl, rfl⟩
  refine ⟨rfl, ?_⟩
  dsimp only
  rw [leastP_hi (by omega)]
  walk_at "WJ"
  refine ⟨fun z => (nomatch z), fun _ => ?_⟩
  walk_at "WJ"
  refine ws_seq (ws_mid (fun e1 => ∃ ag : Ns, okPl ag ∧ e1 = ⟨[.val .kln, .val (.py (.list (ttx (toks a)))), .val (.py (.list (ttx (toks b)))), .val (progD CP (appN a b)), .val (.py (.tuple (nums ys))), .val (.py (.int ((nd : Int) - 1 - r))), .val (progD CP ag), .val (progD CP a), .val (progD CP b), .val (efD C a), .val (efD C b)], m + 1⟩) ?_ ?_)
  · walk_at "WK"
    refine ⟨by rw [ttl, ttl]; omega, ?_⟩
    rw [eba]
    walk_at "WK"
    refine ⟨(toks (appN b a), mN (appN b a)), rfl, mba, ?_⟩
    rintro d m ⟨rfl, rfl⟩
    refine ⟨rfl, ?_⟩
    dsimp only
    walk_at "WK"
    refine ⟨_, rfl, ?_⟩
    walk_at "WK"
    refine ⟨by rw [ttl, ttl]; omega, ?_⟩
    rw [eba]
    walk_at "WK"
    refine ⟨(toks (appN b a), mN (appN b a)), rfl, mba, ?_⟩
    rintro d m ⟨rfl, rfl⟩
    refine ⟨rfl, ?_⟩
    dsimp only
    walk_at "WK"
    refine ⟨_, rfl, ?_⟩
    walk_at "WK"
    refine ⟨fun c2 => ?_, fun c2 => ?_⟩
    · have c2' := of_decide_eq_true c2
      have hba : hiM (mN (appN b a)) := by unfold hiM; omega
      have pba := gb.app ga hba
      walk_at "WK"
      refine wp_joinT rfl ?_
      walk_at "WK"
      refine ⟨by rw [ttl, ttl]; omega, ?_⟩
      rw [eba]
      refine ⟨toks (appN b a), rfl, wf0_tok wba, by rw [toks_len, tkN_app]; omega, ?_⟩
      walk_at "WK"
      refine ⟨appN b a, rfl, pba.1, ?_⟩
      walk_at "WK"
      exact ⟨appN b a, pba, rfl⟩
    · walk_at "WK"
      exact ⟨appN a b, pab, rfl⟩
  rintro e1 ⟨ag, pag, rfl⟩
  walk_at "WK"
  refine ⟨(appN a b, ag), rfl, ⟨pab, pag⟩, ?_⟩
  rintro d m ⟨rfl, rfl⟩
  refine ⟨rfl, ?_⟩
  dsimp only
  walk_at "WK"
  refine ⟨appN a b, rfl, pab, ?_⟩
  rintro d m ⟨rfl, rfl⟩
  refine ⟨rfl, ?_⟩
  walk_at "WK"
  refine ⟨ag, rfl, pag, ?_⟩
  rintro d m ⟨rfl, rfl⟩
  refine ⟨rfl, ?_⟩
  walk_at "WK"
  refine rw_eqO rfl (ty2_i kc) nf_me rfl ⟨((prN (appN a b)).1, (prN (appN a b)).2, .inl (prN ag)), rfl, trivial, ?_⟩
  rintro d m ⟨rfl, rfl⟩
  refine ⟨_, rfl, ?_⟩
  dsimp only
  rw [eqP]
  walk_at "WK"
  have eb : ∀ x : Bool, (PyData.bool x).eqv (.bool (if false = true then !x else x)) = true := fun x => by cases x <;> rfl
  rw [eb]
  refine ⟨fun _ => ?_, fun z => (nomatch z)⟩
  walk_at "WK"
  refine ⟨(appN a b, appN a b), rfl, ⟨pab, pab⟩, ?_⟩
  rintro d m ⟨rfl, rfl⟩
  refine ⟨rfl, ?_⟩
  dsimp only
  rw [decide_eq_true rfl]
  exact ⟨rfl, by omega⟩
end
end Wx

/-! ### part Q3 -/
set_option Elab.async false
set_option linter.all false
set_option maxRecDepth 100000
set_option maxHeartbeats 1000000
set_option autoImplicit false
namespace Wx
open PySem L2
theorem it_ok {ns : Ns} {xs : List Int} {k : Nat} (h : okPl ns) (hk : 1 ≤ k) (hn : (repM (mN ns) k).1 ≤ xs.length) (hr : (xs.length : Int) + (repM (mN ns) k).2.1 ≤ 100) (hx : ∀ v ∈ xs, okX v) :
    ∀ i : Nat, i ≤ k → ((itS ns i xs).length : Int) = xs.length + (i : Int) * gN ns ∧ (itS ns i xs).length ≤ 100 ∧ (∀ v ∈ itS ns i xs, okX v) ∧ (i < k → (mN ns).1 ≤ (itS ns i xs).length) := by
  have g := gN_m ns
  have o := okMs_mN h.1.1
  have o2 : 0 ≤ (mN ns).2.1 := o.2.1
  have o4 : (mN ns).2.2 ≤ (mN ns).2.1 := o.2.2.2
  have en : (repM (mN ns) k).1 = (mN ns).1 + ((k : Int) - 1) * max 0 (-(mN ns).2.2) := by unfold repM; simp only [mxI_eq]
  have er : (repM (mN ns) k).2.1 = (mN ns).2.1 + ((k : Int) - 1) * max 0 (mN ns).2.2 := by unfold repM; simp only [mxI_eq]
  rw [en] at hn
  rw [er] at hr
  rw [g] at hn hr o4
  have lo : ∀ i : Nat, i + 1 ≤ k → (mN ns).1 ≤ (xs.length : Int) + (i : Int) * gN ns := fun i hi => by
    have m1 : (i : Int) * (-gN ns) ≤ (i : Int) * max 0 (-gN ns) := Int.mul_le_mul_of_nonneg_left (by omega) (by omega)
    have m2 : (i : Int) * max 0 (-gN ns) ≤ ((k : Int) - 1) * max 0 (-gN ns) := Int.mul_le_mul_of_nonneg_right (by omega) (by omega)
    rw [Int.mul_neg] at m1
    generalize (i : Int) * gN ns = y at *
    generalize ((k : Int) - 1) * max 0 (-gN ns) = z at *
    generalize (i : Int) * max 0 (-gN ns) = u at *
    omega
  have up : ∀ i : Nat, i ≤ k → (xs.length : Int) + (i : Int) * gN ns ≤ 100 := fun i hi => by
    have m1 : (i : Int) * gN ns ≤ (i : Int) * max 0 (gN ns) := Int.mul_le_mul_of_nonneg_left (by omega) (by omega)
    have m2 : (i : Int) * max 0 (gN ns) ≤ (k : Int) * max 0 (gN ns) := Int.mul_le_mul_of_nonneg_right (by omega) (by omega)
    have m3 : (k : Int) * max 0 (gN ns) = ((k : Int) - 1) * max 0 (gN ns) + max 0 (gN ns) := by rw [Int.sub_mul, Int.one_mul]; omega
    generalize (i : Int) * gN ns = y at *
    generalize ((k : Int) - 1) * max 0 (gN ns) = z at *
    generalize (i : Int) * max 0 (gN ns) = u at *
    generalize (k : Int) * max 0 (gN ns) = w at *
    omega
  intro i
  induction i with
  | zero =>
    intro _
    have u0 := up 0 (by omega)
    have l0 := lo 0 hk
    refine ⟨by show (xs.length : Int) = _; simp, by show xs.length ≤ 100; simp at u0; omega, hx, fun _ => by show (mN ns).1 ≤ xs.length; simp at l0; exact l0⟩
  | succ i ih =>
    intro hi
    obtain ⟨i1, i2, i3, i4⟩ := ih (by omega)
    have nd := i4 (by omega)
    have l := run_len_ (xs := itS ns i xs) h nd
    have e : ((i + 1 : Nat) : Int) * gN ns = (i : Int) * gN ns + gN ns := by
      rw [show ((i + 1 : Nat) : Int) = (i : Int) + 1 by omega, Int.add_mul, Int.one_mul]
    have u := up (i + 1) hi
    have l2 : ((itS ns (i + 1) xs).length : Int) = xs.length + ((i + 1 : Nat) : Int) * gN ns := by
      show ((runS ns (itS ns i xs)).length : Int) = _
      rw [l, i1, e]
      omega
    refine ⟨l2, by omega, run_okX h i3, fun q => ?_⟩
    rw [l2]
    exact lo (i + 1) (by omega)
theorem it_run {ns : Ns} {xs : List Int} {k : Nat} (h : okPl ns) (hk : 1 ≤ k) (hr : okPl (.rep k ns .nil)) (hn : (repM (mN ns) k).1 ≤ xs.length) : runS (.rep k ns .nil) xs = itS ns k xs := by
  obtain ⟨j, rfl⟩ : ∃ j, k = j + 1 := ⟨k - 1, by omega⟩
  have hh : hiM (repM (mN ns) ((j + 1 : Nat) : Int)) := by
    rw [← mN_rep h hk]
    exact hr.1.2.2.2
  obtain ⟨i1, _, _⟩ := it_put h (k := j) (xs := xs) hh hn
  show putS (prN (.rep (j + 1) ns .nil)).1 (prN (.rep (j + 1) ns .nil)).2 xs = _
  rw [prN_rep h hk hr]
  exact i1
end Wx

/-! ### part S5 -/
set_option Elab.async false
set_option linter.all false
set_option maxRecDepth 100000
set_option maxHeartbeats 1000000
set_option autoImplicit false
namespace Wx
open PySem L2

section
variable {P : Program} {w : World} {K : PySem.W.Frag} {mg : Str → Option Value} {base : Heap} {f C CP CT fI : Addr} {fd : FuncData}
abbrev sp__law_times_right (K : PySem.W.Frag) (C CP : Addr) : Sp := SpX (ι := Ns) K (fun x => [.kln, .py (.list (ttx (toks x)))]) (fun x n => Gd x ∧ n < 2 ^ 90) fun x n d m => d = .py (.bool true) ∧ m ≤ n + 1000
theorem ln__law_times_right (x : Ns) : [D.kln, .py (.list (ttx (toks x)))].length = 2 := rfl
theorem nm__law_times_right (x : Ns) : [D.kln, .py (.list (ttx (toks x)))].all D.nm = true := rfl
theorem sc__law_times_right : FnScope ["bag", "words", "told", "many", "row", "cells", "turn", "here", "effect"] ["bag", "words"] (defScope (top 91)) := ⟨rfl, rfl, rfl, by decide +kernel, rfl, by decide +kernel, by decide +kernel⟩
theorem ok__law_times_right (F : FnP K "_law_times_right" "_law_times_right" (top 91) f fd) (S__law_pick : Std P w K mg base 1 "_law_pick" ["bag", "many"] (sp__law_pick K)) (g_str : mg "str" = none) (S__law_measure : Std P w K mg base 2 "_law_measure" ["words"] (sp__law_measure K)) (S_effect_of : StdD P w K mg base 45 "effect_of" ["program", "choices"] (Str.ofString "") (sp_effect_of K C CP)) (g_range : mg "range" = none) (S__law_stack : Std P w K mg base 2 "_law_stack" ["bag", "many"] (sp__law_stack K)) (S_run : StdD P w K mg base 46 "run" ["program", "stack", "choices"] (Str.ofString "") (sp_run_ K CP)) (kc : KitC K C) (a1 : NoAttr K C "kept_taken") (a2 : NoAttr K C "kept_left") (kp : KitC K CP) (pa : PrA K CP) (gP : mg "Program" = some (.ref CP)) (I_Program : StdI P w K mg base 16 CP (si_Program___init__ K CP)) (P_need : StdP P w K mg base 1 CP "need" (sp_Program_need K CP)) (P_rise : StdP P w K mg base 1 CP "rise" (sp_Program_rise K CP)) (M_call : StdC P w K mg base 6 C (sp_Effect___call__ K C)) (M_eq : StdM P w K mg base 1 C "__eq__" (sp_Effect___eq__ K C)) (M_mul : StdM P w K mg base 8 C "__mul__" (sp_Effect___mul__ K C)) (mk : MulK K C) (M_pmul : StdM P w K mg base 19 CP "__mul__" (sp_Program___mul__ K CP)) (mkp : MulK K CP) : FnOk P w K mg base CX0 48 f fd ["bag", "words"] (sp__law_times_right K C CP) := by
  refine F.ok sc__law_times_right (sx_len ln__law_times_right) (fun cdv A outer s H vs Q E hr h => ?_)
  have nd := sc__law_times_right.nd
  refine ⟨_, PSs.nox (pss_cons (ps_set (i := 2) nd rfl (Or.inl rfl) (pe_makeS I_Program gP (hr.mono (by decide)) rfl (pa_cons (pe_joinK (K := K) rfl (pe_str) (pv 1)) (pa_nil))))
 (pss_cons (ps_set (i := 3) nd rfl (Or.inl rfl) (pe_ix (ixK (K := K) rfl) (pe_lst (pa_cons (pe_op (addK (K := K) rfl) (pe_int) (pe_std S__law_pick (hr.mono (by decide)) rfl (pa_cons (pv 0) (pa_cons (pe_int) (pa_nil))))) (pa_cons (pe_op (addK (K := K) rfl) (pe_int) (pe_std S__law_pick (hr.mono (by decide)) rfl (pa_cons (pv 0) (pa_cons (pe_op op_sub (pe_op opPOW (pe_int) (pe_int)) (pe_int)) (pa_nil))))) (pa_nil)))) (pe_std S__law_pick (hr.mono (by decide)) rfl (pa_cons (pv 0) (pa_cons (pe_int) (pa_nil)))) (fun _ _ => rfl)))
 (pss_cons (ps_set (i := 4) nd rfl (Or.inl rfl) (pe_op (addK (K := K) rfl) (pe_op (addK (K := K) rfl) (pe_lst (pa_cons (pe_str) (pa_nil))) (pv 1)) (pe_lst (pa_cons (pe_op (addK (K := K) rfl) (pe_str) (pe_callTy callSTR rfl g_str bt_str (pa_cons (pv 3) (pa_nil)))) (pa_nil)))))
 (pss_cons (ps_if (pt_cmpR op_gt (pe_op (addK (K := K) rfl) (pe_ix (ixK (K := K) rfl) (pe_std S__law_measure (hr.mono (by decide)) rfl (pa_cons (pv 4) (pa_nil))) (pe_int) (fun _ _ => rfl)) (pe_ix (ixK (K := K) rfl) (pe_std S__law_measure (hr.mono (by decide)) rfl (pa_cons (pv 4) (pa_nil))) (pe_int) (fun _ _ => rfl))) (pe_int) (nomark _)) (pss_one (ps_ret (pe_bl))) (pss_nil))
 (pss_cons (ps_if (pt_not (pt_cmpR (eqS (K := K) rfl M_eq (hr.mono (by decide))) (pe_stdD S_effect_of (hr.mono (by decide)) rfl (pa_cons (pe_op (mulS M_pmul mkp (hr.mono (by decide))) (pv 2) (pv 3)) (pa_nil))) (pe_op (mulS M_mul mk (hr.mono (by decide))) (pe_stdD S_effect_of (hr.mono (by decide)) rfl (pa_cons (pv 2) (pa_nil))) (pv 3)) (nomark _))) (pss_one (ps_ret (pe_bl))) (pss_nil))
 (pss_cons (ps_if (pt_cmpR op_lt (pv 3) (pe_int) (nomark _)) (pss_cons (ps_set (i := 5) nd rfl (Or.inl rfl) (pe_slice (slK (K := K) rfl) (pe_std S__law_stack (hr.mono (by decide)) rfl (pa_cons (pv 0) (pa_cons (pe_propS P_need kp.cl (hr.mono (by decide)) (pe_op (mulS M_pmul mkp (hr.mono (by decide))) (pv 2) (pv 3)) rfl) (pa_nil)))) po_none (po_some (pe_op op_sub (pe_int) (pe_propS P_rise kp.cl (hr.mono (by decide)) (pe_op (mulS M_pmul mkp (hr.mono (by decide))) (pv 2) (pv 3)) rfl)))))
 (pss_cons (ps_par (i := 7) (j := 8) rfl nd rfl rfl (by decide) rfl rfl (pa_cons (pv 5) (pa_cons (pe_stdD S_effect_of (hr.mono (by decide)) rfl (pa_cons (pv 2) (pa_nil))) (pa_nil))) rfl)
 (pss_cons (ps_for PassesOwn.never rfl (pi_range1 rfl g_range (pa_cons (pv 3) (pa_nil))) (pg_name (i := 6) nd rfl (Or.inl rfl)) (pss_one (ps_set (i := 7) nd rfl (Or.inl rfl) (pe_callZ M_call (hr.mono (by decide)) (pv 8) (pa_cons (pv 7) (pa_nil))))))
 (pss_one (ps_if (pt_cmpR (neK (K := K) rfl (room64 hr)) (pe_stdD S_run (hr.mono (by decide)) rfl (pa_cons (pe_op (mulS M_pmul mkp (hr.mono (by decide))) (pv 2) (pv 3)) (pa_cons (pv 5) (pa_nil)))) (pv 7) (nomark _)) (pss_one (ps_ret (pe_bl))) (pss_nil)))))) (pss_nil))
 (pss_one (ps_ret (pe_bl))))))))), ?_⟩
  refine body_x nm__law_times_right ?_ vs H Q E h
  clear h hr
  intro c n x hK hp
  (subst hK)
  try clear S__law_pick g_str S__law_measure S_effect_of g_range S__law_stack S_run I_Program P_need P_rise M_call M_eq M_mul M_pmul F
  obtain ⟨ga, hn⟩ : Gd x ∧ n < 2 ^ 90 := hp
  have pa_ := ga.pl
  have ta := wf0_tok ga.wf
  have la := ga.tk
  have hs : (1000000 : Nat) ≤ sizeLine := by rw [sizeLine_eq]; decide
  have ttl : ∀ a : Ns, (ttx (toks a)).length = tkN a := fun a => by rw [ttx_len, toks_len]
  have gx := gN_le pa_.1.1 ga.hi
  walk_at "WK"
  refine wp_joinT rfl ?_
  walk_at "WK"
  refine ⟨toks x, rfl, ta, by rw [toks_len]; omega, ?_⟩
  walk_at "WK"
  refine ⟨x, rfl, pa_.1, ?_⟩
  walk_at "WK"
  refine ⟨_, rfl, by decide, by decide, by omega, fun r1 a1 b1 => ?_⟩
  walk_at "WK"
  rw [p30E]
  refine ⟨_, rfl, by decide, by decide, by omega, fun r2 a2 b2 => ?_⟩
  walk_at "WK"
  refine ⟨_, rfl, by decide, by decide, by omega, fun r3 a3 b3 => ?_⟩
  walk_at "WK"
  obtain ⟨v, ev, hv⟩ := at2 (fun v => 2 ≤ v ∧ v ≤ 10 ^ 30) (i := 2 + r1) (j := 2 + r2) (r := r3) (by omega) (by omega) a3 b3
  refine ⟨_, ev, ?_⟩
  clear ev
  obtain ⟨k, rfl⟩ := Int.eq_ofNat_of_zero_le (show 0 ≤ v by omega)
  have k1 : 2 ≤ k := by omega
  have k2 : k ≤ 10 ^ 30 := by omega
  have wr : wf0 (.rep k x .nil) := ⟨⟨k1, k2, ga.ne, gx.1, gx.2⟩, ga.wf, True.intro⟩
  have tr : tkN (.rep k x .nil) = 2 + tkN x + 0 := rfl
  have mr : (toks (.rep k x .nil)).length ≤ 100000 ∧ (∀ t ∈ toks (.rep k x .nil), okTk t) ∧ MR (toks (.rep k x .nil)) [(0, 0, 0)] (mN (.rep k x .nil)) := ⟨by rw [toks_len]; omega, wf0_tok wr, mr_all wr⟩
  walk_at "WK"
  -- REST
  refine ⟨by rw [ttl]; show 1 + _ ≤ _; omega, ?_⟩
  walk_at "WK"
  refine cw_str (one_mk ⟨(k : Int), rfl, log2_lt (by omega), ?_⟩)
  walk_at "WK"
  refine ⟨cl_len k2, ?_⟩
  rw [cl_txI]
  walk_at "WK"
  refine ⟨by rw [List.length_append, ttl]; show 1 + tkN x + 1 ≤ _; omega, ?_⟩
  rw [show [PyData.str (Str.ofString "(")] ++ ttx (toks x) ++ [PyData.str (Tk.cl k).tx] = ttx (toks (.rep k x .nil)) from rep_ttx (ns := .nil)]
  walk_at "WK"
  refine ⟨(toks (.rep k x .nil), mN (.rep k x .nil)), rfl, mr, ?_⟩
  rintro d m ⟨rfl, rfl⟩
  refine ⟨rfl, ?_⟩
  dsimp only
  walk_at "WK"
  refine ⟨_, rfl, ?_⟩
  walk_at "WK"
  refine ⟨(toks (.rep k x .nil), mN (.rep k x .nil)), rfl, mr, ?_⟩
  rintro d m ⟨rfl, rfl⟩
  refine ⟨rfl, ?_⟩
  dsimp only
  walk_at "WK"
  refine ⟨_, rfl, ?_⟩
  walk_at "WK"
  refine ⟨fun c1 => ?_, fun c1 => ?_⟩
  · walk_at "WK"
    first | exact ⟨rfl, by omega⟩ | omega
  have c1' := of_decide_eq_false c1
  have hre : hiM (mN (.rep k x .nil)) := by unfold hiM; omega
  have prep := ga.rep k1 k2 hre
  have em := mN_rep pa_ (show 1 ≤ k by omega)
  have hre2 : hiM (repM (mN x) k) := by rw [← em]; exact hre
  have epr := prN_rep pa_ (show 1 ≤ k by omega) prep
  have ms := okMs_mN prep.1.1
  obtain ⟨nd, hnd⟩ := Int.eq_ofNat_of_zero_le (show 0 ≤ (mN (.rep k x .nil)).1 from ms.1)
  obtain ⟨rs, hrs⟩ := Int.eq_ofNat_of_zero_le (show 0 ≤ (mN (.rep k x .nil)).2.1 from ms.2.1)
  have hsum : nd + rs ≤ 100 := by unfold hiM at hre; omega
  have nf_me : PySem.W.notFirst c.K C (.ref C) = true := by unfold PySem.W.notFirst; simp
  have eqP : ∀ f g : Int × List Src, oEq f.1 f.2 (.inl g) = decide (f = g) := fun f g => by
    show (decide (f.1 = g.1) && decide (f.2 = g.2)) = _
    rw [← Bool.decide_and]
    exact decide_eq_decide.mpr ⟨fun z => Prod.ext z.1 z.2, fun z => by rw [z]; exact ⟨rfl, rfl⟩⟩
  walk_at "WJ"
  refine ws_seq (ws_if (wt_mono (Θ := fun b n' => n' = n + 1 + 1 + 1 ∧ b = false) ?_ fun bb n' ⟨hn', hb⟩ => ⟨fun z => absurd (hb ▸ z) (by decide), fun _ => ?_⟩))
  · walk_at "WK"
    refine rw_mulO rfl ⟨(x, k), rfl, ⟨ga.ne, ga.wf, k1, k2, prep.1⟩, ?_⟩
    rintro d m ⟨rfl, rfl⟩
    refine ⟨rfl, ?_⟩
    dsimp only
    walk_at "WK"
    refine ⟨.rep k x .nil, rfl, prep, ?_⟩
    rintro d m ⟨rfl, rfl⟩
    refine ⟨rfl, ?_⟩
    walk_at "WK"
    refine ⟨x, rfl, pa_, ?_⟩
    rintro d m ⟨rfl, rfl⟩
    refine ⟨rfl, ?_⟩
    walk_at "WK"
    refine rw_mulO rfl ⟨((prN x).1, (prN x).2, k), rfl, ⟨efD_ok pa_, k2, nhi_of (k := k) pa_ (by omega) hre2⟩, ?_⟩
    rintro d m ⟨rfl, rfl⟩
    refine ⟨rfl, ?_⟩
    dsimp only
    refine rw_eqO rfl (ty2_i kc) nf_me rfl ⟨((prN (.rep k x .nil)).1, (prN (.rep k x .nil)).2, .inl (pwr (prN x).1 (prN x).2 k)), rfl, trivial, ?_⟩
    rintro d m ⟨rfl, rfl⟩
    refine ⟨_, rfl, ?_⟩
    dsimp only
    rw [eqP, decide_eq_true epr]
    walk_at "WK"
    first | exact ⟨rfl, rfl⟩ | rfl
  subst hn'
  walk_at "WJ"
  refine ws_seq (ws_mid (fun e1 => e1.n ≤ n + 1000) ?_ ?_)
  · walk_at "WK"
    refine ⟨fun c2 => ?_, fun c2 => ?_⟩
    · have c2' := of_decide_eq_true c2
      walk_at "WK"
      refine rw_mulO rfl ⟨(x, k), rfl, ⟨ga.ne, ga.wf, k1, k2, prep.1⟩, ?_⟩
      rintro d m ⟨rfl, rfl⟩
      refine ⟨rfl, ?_⟩
      dsimp only
      walk_at "WK"
      refine ⟨progF (.rep k x .nil), rfl, .rep k x .nil, rfl, trivial, ?_⟩
      rintro d m ⟨rfl, rfl⟩
      refine ⟨rfl, ?_⟩
      rw [hnd]
      walk_at "WK"
      refine ⟨nd, rfl, ⟨by omega, by omega⟩, ?_⟩
      rintro d m1 ⟨⟨xs, rfl, x1, x2, x3⟩, hm1⟩
      refine ⟨rfl, ?_⟩
      walk_at "WK"
      refine rw_mulO rfl ⟨(x, k), rfl, ⟨ga.ne, ga.wf, k1, k2, prep.1⟩, ?_⟩
      rintro d m ⟨rfl, rfl⟩
      refine ⟨rfl, ?_⟩
      dsimp only
      walk_at "WK"
      refine ⟨progF (.rep k x .nil), rfl, .rep k x .nil, rfl, trivial, ?_⟩
      rintro d m ⟨rfl, rfl⟩
      refine ⟨rfl, ?_⟩
      rw [hrs]
      walk_at "WK"
      rw [show (100 : Int) - (rs : Int) = ((100 - rs : Nat) : Int) by omega, cut_toN, nums_take]
      have y1 : nd ≤ (xs.take (100 - rs)).length := by rw [List.length_take]; omega
      have y2 : (xs.take (100 - rs)).length ≤ 100 - rs := by rw [List.length_take]; omega
      have y3 : ∀ v ∈ xs.take (100 - rs), okX v := fun v hv => x3 v (List.mem_of_mem_take hv)
      generalize xs.take (100 - rs) = ys at *
      have hn1 : (repM (mN x) k).1 ≤ ys.length := by rw [← em]; omega
      have hr1 : (ys.length : Int) + (repM (mN x) k).2.1 ≤ 100 := by rw [← em]; omega
      have io := it_ok pa_ (show 1 ≤ k by omega) hn1 hr1 y3
      have ir := it_run pa_ (show 1 ≤ k by omega) prep hn1
      refine ⟨x, rfl, pa_, ?_⟩
      rintro d m ⟨rfl, rfl⟩
      refine ⟨rfl, ?_⟩
      walk_at "WJ"
      refine ws_seq (ws_mid (fun e1 => ∃ s6, e1 = ⟨[.val .kln, .val (.py (.list (ttx (toks x)))), .val (progD CP x), .val (.py (.int (k : Int))), .val (.py (.list (ttx (toks (.rep k x .nil))))), .val (.py (.tuple (nums ys))), s6, .val (.py (.tuple (nums (itS x k ys)))), .val (efD C x)], m⟩) ?_ ?_)
      · refine ws_for [6] (wi_rng1 ?_)
        walk_at "WK"
        refine ⟨by omega, by omega, fun i e1 => ∃ s6, i ≤ k ∧ e1 = ⟨[.val .kln, .val (.py (.list (ttx (toks x)))), .val (progD CP x), .val (.py (.int (k : Int))), .val (.py (.list (ttx (toks (.rep k x .nil))))), .val (.py (.tuple (nums ys))), s6, .val (.py (.tuple (nums (itS x i ys)))), .val (efD C x)], m⟩, ⟨.emp, by omega, rfl⟩, ?_, ?_⟩
        · rintro i d e1 hd ⟨s6, hi, rfl⟩
          obtain ⟨hi2, rfl⟩ := seqI_of hd
          have hik : i < k := by omega
          obtain ⟨j1, j2, j3, j4⟩ := io i (by omega)
          refine wg_name ⟨rfl, ?_⟩ (Nat.le_of_ble_eq_true rfl) (by decide)
          walk_at "WK"
          refine ⟨_, rfl, ?_⟩
          walk_at "WK"
          refine ⟨((prN x).1, (prN x).2, itS x i ys), rfl, ⟨efD_ok pa_, Int.le_trans (prP pa_).2.2.1 (j4 hik), j2, j3⟩, ?_⟩
          rintro d m ⟨rfl, rfl⟩
          exact ⟨rfl, rfl, _, hik, rfl⟩
        · rintro e1 ⟨s6, hi, rfl⟩
          rw [seqI_len]
          exact ⟨s6, rfl⟩
      rintro e1 ⟨s6, rfl⟩
      walk_at "WK"
      refine rw_mulO rfl ⟨(x, k), rfl, ⟨ga.ne, ga.wf, k1, k2, prep.1⟩, ?_⟩
      rintro d m ⟨rfl, rfl⟩
      refine ⟨rfl, ?_⟩
      dsimp only
      walk_at "WK"
      refine ⟨(.rep k x .nil, ys), rfl, ⟨prep, by dsimp only; omega, by dsimp only; omega, y3⟩, ?_⟩
      rintro d m ⟨rfl, rfl⟩
      refine ⟨rfl, ?_⟩
      dsimp only
      rw [ir]
      walk_at "WK"
      refine ⟨shp_numsT _, shp_numsT _, ?_⟩
      rw [eqv_nums, decide_eq_true rfl]
      walk_at "WK"
      refine ⟨fun z => (nomatch z), fun _ => ?_⟩
      walk_at "WK"
      first | omega | (show m ≤ n + 1000; omega) | (dsimp only; omega)
    · walk_at "WK"
      first | (show n + 1 + 1 + 1 ≤ n + 1000; omega) | omega
  rintro ⟨sl, nn⟩ h
  walk_at "WK"
  first | exact h | exact ⟨rfl, h⟩
end
end Wx

/-! ### part S6 -/
set_option Elab.async false
set_option linter.all false
set_option maxRecDepth 100000
set_option maxHeartbeats 1000000
set_option autoImplicit false
namespace Wx
open PySem L2

def rrN : Ns := .dow (.r 1) (.dow (.r 1) .nil)
def r1N : Ns := .dow (.r 1) .nil
theorem tx_rr : joinT (toks rrN) = Str.ofString "r1 r1" := by decide +kernel
theorem tx_r1 : joinT (toks r1N) = Str.ofString "r1" := by decide +kernel
theorem tx_e : joinT (toks .nil) = Str.ofString "" := by decide +kernel
theorem ok_rr : okPl rrN := ⟨⟨wf_of (m := (0, 0, 0)) (⟨(show (1 : Nat) ≤ 1 ∧ 1 ≤ 99 from ⟨by decide, by decide⟩), (show (1 : Nat) ≤ 1 ∧ 1 ≤ 99 from ⟨by decide, by decide⟩), True.intro⟩ : wf0 rrN) (by unfold hiM; decide +kernel), by decide, by decide, by decide +kernel⟩, rfl⟩
theorem ok_r1 : okPl r1N := ⟨⟨wf_of (m := (0, 0, 0)) (⟨(show (1 : Nat) ≤ 1 ∧ 1 ≤ 99 from ⟨by decide, by decide⟩), True.intro⟩ : wf0 r1N) (by unfold hiM; decide +kernel), by decide, by decide, by decide +kernel⟩, rfl⟩
theorem ok_e : okPl .nil := ⟨⟨True.intro, by decide, by decide, by decide +kernel⟩, rfl⟩
theorem same_rr : decide (prN rrN = prN .nil) = true := by decide +kernel
theorem same_r1 : decide (prN r1N = prN .nil) = false := by decide +kernel
section
variable {P : Program} {w : World} {K : PySem.W.Frag} {mg : Str → Option Value} {base : Heap} {f C CP CT fI : Addr} {fd : FuncData}
abbrev sp_law (K : PySem.W.Frag) : Sp := fun vs H Q _ => ∃ a ns, vs = [.ref a] ∧ ns.length ≤ 63 ∧ Da K (fun _ => False) H (.ref a) (.list (List.map PyData.int ns)) ∧ ∀ H', Q (.bl true) H'
theorem body_l {N : List Str} {t : TS} (rd : ∀ (c : Cy) (ns : List Int), c.K = K → c.k = none → ns.length ≤ 63 → Ws c t ⟨Slo.of [.py (.list (ns.map PyData.int))] ++ List.replicate (N.length - [D.py (.list (ns.map PyData.int))].length) .emp, 0⟩ ⟨fun _ => False, fun d _ => d = .py (.bool true), fun _ => False, fun _ => False⟩)
    (vs : List V) (H : Hp) (Q : VK) (E : XK) (h : sp_law K vs H Q E) : t { nx := fun _ H' => Q .non H', rt := Q } (L2.start N vs) H := by
  obtain ⟨a, ns, rfl, hl, hd, hQ⟩ := h
  have g : Good ⟨K, none, fun _ => False, fun a z => nomatch z⟩ 0 H := ⟨fun a z => z.elim, fun a z => nomatch z⟩
  have o := start_ok (c := ⟨K, none, fun _ => False, fun a z => nomatch z⟩) (N := N) (ds := [.py (.list (ns.map PyData.int))]) g (vs := [.ref a]) ⟨hd, True.intro⟩ rfl
  refine (rd ⟨K, none, fun _ => False, fun a z => nomatch z⟩ ns rfl rfl hl).run _ _ H o _ (fun _ _ _ _ z _ _ _ => z.elim) (fun v H' d n q kp g x => ?_) (fun _ _ _ _ z _ _ _ => z.elim) (fun _ _ _ _ z _ _ _ => z.elim)
  subst q
  cases Da.bl_eq x
  exact hQ H'
theorem noK_app {s t : List Slo} (hs : noK s = true) (ht : noK t = true) : noK (s ++ t) = true := by
  unfold noK at *
  rw [List.all_append, hs, ht]
  rfl
theorem sc_law : FnScope ["script", "cell", "bag", "one", "two", "level"] ["script"] (defScope (top 92)) := ⟨rfl, rfl, rfl, by decide +kernel, rfl, by decide +kernel, by decide +kernel⟩
theorem ok_law (F : FnP K "law" "law" (top 92) f fd) (S__law_bag : Std P w K mg base 1 "_law_bag" ["cell"] (spKiln K)) (S__law_program : Std P w K mg base 10 "_law_program" ["bag", "most", "deep", "high", "split", "far"] (sp__law_program K)) (S__law_levelled : Std P w K mg base 3 "_law_levelled" ["bag", "words", "growth"] (sp__law_levelled K)) (S__law_times_right : Std P w K mg base 48 "_law_times_right" ["bag", "words"] (sp__law_times_right K C CP)) (S__law_pick : Std P w K mg base 1 "_law_pick" ["bag", "many"] (sp__law_pick K)) (S__law_pair_right : Std P w K mg base 48 "_law_pair_right" ["bag", "one", "two"] (sp__law_pair_right K C CP)) (S__law_measure : Std P w K mg base 2 "_law_measure" ["words"] (sp__law_measure K)) (S_same_effect : Std P w K mg base 43 "same_effect" ["program", "other"] (sp_same_effect K CP)) (kp : KitC K CP) (pa : PrA K CP) (gP : mg "Program" = some (.ref CP)) (I_Program : StdI P w K mg base 16 CP (si_Program___init__ K CP)) : FnG P w K mg base 49 f fd ["script"] (sp_law K) := by
  refine fng_of F sc_law (fun vs H Q E h => by obtain ⟨a, ns, rfl, _⟩ := h; rfl) (fun cdv A outer s H vs Q E hr gd h => ?_)
  have nd := sc_law.nd
  refine ⟨_, PSs.nox (pss_cons (ps_for PassesOwn.never rfl (ilistK (K := K) rfl (pe_op (addK (K := K) rfl) (pe_slice (slK (K := K) rfl) (pv 0) po_none (po_some (pe_int))) (pe_lst (pa_cons (pe_int) (pa_nil))))) (pg_name (i := 1) nd rfl (Or.inl rfl)) (pss_cons (ps_set (i := 2) nd rfl (Or.inl rfl) (pe_std S__law_bag (hr.mono (by decide)) rfl (pa_cons (pv 1) (pa_nil))))
 (pss_cons (ps_set (i := 3) nd rfl (Or.inl rfl) (pe_std S__law_program (hr.mono (by decide)) rfl (pa_cons (pv 2) (pa_cons (pe_ix (ixK (K := K) rfl) (pe_lst (pa_cons (pe_int) (pa_cons (pe_int) (pa_nil)))) (pe_std S__law_pick (hr.mono (by decide)) rfl (pa_cons (pv 2) (pa_cons (pe_int) (pa_nil)))) (fun _ _ => rfl)) (pa_cons (pe_int) (pa_cons (pe_ix (ixK (K := K) rfl) (pe_lst (pa_cons (pe_int) (pa_cons (pe_int) (pa_nil)))) (pe_std S__law_pick (hr.mono (by decide)) rfl (pa_cons (pv 2) (pa_cons (pe_int) (pa_nil)))) (fun _ _ => rfl)) (pa_cons (pe_int) (pa_cons (pe_int) (pa_nil)))))))))
 (pss_cons (ps_set (i := 4) nd rfl (Or.inl rfl) (pe_std S__law_program (hr.mono (by decide)) rfl (pa_cons (pv 2) (pa_cons (pe_int) (pa_cons (pe_int) (pa_cons (pe_int) (pa_cons (pe_int) (pa_cons (pe_int) (pa_nil)))))))))
 (pss_cons (ps_if (PW.pt (pw_or (pt_not (truK (K := K) rfl (pe_std S__law_pair_right hr rfl (pa_cons (pv 2) (pa_cons (pv 3) (pa_cons (pv 4) (pa_nil))))) (by intro _; rfl))) (pw_or1 (pt_not (truK (K := K) rfl (pe_std S__law_pair_right hr rfl (pa_cons (pv 2) (pa_cons (pv 4) (pa_cons (pv 3) (pa_nil))))) (by intro _; rfl)))))) (pss_one (ps_ret (pe_bl))) (pss_nil))
 (pss_cons (ps_if (pt_not (truK (K := K) rfl (pe_std S__law_times_right hr rfl (pa_cons (pv 2) (pa_cons (pv 3) (pa_nil)))) (by intro _; rfl))) (pss_one (ps_ret (pe_bl))) (pss_nil))
 (pss_cons (ps_set (i := 5) nd rfl (Or.inl rfl) (pe_std S__law_levelled (hr.mono (by decide)) rfl (pa_cons (pv 2) (pa_cons (pv 4) (pa_cons (pe_int) (pa_nil))))))
 (pss_one (ps_if (PW.pt (pw_and (pt_cmpR op_lt (pe_op (addK (K := K) rfl) (pe_ix (ixK (K := K) rfl) (pe_std S__law_measure (hr.mono (by decide)) rfl (pa_cons (pv 5) (pa_nil))) (pe_int) (fun _ _ => rfl)) (pe_ix (ixK (K := K) rfl) (pe_std S__law_measure (hr.mono (by decide)) rfl (pa_cons (pv 5) (pa_nil))) (pe_int) (fun _ _ => rfl))) (pe_int) (nomark _)) (pw_and1 (pt_not (truK (K := K) rfl (pe_std S__law_times_right hr rfl (pa_cons (pv 2) (pa_cons (pv 5) (pa_nil)))) (by intro _; rfl)))))) (pss_one (ps_ret (pe_bl))) (pss_nil))))))))))
 (pss_one (ps_ret (pe_and (pe_std S_same_effect (hr.mono (by decide)) rfl (pa_cons (pe_makeS I_Program gP (hr.mono (by decide)) rfl (pa_cons (pe_str) (pa_nil))) (pa_cons (pe_makeS I_Program gP (hr.mono (by decide)) rfl (pa_cons (pe_str) (pa_nil))) (pa_nil)))) (pe_one (pe_not (pe_std S_same_effect (hr.mono (by decide)) rfl (pa_cons (pe_makeS I_Program gP (hr.mono (by decide)) rfl (pa_cons (pe_str) (pa_nil))) (pa_cons (pe_makeS I_Program gP (hr.mono (by decide)) rfl (pa_cons (pe_str) (pa_nil))) (pa_nil)))))))))), ?_⟩
  refine body_l ?_ vs H Q E h
  clear h hr gd
  intro c ns hK hk hl
  (subst hK)
  try clear S__law_bag S__law_program S__law_levelled S__law_times_right S__law_pick S__law_pair_right S__law_measure S_same_effect I_Program F
  refine ws_seq ?_
  refine ws_mid (fun e1 => ∃ s1 s3 s4 s5, e1 = ⟨[.val (.py (.list (ns.map PyData.int))), s1, .emp, s3, s4, s5], 0⟩) ?_ ?_
  · refine ws_for [1] (wi_list rfl ?_)
    walk_at "WK"
    have ecut : cutD (List.map PyData.int ns) none (some 8) = (ns.take 8).map PyData.int := by
      rw [show (some (8 : Int)) = some ((8 : Nat) : Int) from rfl, cut_toN, List.map_take]
    have hs : (1000000 : Nat) ≤ sizeLine := by rw [sizeLine_eq]; decide
    rw [ecut]
    refine ⟨by rw [List.length_map, List.length_take]; show _ + 1 ≤ _; omega, ?_⟩
    rw [show (ns.take 8).map PyData.int ++ [PyData.int 0] = (ns.take 8 ++ [0]).map PyData.int by rw [List.map_append]; rfl]
    generalize ns.take 8 ++ [0] = cs
    show ∃ I, _
    refine ⟨fun _ e1 => ∃ s1 s3 s4 s5, noK [s3, s4, s5] = true ∧ e1 = ⟨[.val (.py (.list (ns.map PyData.int))), s1, .emp, s3, s4, s5], 0⟩, ⟨.emp, .emp, .emp, .emp, rfl, rfl⟩, ?_, fun e1 ⟨s1, s3, s4, s5, _, h⟩ => ⟨s1, s3, s4, s5, h⟩⟩
    rintro i d e1 hd ⟨s1, s3, s4, s5, hno, rfl⟩
    obtain ⟨v, rfl⟩ : ∃ v : Int, d = .py (.int v) := by
      obtain ⟨p, hp, rfl⟩ := List.mem_map.mp (List.mem_of_getElem? hd)
      obtain ⟨v, hv, rfl⟩ := List.mem_map.mp hp
      exact ⟨v, rfl⟩
    refine wg_name ⟨rfl, ?_⟩ (Nat.le_of_ble_eq_true rfl) (by decide)
    have nok : ∀ {r : List Slo}, noK r = true → noK (.val (.py (.list (ns.map PyData.int))) :: .val (.py (.int v)) :: .emp :: r) = true := fun {r} h =>
      noK_app (s := [.val (.py (.list (ns.map PyData.int))), .val (.py (.int v)), .emp]) (t := r) rfl h
    refine ws_kln (ik := 1) (i := 2) (k := v) rfl hk rfl (Nat.le_of_ble_eq_true rfl) (nok hno) fun c' hK' => ?_
    rw [← hK'] at *
    walk_at "WK"
    refine ⟨_, rfl, by decide, by decide, by decide, fun r1 a1 b1 => ?_⟩
    walk_at "WK"
    obtain ⟨mo, em, hmo⟩ := at2 (fun v => 1 ≤ v ∧ v ≤ 20) (i := 3) (j := 12) (r := r1) (by decide) (by decide) a1 b1
    refine ⟨_, em, ?_⟩
    clear em
    walk_at "WK"
    refine ⟨_, rfl, by decide, by decide, by decide, fun r2 a2 b2 => ?_⟩
    walk_at "WK"
    obtain ⟨hg, eh, hhg⟩ := at2 (fun v => 2 ≤ v ∧ v ≤ 90) (i := 3) (j := 20) (r := r2) (by decide) (by decide) a2 b2
    refine ⟨_, eh, ?_⟩
    clear eh
    obtain ⟨mo, rfl⟩ := Int.eq_ofNat_of_zero_le (show 0 ≤ mo by omega)
    walk_at "WK"
    refine ⟨(mo, hg), rfl, ⟨by dsimp only; omega, by dsimp only; omega, hhg.1, hhg.2, by decide⟩, ?_⟩
    rintro d m1 ⟨⟨a, rfl, aw, an, ah, at_, ad⟩, hm1⟩
    refine ⟨rfl, ?_⟩
    have ga : Gd a := ⟨aw, an, ah, by omega, ad⟩
    walk_at "WK"
    refine ⟨(6, 9), rfl, ⟨by decide, by decide, by decide, by decide, by omega⟩, ?_⟩
    rintro d m2 ⟨⟨b, rfl, bw, bn, bh, bt, bd⟩, hm2⟩
    refine ⟨rfl, ?_⟩
    have gb : Gd b := ⟨bw, bn, bh, by omega, bd⟩
    walk_at "WK"
    refine ⟨(a, b), rfl, ⟨ga, gb, by omega⟩, ?_⟩
    rintro d m3 ⟨rfl, hm3⟩
    refine ⟨rfl, ?_⟩
    walk_at "WK"
    refine ⟨fun _ => ?_, fun z => (nomatch z)⟩
    walk_at "WK"
    refine ⟨(b, a), rfl, ⟨gb, ga, by omega⟩, ?_⟩
    rintro d m4 ⟨rfl, hm4⟩
    refine ⟨rfl, ?_⟩
    walk_at "WK"
    refine ⟨fun z => (nomatch z), fun _ => ?_⟩
    walk_at "WK"
    refine ⟨a, rfl, ⟨ga, by omega⟩, ?_⟩
    rintro d m5 ⟨rfl, hm5⟩
    refine ⟨rfl, ?_⟩
    walk_at "WK"
    refine ⟨fun z => (nomatch z), fun _ => ?_⟩
    walk_at "WK"
    have gbd := gN_le gb.pl.1.1 bh
    refine ⟨b, rfl, ⟨bw, by omega, by omega, by omega⟩, ?_⟩
    rintro d m6 ⟨⟨l, rfl, lw, lg, ld, lt, ln⟩, hm6⟩
    refine ⟨rfl, ?_⟩
    have ml : (toks l).length ≤ 100000 ∧ (∀ t ∈ toks l, okTk t) ∧ MR (toks l) [(0, 0, 0)] (mN l) := ⟨by rw [toks_len]; omega, wf0_tok lw, mr_all lw⟩
    walk_at "WK"
    refine ⟨(toks l, mN l), rfl, ml, ?_⟩
    rintro d m ⟨rfl, rfl⟩
    refine ⟨rfl, ?_⟩
    dsimp only
    walk_at "WK"
    refine ⟨_, rfl, ?_⟩
    walk_at "WK"
    refine ⟨(toks l, mN l), rfl, ml, ?_⟩
    rintro d m ⟨rfl, rfl⟩
    refine ⟨rfl, ?_⟩
    dsimp only
    walk_at "WK"
    refine ⟨_, rfl, ?_⟩
    walk_at "WK"
    refine ⟨fun c1 => ?_, fun c1 => ?_⟩
    · have c1' := of_decide_eq_true c1
      have gl : Gd l := ⟨lw, ln gb.ne, by unfold hiM; omega, by omega, by omega⟩
      walk_at "WK"
      refine ⟨l, rfl, ⟨gl, by omega⟩, ?_⟩
      rintro d m7 ⟨rfl, hm7⟩
      refine ⟨rfl, ?_⟩
      walk_at "WK"
      refine ⟨fun z => (nomatch z), fun _ => ?_⟩
      walk_at "WK"
      exact ⟨.val (.py (.int v)), .val (.py (.list (ttx (toks a)))), .val (.py (.list (ttx (toks b)))), .val (.py (.list (ttx (toks l)))), rfl, rfl⟩
    · walk_at "WK"
      refine ⟨fun z => (nomatch z), fun _ => ?_⟩
      walk_at "WK"
      exact ⟨.val (.py (.int v)), .val (.py (.list (ttx (toks a)))), .val (.py (.list (ttx (toks b)))), .val (.py (.list (ttx (toks l)))), rfl, rfl⟩
  rintro e1 ⟨s1, s3, s4, s5, rfl⟩
  walk_at "WK"
  refine ⟨rrN, by rw [tx_rr]; rfl, ok_rr.1, ?_⟩
  walk_at "WK"
  refine ⟨.nil, by rw [tx_e]; rfl, ok_e.1, ?_⟩
  walk_at "WK"
  refine ⟨(rrN, .nil), rfl, ⟨ok_rr, ok_e⟩, ?_⟩
  rintro d m ⟨rfl, rfl⟩
  refine ⟨rfl, ?_⟩
  dsimp only
  rw [same_rr]
  walk_at "WK"
  refine ⟨fun _ => ?_, fun z => (nomatch z)⟩
  walk_at "WK"
  refine ⟨r1N, by rw [tx_r1]; rfl, ok_r1.1, ?_⟩
  walk_at "WK"
  refine ⟨.nil, by rw [tx_e]; rfl, ok_e.1, ?_⟩
  walk_at "WK"
  refine ⟨(r1N, .nil), rfl, ⟨ok_r1, ok_e⟩, ?_⟩
  rintro d m ⟨rfl, rfl⟩
  refine ⟨rfl, ?_⟩
  dsimp only
  rw [same_r1]
  walk_at "WK"
  rfl
end
end Wx

/-! ### part S7 -/
set_option Elab.async false
set_option linter.all false
set_option maxRecDepth 100000
set_option maxHeartbeats 1000000
set_option autoImplicit false
namespace Wx
open PySem L2

theorem vl_max {σ : L2.St} {H : Hp} {ta tb : TE} {i j : Int} (a : Vl ta σ H (.int i)) (b : Vl tb σ H (.int j)) : Vl (tCB rMAX2 (tCons ta (tCons tb tNil))) σ H (.int (if j > i then j else i)) := fun Q q => a _ (b _ ⟨i, j, rfl, q⟩)
section
variable {P : Program} {w : World} {K : PySem.W.Frag} {mg : Str → Option Value} {base : Heap} {f C : Addr} {fd : FuncData}
theorem sc__law_bag : FnScope ["cell"] ["cell"] (defScope (top 74)) := ⟨rfl, rfl, rfl, by decide +kernel, rfl, by decide +kernel, by decide +kernel⟩
theorem ok__law_bag (F : FnP K "_law_bag" "_law_bag" (top 74) f fd) (g_max : mg "max" = none) : FnOk P w K mg base CX0 1 f fd ["cell"] (spKiln K) := by
  refine F.ok sc__law_bag (fun vs H Q E h => by obtain ⟨k, rfl, _⟩ := h; rfl) (fun cdv A outer s H vs Q E hr h => ?_)
  have nd := sc__law_bag.nd
  refine ⟨_, PSs.nox (pss_one (ps_ret (pe_lst (pa_cons (pe_callB (callMAX2 rfl) rfl g_max bt_max (pa_cons (pe_int) (pa_cons (pe_op op_sub (pv 0) (pe_op opPOW (pe_int) (pe_int))) (pa_nil)))) (pa_cons (pv 0) (pa_cons (pe_int) (pa_nil))))))), ?_⟩
  clear hr
  obtain ⟨k, rfl, fin⟩ := h
  have a1 := vl_max (σ := [some (V.int k)]) (H := H) (vl_c (v := .int 0)) (vl_i0 (g := fun i j => V.int (i - j)) (vl_v (i := 0) rfl) (vl_pow (vl_c (v := .int 10)) (vl_c (v := .int 18)) ⟨by decide, by decide, by decide +kernel, by decide⟩))
  refine a1 _ (vl_v (σ := [some (V.int k)]) (H := H) (i := 0) (v := .int k) rfl _ ⟨by show 3 ≤ sizeLine; decide, fun p hp => ?_⟩)
  refine fin _ _ p (by split <;> omega) hp
end
end Wx

/-! ### part Hx -/
set_option Elab.async false
set_option linter.all false
set_option maxRecDepth 100000
set_option maxHeartbeats 1000000
set_option autoImplicit false
/-! What the head says of the own error, of __mul__ and of a tuple at a global. -/
namespace Wx
open PySem L2 PyProof.Rows
theorem mulB_ok {K : PySem.W.Frag} {C : Addr} (h : mulB K C = true) : MulK K C := by
  obtain ⟨h1, h⟩ := He.ba h
  obtain ⟨h2, h⟩ := He.ba h
  obtain ⟨h3, h⟩ := He.ba h
  obtain ⟨h4, h5⟩ := He.ba h
  exact ⟨h1, He.eqO_ok h2, Option.isSome_iff_exists.mp h3, Option.isSome_iff_exists.mp h4, of_decide_eq_true h5⟩
theorem ownB_ok {K : PySem.W.Frag} {C : Addr} (q : ownB K C = true) : ∃ nm q N bs bm sn sub ab col dd k0 k1 k2 k3 k5, K.lookup C = some (PySem.excClassObj nm q C N bs bm true sn sub ab col dd k0 k1 k2 k3 k5 "ValueError.__new__") ∧ PySem.HandSPX.refsVE bm = true := by
  unfold ownB at q
  split at q
  · rename_i dd cd sl ho
    split at q
    · rename_i C' bm k0 k1 k2 k3 n k5 hm hs
      obtain ⟨q1, q⟩ := He.ba q
      obtain ⟨q2, q⟩ := He.ba q
      obtain ⟨q3, q⟩ := He.ba q
      obtain ⟨q4, q5⟩ := He.ba q
      simp only [beq_iff_eq, Bool.not_eq_true'] at q1 q2 q3
      subst q1 q2
      obtain ⟨nm, bs, mro, ns, qn, hd, sn, sub, ab, col, del⟩ := cd
      dsimp only at hm q3 q4 q5
      subst hm q3 q4
      have hsl : sl = #[k0, k1, k2, k3, some (.builtin "ValueError.__new__"), k5] := by
        apply Array.toList_inj.mp
        rw [hs]
      subst hsl
      exact ⟨nm, qn, ns, bs, bm, sn, sub, ab, col, dd, k0, k1, k2, k3, k5, ho, q5⟩
    · cases q
  · cases q
theorem nothB_ok {K : PySem.W.Frag} {h : Heap} {mg : Str → Option Value} {x : Str} (X : K.In h) (G : h.Ns mainGlobals mg) (q : nothB K x = true) : GTup K mg x (.tuple [.int 0, .tuple []]) := by
  unfold nothB at q
  split at q
  · rename_i a ha
    split at q
    · rename_i d1 its n1 sl1 ho
      split at q
      · rename_i i tk b hi
        obtain ⟨q1, q2⟩ := He.ba q
        have e0 := of_decide_eq_true q1
        subst e0
        split at q2
        · rename_i d2 js n2 sl2 hb
          have ej : js.toList = [] := List.isEmpty_iff.mp q2
          refine ⟨a, PySem.W.mg_of X G ha, fun S H => .tupK (xs := [.int 0, .ref b]) (fun G' => .inr ⟨_, its, n1, ho, rfl, rfl, ?_, ?_⟩) (.cons (.int 0) (.cons (.tupK (xs := []) (fun G' => .inr ⟨_, js, n2, hb, rfl, rfl, ?_, ?_⟩) .nil) .nil))⟩
          · rw [← Array.length_toList, hi]; exact (by decide : 2 ≤ sizeLine)
          · rw [hi]; exact .cons ⟨tk, rfl⟩ (.cons rfl .nil)
          · rw [← Array.length_toList, ej]; decide
          · rw [ej]; exact .nil
        · cases q2
      · cases q
    · cases q
  · cases q
theorem thB_ok {K : PySem.W.Frag} {mg : Str → Option Value} {C fI : Addr} {fd : FuncData} {p1 p2 q1 q2 q3 q4 : Pos} (q : thB K C fI = true) (gC : mg "ShortStack" = some (.ref C))
    (F : FunD K "__init__" "ShortStack.__init__" (PySem.XShortStack.iA_ShortStack p1 p2) (PySem.XShortStack.iB_ShortStack q1 q2 q3 q4) PySem.XShortStack.iS_ShortStack [] [] fI fd) : PySem.XShortStack.TxtShortStack K mg C fI := by
  obtain ⟨h1, q⟩ := He.ba q
  obtain ⟨h2, q⟩ := He.ba q
  obtain ⟨h3, q⟩ := He.ba q
  obtain ⟨h4, q⟩ := He.ba q
  obtain ⟨h5, q⟩ := He.ba q
  obtain ⟨h6, q⟩ := He.ba q
  obtain ⟨h7, q⟩ := He.ba q
  obtain ⟨h8, q⟩ := He.ba q
  obtain ⟨h9, q⟩ := He.ba q
  obtain ⟨h10, q⟩ := He.ba q
  obtain ⟨h11, q⟩ := He.ba q
  obtain ⟨h12, h13⟩ := He.ba q
  refine ⟨gC, ownB_ok h1, He.eqO_ok h2, He.eqO_ok h3, He.eqO_ok h4, He.eqO_ok h5, He.eqO_ok h6, of_decide_eq_true h7, h8, of_decide_eq_true h9, of_decide_eq_true h10, h11, of_decide_eq_true h12, ?_⟩
  obtain ⟨oc, od, dV, kV, doc, pm, an, cdv, ct, osl, rfl, lk, hcd, hd, _⟩ := F.ex
  have ed : dV = .none := by
    rcases hd with ⟨_, hd⟩ | ⟨hd, _⟩
    · exact hd
    · exact absurd rfl hd
  have ek : kV = .none := by
    unfold kwN at h13
    rw [lk] at h13
    have z := He.eqO_ok h13
    exact Option.some.inj (Option.some.inj z)
  subst ed ek
  exact ⟨oc, od, doc, pm, an, cdv, ct, osl, p1, p2, q1, q2, q3, q4, lk, hcd⟩
end Wx

/-! ### part H9 -/
set_option Elab.async false
set_option linter.all false
set_option maxRecDepth 100000
set_option maxHeartbeats 0
set_option autoImplicit false
/-! The head's facts. -/
namespace Wx
open PySem L2 PyProof.Rows
theorem get_ok {K : PySem.W.Frag} {C : Addr} {d : GetD} (hb : getB K C d = true) (hv : fnAt K (gad K C d.name) = getV d) : ∃ fd, FunD K d.name (d.cn ++ d.name) (defArgs d.st) (defBody d.st) (defScope d.st) [] [] (gad K C d.name) fd ∧ PropOf K C d.name (pad K C d.name) (gad K C d.name) := by
  obtain ⟨b1, hb⟩ := He.ba hb
  obtain ⟨b2, hb⟩ := He.ba hb
  obtain ⟨b3, hb⟩ := He.ba hb
  obtain ⟨b4, hb⟩ := He.ba hb
  obtain ⟨b5, b6⟩ := He.ba hb
  have rc : ∃ rest, PySem.W.recIn K (pad K C d.name) "property" = some (.ref (gad K C d.name) :: rest) := by
    unfold gad
    cases z : PySem.W.recIn K (pad K C d.name) "property" with
    | none => rw [z] at b4; cases b4
    | some l =>
      cases l with
      | nil => rw [z] at b4; cases b4
      | cons v r =>
        cases v <;> first | exact ⟨r, rfl⟩ | (rw [z] at b4; cases b4)
  have pr : PropOf K C d.name (pad K C d.name) (gad K C d.name) := ⟨He.eqO_ok b1, He.eqO_ok b2, dec b3, rc⟩
  unfold fnAt getV at hv
  cases z : K.lookup (gad K C d.name) with
  | none => rw [z] at b6; cases b6
  | some o =>
    obtain ⟨oc, od, dt, osl⟩ := o
    rw [z] at b6 hv
    cases dt with
    | func fd =>
      obtain ⟨n1, n2, n3, n4, n5, n6, n7, n8, n9, n10, n11, n12, n13, n14, n15⟩ := fd
      simp only [Option.some.injEq, Prod.mk.injEq] at hv
      obtain ⟨h1, h2, h3, h4, h5, h6, h7, h8⟩ := hv
      subst h1 h2 h3 h4 h5 h6 h7 h8
      have b6' : (PySem.W.codeIn K n13 (d.cn ++ d.name) && (He.dflB K n8 [] && He.kwdB K n9 [])) = true := b6
      obtain ⟨c1, c2⟩ := He.ba b6'
      obtain ⟨c3, c4⟩ := He.ba c2
      exact ⟨_, ⟨⟨oc, od, n8, n9, n10, n11, n12, n13, n14, osl, rfl, z, c1, He.dflB_ok c3, He.kwdB_ok c4⟩, b5⟩, pr⟩
    | _ => cases b6
theorem cls_of {K : PySem.W.Frag} {C : Addr} (cl : Cls K C) (h : clsB K C = true) : KitC K C ∧ PySem.W.findIn K (.ref C) "__ne__" = some (some (.builtin "object.__ne__")) ∧ PySem.W.selfFirst K C = true := by
  obtain ⟨c1, h⟩ := He.ba h
  obtain ⟨c2, h⟩ := He.ba h
  obtain ⟨c3, h⟩ := He.ba h
  obtain ⟨c4, h⟩ := He.ba h
  obtain ⟨c5, h⟩ := He.ba h
  obtain ⟨c6, h⟩ := He.ba h
  obtain ⟨c7, x1⟩ := He.ba h
  refine ⟨⟨cl, He.eqO_ok c1, He.eqO_ok c2, dec c3, dec c4, dec c5, fun s hs => ?_⟩, He.eqO_ok c7, x1⟩
  obtain ⟨z1, z2⟩ := He.ba (List.all_eq_true.mp c6 s hs)
  exact ⟨dec z1, z2⟩
abbrev GetE (K : PySem.W.Frag) (d : GetD) : Prop := ∃ fd, FunD K d.name (d.cn ++ d.name) (defArgs d.st) (defBody d.st) (defScope d.st) [] [] (gad K (He.ga K d.c) d.name) fd ∧ PropOf K (He.ga K d.c) d.name (pad K (He.ga K d.c) d.name) (gad K (He.ga K d.c) d.name)
theorem More.all {K : PySem.W.Frag} (m : More K) : clsB K (He.ga K "Effect") = true ∧ clsB K (He.ga K "Program") = true ∧ PySem.W.fnIn K (He.ma K (He.ga K "Effect") "__call__") = true ∧ (mulB K (He.ga K "Effect") && (mulB K (He.ga K "Program") && (nothB K "NOTHING" && thB K (He.ga K "ShortStack") (He.ma K (He.ga K "ShortStack") "__init__")))) = true := by
  obtain ⟨h1, h⟩ := He.ba m.b
  obtain ⟨h2, h⟩ := He.ba h
  obtain ⟨h3, h⟩ := He.ba h
  obtain ⟨h4, h5⟩ := He.ba h
  exact ⟨h1, h2, h3, h5⟩
theorem More.get {K : PySem.W.Frag} (m : More K) (i : Nat) (hi : i < gs.length) : GetE K gs[i] := by
  obtain ⟨h1, h⟩ := He.ba m.b
  obtain ⟨h2, h⟩ := He.ba h
  obtain ⟨h3, h⟩ := He.ba h
  obtain ⟨h4, h5⟩ := He.ba h
  refine get_ok (List.all_eq_true.mp h4 _ (List.getElem_mem hi)) ?_
  have z : (gs.map (fun d => fnAt K (gad K (He.ga K d.c) d.name)))[i]? = (gs.map getV)[i]? := by rw [m.v, valG_eq]
  rw [List.getElem?_map, List.getElem?_map, List.getElem?_eq_getElem hi] at z
  exact Option.some.inj z
section
variable {P : Program} {w : World} {K : PySem.W.Frag} {mg : Str → Option Value} {base : Heap} {f : Addr} {fd : FuncData} {k : Nat} {ps : List Str}
theorem void_x {ι : Type} {ar : ι → List D} {pre : ι → Nat → Prop} {post : ι → Nat → D → Nat → Prop} (h : ∀ x n, ¬ pre x n) : ∀ vs H Q E, ¬ SpX K ar pre post vs H Q E := fun vs H Q E q => by
  obtain ⟨x, q⟩ := q
  have a := sp_len (m := 0) (fun ds n z => absurd z.2 (h x n)) vs H Q E q
  have b := sp_len (m := 1) (fun ds n z => absurd z.2 (h x n)) vs H Q E q
  omega
theorem void_nodes_from : ∀ vs H Q E, ¬ sp_nodes_from K 0 vs H Q E := void_x fun x n z => Nat.not_lt_zero _ z.2.2.1
theorem void_measure_in : ∀ vs H Q E, ¬ sp_measure_in K 0 vs H Q E := void_x fun x n z => Nat.not_lt_zero _ z.2
theorem void_length_in : ∀ vs H Q E, ¬ sp_length_in K 0 vs H Q E := void_x fun x n z => Nat.not_lt_zero _ z.2.2.2.2
theorem void_is_plain_in : ∀ vs H Q E, ¬ sp_is_plain_in K 0 vs H Q E := void_x fun x n z => Nat.not_lt_zero _ z.2
theorem void__law_part : ∀ vs H Q E, ¬ sp__law_part K 0 vs H Q E := void_x fun x n z => Nat.not_lt_zero _ z.1
theorem void_node_pair : ∀ vs H Q E, ¬ sp_node_pair K 0 vs H Q E := void_x fun x n (z : ndOk 0 x.2.1) => by
  obtain ⟨p, nd, b⟩ := x
  cases nd with
  | inl w => exact Nat.not_lt_zero _ z.2
  | inr q => exact Nat.not_lt_zero _ z.2.2.2.2.2.2.2.2
theorem mrec {fN fP : Addr} {dN dP : FuncData} (mn : mg "node_pair" = some (.ref fN)) (kn : PySem.W.keepIn K (.ref fN) = true) (bn : Binds K dN ["node", "chosen"] []) (mp : mg "pair_of" = some (.ref fP)) (kp : PySem.W.keepIn K (.ref fP) = true) (bp : Binds K dP ["nodes", "chosen"] [])
    (hn : ∀ d, Std P w K mg base (2 * d + 15) "pair_of" ["nodes", "chosen"] (sp_pair_of K d) → FnOk P w K mg base CX0 (2 * d + 15 + 1) fN dN ["node", "chosen"] (sp_node_pair K (d + 1)))
    (hp : ∀ d, Std P w K mg base (2 * d + 14) "node_pair" ["node", "chosen"] (sp_node_pair K d) → FnOk P w K mg base CX0 (2 * d + 14 + 1) fP dP ["nodes", "chosen"] (sp_pair_of K d)) : ∀ d, FnOk P w K mg base CX0 (2 * d + 14) fN dN ["node", "chosen"] (sp_node_pair K d)
  | 0 => fnok_void void_node_pair
  | d + 1 => by
    have := hn d ⟨fP, dP, hp d ⟨fN, dN, mrec mn kn bn mp kp bp hn hp d, mn, kn, bn⟩, mp, kp, bp⟩
    rw [show 2 * (d + 1) + 14 = 2 * d + 15 + 1 by omega]
    exact this
end
theorem facts {P : Program} {w : World} {K : PySem.W.Frag} {h : Heap} {mg : Str → Option Value} {f : Addr} (X : K.In h) (G : h.Ns mainGlobals mg) (hfa : mg ("law" : Str) = some (.ref f)) (c : He.SaysD fa fn K) (b : More K) :
    ∃ fd : FuncData, (∀ (s : Shared) (v : Value), BindsTo s fd ⟨[v], []⟩ [("script", v)]) ∧ ∀ base : Heap, K.In base → base.Ns mainGlobals mg → FnG P w K mg base 49 f fd ["script"] (sp_law K) := by
  obtain ⟨fd, F⟩ := c.def_ 67 (d := d_law) rfl
  have e := hfa.symm.trans (He.glo_ok X G (c.fact 101 (f := .glo "law") rfl))
  cases e
  have bl := FunD.bindsA (ps := ["script"]) F fun _ _ _ _ _ _ us hl => match us, hl with | [_], _ => rfl
  refine ⟨fd, fun s v => bl s [v] rfl, fun base _ _ => ?_⟩
  have cl : Cls K (He.ga K "Effect") := He.cls_ok (c.fact 0 (f := .cls "Effect") rfl)
  have clp : Cls K (He.ga K "Program") := He.cls_ok (c.fact 1 (f := .cls "Program") rfl)
  obtain ⟨hbE, hbP, fiE, hbx⟩ := b.all
  obtain ⟨kc, ne, sf⟩ := cls_of cl hbE
  obtain ⟨kp, nep, sfp⟩ := cls_of clp hbP
  obtain ⟨hb1, hbx⟩ := He.ba hbx
  obtain ⟨hb2, hbx⟩ := He.ba hbx
  obtain ⟨hb3, hb4⟩ := He.ba hbx
  have mk := mulB_ok hb1
  have mkp := mulB_ok hb2
  have t_NOTHING : GTup K mg "NOTHING" (.tuple [.int 0, .tuple []]) := nothB_ok X G hb3
  obtain ⟨fd_x, F_x⟩ := c.def_ 0 (d := d_xShortStack) rfl
  have gX : mg "ShortStack" = some (.ref (He.ga K "ShortStack")) := He.glo_ok X G (c.fact 2 (f := .glo "ShortStack") rfl)
  have TH : PySem.XShortStack.TxtShortStack K mg (He.ga K "ShortStack") (He.ma K (He.ga K "ShortStack") "__init__") := thB_ok hb4 gX F_x
  have gE : mg "Effect" = some (.ref (He.ga K "Effect")) := He.glo_ok X G (c.fact 3 (f := .glo "Effect") rfl)
  have gP : mg "Program" = some (.ref (He.ga K "Program")) := He.glo_ok X G (c.fact 4 (f := .glo "Program") rfl)
  obtain ⟨fd__law_bag, F__law_bag⟩ := c.def_ 1 (d := d__law_bag) rfl
  have m__law_bag : mg "_law_bag" = some (.ref (He.ga K "_law_bag")) := He.glo_ok X G (c.fact 5 (f := .glo "_law_bag") rfl)
  have hb__law_bag : Binds K fd__law_bag ["cell"] [] := F__law_bag.bindsN (fun _ _ _ _ _ _ us hl => match us, hl with | [_], _ => rfl)
  have g_max : mg "max" = none := He.free_ok X G (c.fact 6 (f := .free "max") rfl)
  have S__law_bag : Std P w K mg base 1 "_law_bag" ["cell"] (spKiln K) := ⟨_, fd__law_bag, ok__law_bag F__law_bag g_max, m__law_bag, F__law_bag.kp, hb__law_bag⟩
  obtain ⟨fd__law_program, F__law_program⟩ := c.def_ 2 (d := d__law_program) rfl
  have m__law_program : mg "_law_program" = some (.ref (He.ga K "_law_program")) := He.glo_ok X G (c.fact 7 (f := .glo "_law_program") rfl)
  have hb__law_program : Binds K fd__law_program ["bag", "most", "deep", "high", "split", "far"] [] := F__law_program.bindsN (fun _ _ _ _ _ _ us hl => match us, hl with | [_, _, _, _, _, _], _ => rfl)
  obtain ⟨fd__law_part, F__law_part⟩ := c.def_ 3 (d := d__law_part) rfl
  have m__law_part : mg "_law_part" = some (.ref (He.ga K "_law_part")) := He.glo_ok X G (c.fact 8 (f := .glo "_law_part") rfl)
  have hb__law_part : Binds K fd__law_part ["bag", "most", "deep", "high", "split", "far"] [] := F__law_part.bindsN (fun _ _ _ _ _ _ us hl => match us, hl with | [_, _, _, _, _, _], _ => rfl)
  obtain ⟨fd__law_pick, F__law_pick⟩ := c.def_ 4 (d := d__law_pick) rfl
  have m__law_pick : mg "_law_pick" = some (.ref (He.ga K "_law_pick")) := He.glo_ok X G (c.fact 9 (f := .glo "_law_pick") rfl)
  have hb__law_pick : Binds K fd__law_pick ["bag", "many"] [] := F__law_pick.bindsN (fun _ _ _ _ _ _ us hl => match us, hl with | [_, _], _ => rfl)
  have S__law_pick : Std P w K mg base 1 "_law_pick" ["bag", "many"] (sp__law_pick K) := ⟨_, fd__law_pick, ok__law_pick F__law_pick , m__law_pick, F__law_pick.kp, hb__law_pick⟩
  have g_len : mg "len" = none := He.free_ok X G (c.fact 10 (f := .free "len") rfl)
  obtain ⟨fd__law_levelled, F__law_levelled⟩ := c.def_ 5 (d := d__law_levelled) rfl
  have m__law_levelled : mg "_law_levelled" = some (.ref (He.ga K "_law_levelled")) := He.glo_ok X G (c.fact 11 (f := .glo "_law_levelled") rfl)
  have hb__law_levelled : Binds K fd__law_levelled ["bag", "words", "growth"] [] := F__law_levelled.bindsN (fun _ _ _ _ _ _ us hl => match us, hl with | [_, _, _], _ => rfl)
  obtain ⟨fd__law_measure, F__law_measure⟩ := c.def_ 6 (d := d__law_measure) rfl
  have m__law_measure : mg "_law_measure" = some (.ref (He.ga K "_law_measure")) := He.glo_ok X G (c.fact 12 (f := .glo "_law_measure") rfl)
  have hb__law_measure : Binds K fd__law_measure ["words"] [] := F__law_measure.bindsN (fun _ _ _ _ _ _ us hl => match us, hl with | [_], _ => rfl)
  obtain ⟨fd__law_measured, F__law_measured⟩ := c.def_ 7 (d := d__law_measured) rfl
  have m__law_measured : mg "_law_measured" = some (.ref (He.ga K "_law_measured")) := He.glo_ok X G (c.fact 13 (f := .glo "_law_measured") rfl)
  have hb__law_measured : Binds K fd__law_measured ["measure", "part"] [] := F__law_measured.bindsN (fun _ _ _ _ _ _ us hl => match us, hl with | [_, _], _ => rfl)
  have S__law_measured : Std P w K mg base 1 "_law_measured" ["measure", "part"] (sp__law_measured K) := ⟨_, fd__law_measured, ok__law_measured F__law_measured g_max, m__law_measured, F__law_measured.kp, hb__law_measured⟩
  have g_int : mg "int" = none := He.free_ok X G (c.fact 14 (f := .free "int") rfl)
  have S__law_measure : Std P w K mg base 2 "_law_measure" ["words"] (sp__law_measure K) := ⟨_, fd__law_measure, ok__law_measure F__law_measure S__law_measured g_max g_int, m__law_measure, F__law_measure.kp, hb__law_measure⟩
  obtain ⟨fd__law_constant, F__law_constant⟩ := c.def_ 8 (d := d__law_constant) rfl
  have m__law_constant : mg "_law_constant" = some (.ref (He.ga K "_law_constant")) := He.glo_ok X G (c.fact 15 (f := .glo "_law_constant") rfl)
  have hb__law_constant : Binds K fd__law_constant ["bag"] [] := F__law_constant.bindsN (fun _ _ _ _ _ _ us hl => match us, hl with | [_], _ => rfl)
  have g_str : mg "str" = none := He.free_ok X G (c.fact 16 (f := .free "str") rfl)
  have S__law_constant : Std P w K mg base 2 "_law_constant" ["bag"] (sp__law_constant K) := ⟨_, fd__law_constant, ok__law_constant F__law_constant S__law_pick g_str, m__law_constant, F__law_constant.kp, hb__law_constant⟩
  have g_range : mg "range" = none := He.free_ok X G (c.fact 17 (f := .free "range") rfl)
  have S__law_levelled : Std P w K mg base 3 "_law_levelled" ["bag", "words", "growth"] (sp__law_levelled K) := ⟨_, fd__law_levelled, ok__law_levelled F__law_levelled S__law_measure S__law_constant g_range, m__law_levelled, F__law_levelled.kp, hb__law_levelled⟩
  obtain ⟨fd__law_number, F__law_number⟩ := c.def_ 9 (d := d__law_number) rfl
  have m__law_number : mg "_law_number" = some (.ref (He.ga K "_law_number")) := He.glo_ok X G (c.fact 18 (f := .glo "_law_number") rfl)
  have hb__law_number : Binds K fd__law_number ["bag", "far"] [] := F__law_number.bindsN (fun _ _ _ _ _ _ us hl => match us, hl with | [_, _], _ => rfl)
  have S__law_number : Std P w K mg base 2 "_law_number" ["bag", "far"] (sp__law_number K) := ⟨_, fd__law_number, ok__law_number F__law_number g_str S__law_pick, m__law_number, F__law_number.kp, hb__law_number⟩
  obtain ⟨fd__law_word, F__law_word⟩ := c.def_ 10 (d := d__law_word) rfl
  have m__law_word : mg "_law_word" = some (.ref (He.ga K "_law_word")) := He.glo_ok X G (c.fact 19 (f := .glo "_law_word") rfl)
  have hb__law_word : Binds K fd__law_word ["bag", "high"] [] := F__law_word.bindsN (fun _ _ _ _ _ _ us hl => match us, hl with | [_, _], _ => rfl)
  have S__law_word : Std P w K mg base 3 "_law_word" ["bag", "high"] (sp__law_word K) := ⟨_, fd__law_word, ok__law_word F__law_word S__law_pick S__law_constant g_str g_max, m__law_word, F__law_word.kp, hb__law_word⟩
  have S__law_part : Std P w K mg base 8 "_law_part" ["bag", "most", "deep", "high", "split", "far"] (sp__law_part K 4) := ⟨_, fd__law_part, rec_ok (k0 := 4) (sp := fun d => sp__law_part K d) m__law_part F__law_part.kp hb__law_part (void__law_part) (fun d S => ok__law_part F__law_part S__law_pick g_len S__law_levelled S g_max S__law_number S__law_word g_range S__law_measure g_str) 4, m__law_part, F__law_part.kp, hb__law_part⟩
  have g_min : mg "min" = none := He.free_ok X G (c.fact 20 (f := .free "min") rfl)
  have S__law_program : Std P w K mg base 10 "_law_program" ["bag", "most", "deep", "high", "split", "far"] (sp__law_program K) := ⟨_, fd__law_program, ok__law_program F__law_program S__law_part g_len g_max g_min S__law_measure, m__law_program, F__law_program.kp, hb__law_program⟩
  obtain ⟨fd__law_times_right, F__law_times_right⟩ := c.def_ 11 (d := d__law_times_right) rfl
  have m__law_times_right : mg "_law_times_right" = some (.ref (He.ga K "_law_times_right")) := He.glo_ok X G (c.fact 21 (f := .glo "_law_times_right") rfl)
  have hb__law_times_right : Binds K fd__law_times_right ["bag", "words"] [] := F__law_times_right.bindsN (fun _ _ _ _ _ _ us hl => match us, hl with | [_, _], _ => rfl)
  obtain ⟨fd_effect_of, F_effect_of⟩ := c.def_ 12 (d := d_effect_of) rfl
  have m_effect_of : mg "effect_of" = some (.ref (He.ga K "effect_of")) := He.glo_ok X G (c.fact 22 (f := .glo "effect_of") rfl)
  have F_effect_of : FnPK [("choices", V.str (Str.ofString ""))] K "effect_of" "effect_of" (top 68) (He.ga K "effect_of") fd_effect_of := F_effect_of
  obtain ⟨ds_effect_of, hv_effect_of, hb_effect_of⟩ := FunD.binds0 (ps := ["program", "choices"]) F_effect_of 1 (by exact fun z => nomatch z) rfl (fun D doc pm an cdv ct us ks h1 h2 => match us, ks, h1, h2 with | [_], [_], _, _ => ⟨_, _, _, _, _, _, rfl, rfl, rfl⟩)
  obtain ⟨fd_require_program, F_require_program⟩ := c.def_ 13 (d := d_require_program) rfl
  have m_require_program : mg "require_program" = some (.ref (He.ga K "require_program")) := He.glo_ok X G (c.fact 23 (f := .glo "require_program") rfl)
  have hb_require_program : Binds K fd_require_program ["value"] [] := F_require_program.bindsN (fun _ _ _ _ _ _ us hl => match us, hl with | [_], _ => rfl)
  have g_isinstance : mg "isinstance" = none := He.free_ok X G (c.fact 24 (f := .free "isinstance") rfl)
  have a_own_text : NoAttr K (He.ga K "Program") "own_text" := He.noat_ok (c.fact 25 (f := .noat "Program" "own_text") rfl)
  have a_own_words : NoAttr K (He.ga K "Program") "own_words" := He.noat_ok (c.fact 26 (f := .noat "Program" "own_words") rfl)
  have a_own_nodes : NoAttr K (He.ga K "Program") "own_nodes" := He.noat_ok (c.fact 27 (f := .noat "Program" "own_nodes") rfl)
  have a_own_need : NoAttr K (He.ga K "Program") "own_need" := He.noat_ok (c.fact 28 (f := .noat "Program" "own_need") rfl)
  have a_own_rise : NoAttr K (He.ga K "Program") "own_rise" := He.noat_ok (c.fact 29 (f := .noat "Program" "own_rise") rfl)
  have a_own_growth : NoAttr K (He.ga K "Program") "own_growth" := He.noat_ok (c.fact 30 (f := .noat "Program" "own_growth") rfl)
  have a_own_plain : NoAttr K (He.ga K "Program") "own_plain" := He.noat_ok (c.fact 31 (f := .noat "Program" "own_plain") rfl)
  have a_own_steps : NoAttr K (He.ga K "Program") "own_steps" := He.noat_ok (c.fact 32 (f := .noat "Program" "own_steps") rfl)
  have a_own_open : NoAttr K (He.ga K "Program") "own_open" := He.noat_ok (c.fact 33 (f := .noat "Program" "own_open") rfl)
  have pa : PrA K (He.ga K "Program") := ⟨kp.cl, a_own_text, a_own_words, a_own_nodes, a_own_need, a_own_rise, a_own_growth, a_own_plain, a_own_steps, a_own_open⟩
  have S_require_program : Std P w K mg base 1 "require_program" ["value"] (sp_require_program K (He.ga K "Program")) := ⟨_, fd_require_program, ok_require_program F_require_program g_isinstance kp pa gP, m_require_program, F_require_program.kp, hb_require_program⟩
  obtain ⟨fd_effect_from, F_effect_from⟩ := c.def_ 14 (d := d_effect_from) rfl
  have m_effect_from : mg "effect_from" = some (.ref (He.ga K "effect_from")) := He.glo_ok X G (c.fact 34 (f := .glo "effect_from") rfl)
  have hb_effect_from : Binds K fd_effect_from ["pair"] [] := F_effect_from.bindsN (fun _ _ _ _ _ _ us hl => match us, hl with | [_], _ => rfl)
  have i_MOST_HIGH : GInt mg "MOST_HIGH" 100 := He.int_ok X G (c.fact 35 (f := .int "MOST_HIGH" 100) rfl)
  obtain ⟨fd_Effect___init__, F_Effect___init__⟩ := c.def_ 15 (d := d_Effect___init__) rfl
  obtain ⟨fd_in_range, F_in_range⟩ := c.def_ 16 (d := d_in_range) rfl
  have m_in_range : mg "in_range" = some (.ref (He.ga K "in_range")) := He.glo_ok X G (c.fact 37 (f := .glo "in_range") rfl)
  have hb_in_range : Binds K fd_in_range ["value", "low", "high"] [] := F_in_range.bindsN (fun _ _ _ _ _ _ us hl => match us, hl with | [_, _, _], _ => rfl)
  obtain ⟨fd_is_int, F_is_int⟩ := c.def_ 17 (d := d_is_int) rfl
  have m_is_int : mg "is_int" = some (.ref (He.ga K "is_int")) := He.glo_ok X G (c.fact 38 (f := .glo "is_int") rfl)
  have hb_is_int : Binds K fd_is_int ["value"] [] := F_is_int.bindsN (fun _ _ _ _ _ _ us hl => match us, hl with | [_], _ => rfl)
  have g_bool : mg "bool" = none := He.free_ok X G (c.fact 39 (f := .free "bool") rfl)
  have S_is_int : Std P w K mg base 1 "is_int" ["value"] (sp_is_int K) := ⟨_, fd_is_int, ok_is_int F_is_int g_isinstance g_int g_bool, m_is_int, F_is_int.kp, hb_is_int⟩
  have S_in_range : Std P w K mg base 2 "in_range" ["value", "low", "high"] (sp_in_range K) := ⟨_, fd_in_range, ok_in_range F_in_range S_is_int, m_in_range, F_in_range.kp, hb_in_range⟩
  have g_tuple : mg "tuple" = none := He.free_ok X G (c.fact 40 (f := .free "tuple") rfl)
  have g_all : mg "all" = none := He.free_ok X G (c.fact 41 (f := .free "all") rfl)
  obtain ⟨fd_is_source, F_is_source⟩ := c.def_ 18 (d := d_is_source) rfl
  have m_is_source : mg "is_source" = some (.ref (He.ga K "is_source")) := He.glo_ok X G (c.fact 42 (f := .glo "is_source") rfl)
  have hb_is_source : Binds K fd_is_source ["value"] [] := F_is_source.bindsN (fun _ _ _ _ _ _ us hl => match us, hl with | [_], _ => rfl)
  obtain ⟨fd_is_constant, F_is_constant⟩ := c.def_ 19 (d := d_is_constant) rfl
  have m_is_constant : mg "is_constant" = some (.ref (He.ga K "is_constant")) := He.glo_ok X G (c.fact 43 (f := .glo "is_constant") rfl)
  have hb_is_constant : Binds K fd_is_constant ["value"] [] := F_is_constant.bindsN (fun _ _ _ _ _ _ us hl => match us, hl with | [_], _ => rfl)
  have i_GREATEST : GInt mg "GREATEST" (10 ^ 30) := He.int_ok X G (c.fact 44 (f := .int "GREATEST" (10 ^ 30)) rfl)
  have S_is_constant : Std P w K mg base 3 "is_constant" ["value"] (sp_is_constant K) := ⟨_, fd_is_constant, ok_is_constant F_is_constant S_in_range i_GREATEST, m_is_constant, F_is_constant.kp, hb_is_constant⟩
  have S_is_source : Std P w K mg base 4 "is_source" ["value"] (sp_is_source K) := ⟨_, fd_is_source, ok_is_source F_is_source g_isinstance g_tuple g_len g_str S_is_int S_is_constant, m_is_source, F_is_source.kp, hb_is_source⟩
  obtain ⟨fd_cut_pair, F_cut_pair⟩ := c.def_ 20 (d := d_cut_pair) rfl
  have m_cut_pair : mg "cut_pair" = some (.ref (He.ga K "cut_pair")) := He.glo_ok X G (c.fact 45 (f := .glo "cut_pair") rfl)
  have hb_cut_pair : Binds K fd_cut_pair ["taken", "left"] [] := F_cut_pair.bindsN (fun _ _ _ _ _ _ us hl => match us, hl with | [_, _], _ => rfl)
  have S_cut_pair : Std P w K mg base 1 "cut_pair" ["taken", "left"] (sp_cut_pair K) := ⟨_, fd_cut_pair, ok_cut_pair F_cut_pair g_len, m_cut_pair, F_cut_pair.kp, hb_cut_pair⟩
  have a_kept_taken : NoAttr K (He.ga K "Effect") "kept_taken" := He.noat_ok (c.fact 46 (f := .noat "Effect" "kept_taken") rfl)
  have a_kept_left : NoAttr K (He.ga K "Effect") "kept_left" := He.noat_ok (c.fact 47 (f := .noat "Effect" "kept_left") rfl)
  have I_Effect___init__ : StdI P w K mg base 5 (He.ga K "Effect") (si_Effect___init__ K (He.ga K "Effect")) := ⟨_, fd_Effect___init__, _, He.mkr_ok (c.fact 36 (f := .mkr "Effect") rfl), ok_Effect___init__ F_Effect___init__ i_MOST_HIGH S_in_range g_isinstance g_tuple g_len g_all S_is_source S_cut_pair cl a_kept_taken a_kept_left, F_Effect___init__.bindsN (ps := ["self", "taken", "left"]) (fun _ _ _ _ _ _ us hl => match us, hl with | [_, _, _], _ => rfl)⟩
  have S_effect_from : Std P w K mg base 7 "effect_from" ["pair"] (sp_effect_from K (He.ga K "Effect")) := ⟨_, fd_effect_from, ok_effect_from F_effect_from i_MOST_HIGH g_max g_len gE I_Effect___init__, m_effect_from, F_effect_from.kp, hb_effect_from⟩
  obtain ⟨fd_chosen_pair, F_chosen_pair⟩ := c.def_ 21 (d := d_chosen_pair) rfl
  have m_chosen_pair : mg "chosen_pair" = some (.ref (He.ga K "chosen_pair")) := He.glo_ok X G (c.fact 48 (f := .glo "chosen_pair") rfl)
  have hb_chosen_pair : Binds K fd_chosen_pair ["program", "choices"] [] := F_chosen_pair.bindsN (fun _ _ _ _ _ _ us hl => match us, hl with | [_, _], _ => rfl)
  have i_MOST_CHOICES : GInt mg "MOST_CHOICES" 200 := He.int_ok X G (c.fact 49 (f := .int "MOST_CHOICES" 200) rfl)
  obtain ⟨fd_pair_of, F_pair_of⟩ := c.def_ 22 (d := d_pair_of) rfl
  have m_pair_of : mg "pair_of" = some (.ref (He.ga K "pair_of")) := He.glo_ok X G (c.fact 50 (f := .glo "pair_of") rfl)
  have hb_pair_of : Binds K fd_pair_of ["nodes", "chosen"] [] := F_pair_of.bindsN (fun _ _ _ _ _ _ us hl => match us, hl with | [_, _], _ => rfl)
  obtain ⟨fd_node_pair, F_node_pair⟩ := c.def_ 23 (d := d_node_pair) rfl
  have m_node_pair : mg "node_pair" = some (.ref (He.ga K "node_pair")) := He.glo_ok X G (c.fact 51 (f := .glo "node_pair") rfl)
  have hb_node_pair : Binds K fd_node_pair ["node", "chosen"] [] := F_node_pair.bindsN (fun _ _ _ _ _ _ us hl => match us, hl with | [_, _], _ => rfl)
  obtain ⟨fd_word_pair, F_word_pair⟩ := c.def_ 24 (d := d_word_pair) rfl
  have m_word_pair : mg "word_pair" = some (.ref (He.ga K "word_pair")) := He.glo_ok X G (c.fact 52 (f := .glo "word_pair") rfl)
  have hb_word_pair : Binds K fd_word_pair ["word"] [] := F_word_pair.bindsN (fun _ _ _ _ _ _ us hl => match us, hl with | [_], _ => rfl)
  obtain ⟨fd_inputs_from, F_inputs_from⟩ := c.def_ 25 (d := d_inputs_from) rfl
  have m_inputs_from : mg "inputs_from" = some (.ref (He.ga K "inputs_from")) := He.glo_ok X G (c.fact 53 (f := .glo "inputs_from") rfl)
  have hb_inputs_from : Binds K fd_inputs_from ["depth"] [] := F_inputs_from.bindsN (fun _ _ _ _ _ _ us hl => match us, hl with | [_], _ => rfl)
  have S_inputs_from : Std P w K mg base 1 "inputs_from" ["depth"] (sp_inputs_from K) := ⟨_, fd_inputs_from, ok_inputs_from F_inputs_from g_tuple g_range, m_inputs_from, F_inputs_from.kp, hb_inputs_from⟩
  have S_word_pair : Std P w K mg base 2 "word_pair" ["word"] (sp_word_pair K) := ⟨_, fd_word_pair, ok_word_pair F_word_pair g_int S_inputs_from, m_word_pair, F_word_pair.kp, hb_word_pair⟩
  obtain ⟨fd_is_plain_in, F_is_plain_in⟩ := c.def_ 26 (d := d_is_plain_in) rfl
  have m_is_plain_in : mg "is_plain_in" = some (.ref (He.ga K "is_plain_in")) := He.glo_ok X G (c.fact 54 (f := .glo "is_plain_in") rfl)
  have hb_is_plain_in : Binds K fd_is_plain_in ["nodes"] [] := F_is_plain_in.bindsN (fun _ _ _ _ _ _ us hl => match us, hl with | [_], _ => rfl)
  have S_is_plain_in : Std P w K mg base 14 "is_plain_in" ["nodes"] (sp_is_plain_in K 13) := ⟨_, fd_is_plain_in, rec_ok (k0 := 1) (sp := fun d => sp_is_plain_in K d) m_is_plain_in F_is_plain_in.kp hb_is_plain_in (void_is_plain_in) (fun d S => ok_is_plain_in F_is_plain_in g_all S) 13, m_is_plain_in, F_is_plain_in.kp, hb_is_plain_in⟩
  obtain ⟨fd_power_pair, F_power_pair⟩ := c.def_ 27 (d := d_power_pair) rfl
  have m_power_pair : mg "power_pair" = some (.ref (He.ga K "power_pair")) := He.glo_ok X G (c.fact 55 (f := .glo "power_pair") rfl)
  have hb_power_pair : Binds K fd_power_pair ["pair", "times"] [] := F_power_pair.bindsN (fun _ _ _ _ _ _ us hl => match us, hl with | [_, _], _ => rfl)
  obtain ⟨fd_power_sizes, F_power_sizes⟩ := c.def_ 28 (d := d_power_sizes) rfl
  have m_power_sizes : mg "power_sizes" = some (.ref (He.ga K "power_sizes")) := He.glo_ok X G (c.fact 56 (f := .glo "power_sizes") rfl)
  have hb_power_sizes : Binds K fd_power_sizes ["pair", "times"] [] := F_power_sizes.bindsN (fun _ _ _ _ _ _ us hl => match us, hl with | [_, _], _ => rfl)
  have S_power_sizes : Std P w K mg base 1 "power_sizes" ["pair", "times"] (sp_power_sizes K) := ⟨_, fd_power_sizes, ok_power_sizes F_power_sizes g_len g_max, m_power_sizes, F_power_sizes.kp, hb_power_sizes⟩
  obtain ⟨fd_far_source, F_far_source⟩ := c.def_ 29 (d := d_far_source) rfl
  have m_far_source : mg "far_source" = some (.ref (He.ga K "far_source")) := He.glo_ok X G (c.fact 57 (f := .glo "far_source") rfl)
  have hb_far_source : Binds K fd_far_source ["pair", "times", "depth"] [] := F_far_source.bindsN (fun _ _ _ _ _ _ us hl => match us, hl with | [_, _, _], _ => rfl)
  have S_far_source : Std P w K mg base 1 "far_source" ["pair", "times", "depth"] (sp_far_source K) := ⟨_, fd_far_source, ok_far_source F_far_source g_len g_min, m_far_source, F_far_source.kp, hb_far_source⟩
  have S_power_pair : Std P w K mg base 2 "power_pair" ["pair", "times"] (sp_power_pair K) := ⟨_, fd_power_pair, ok_power_pair F_power_pair t_NOTHING S_power_sizes S_far_source g_range S_cut_pair g_tuple, m_power_pair, F_power_pair.kp, hb_power_pair⟩
  obtain ⟨fd_joined_pair, F_joined_pair⟩ := c.def_ 30 (d := d_joined_pair) rfl
  have m_joined_pair : mg "joined_pair" = some (.ref (He.ga K "joined_pair")) := He.glo_ok X G (c.fact 58 (f := .glo "joined_pair") rfl)
  have hb_joined_pair : Binds K fd_joined_pair ["pair", "other"] [] := F_joined_pair.bindsN (fun _ _ _ _ _ _ us hl => match us, hl with | [_, _], _ => rfl)
  obtain ⟨fd_through, F_through⟩ := c.def_ 31 (d := d_through) rfl
  have m_through : mg "through" = some (.ref (He.ga K "through")) := He.glo_ok X G (c.fact 59 (f := .glo "through") rfl)
  have hb_through : Binds K fd_through ["pair", "source"] [] := F_through.bindsN (fun _ _ _ _ _ _ us hl => match us, hl with | [_, _], _ => rfl)
  obtain ⟨fd_source_in, F_source_in⟩ := c.def_ 32 (d := d_source_in) rfl
  have m_source_in : mg "source_in" = some (.ref (He.ga K "source_in")) := He.glo_ok X G (c.fact 60 (f := .glo "source_in") rfl)
  have hb_source_in : Binds K fd_source_in ["pair", "depth"] [] := F_source_in.bindsN (fun _ _ _ _ _ _ us hl => match us, hl with | [_, _], _ => rfl)
  have S_source_in : Std P w K mg base 1 "source_in" ["pair", "depth"] (sp_source_in K) := ⟨_, fd_source_in, ok_source_in F_source_in g_len, m_source_in, F_source_in.kp, hb_source_in⟩
  have S_through : Std P w K mg base 2 "through" ["pair", "source"] (sp_through K) := ⟨_, fd_through, ok_through F_through S_source_in, m_through, F_through.kp, hb_through⟩
  have S_joined_pair : Std P w K mg base 3 "joined_pair" ["pair", "other"] (sp_joined_pair K) := ⟨_, fd_joined_pair, ok_joined_pair F_joined_pair g_max g_len S_through S_source_in g_range S_cut_pair g_tuple, m_joined_pair, F_joined_pair.kp, hb_joined_pair⟩
  have S_pair_of : Std P w K mg base 41 "pair_of" ["nodes", "chosen"] (sp_pair_of K 13) := ⟨_, fd_pair_of, ok_pair_of F_pair_of t_NOTHING ⟨_, fd_node_pair, mrec m_node_pair F_node_pair.kp hb_node_pair m_pair_of F_pair_of.kp hb_pair_of (fun d S => ok_node_pair F_node_pair S_word_pair S S_is_plain_in S_power_pair) (fun d S => ok_pair_of F_pair_of t_NOTHING S S_joined_pair) 13, m_node_pair, F_node_pair.kp, hb_node_pair⟩ S_joined_pair, m_pair_of, F_pair_of.kp, hb_pair_of⟩
  obtain ⟨fd_nodes_of, F_nodes_of⟩ := c.def_ 33 (d := d_nodes_of) rfl
  have m_nodes_of : mg "nodes_of" = some (.ref (He.ga K "nodes_of")) := He.glo_ok X G (c.fact 61 (f := .glo "nodes_of") rfl)
  have hb_nodes_of : Binds K fd_nodes_of ["program"] [] := F_nodes_of.bindsN (fun _ _ _ _ _ _ us hl => match us, hl with | [_], _ => rfl)
  have S_nodes_of : Std P w K mg base 1 "nodes_of" ["program"] (sp_nodes_of K (He.ga K "Program")) := ⟨_, fd_nodes_of, ok_nodes_of F_nodes_of kp pa gP, m_nodes_of, F_nodes_of.kp, hb_nodes_of⟩
  have S_chosen_pair : Std P w K mg base 43 "chosen_pair" ["program", "choices"] (sp_chosen_pair K (He.ga K "Program")) := ⟨_, fd_chosen_pair, ok_chosen_pair F_chosen_pair i_MOST_CHOICES g_isinstance g_str g_len g_all g_int S_pair_of S_nodes_of kp pa gP, m_chosen_pair, F_chosen_pair.kp, hb_chosen_pair⟩
  have S_effect_of : StdD P w K mg base 45 "effect_of" ["program", "choices"] (Str.ofString "") (sp_effect_of K (He.ga K "Effect") (He.ga K "Program")) := ⟨_, fd_effect_of, ds_effect_of, ok_effect_of F_effect_of S_require_program S_effect_from S_chosen_pair kp pa gP, m_effect_of, F_effect_of.kp, hb_effect_of, hv_effect_of⟩
  obtain ⟨fd__law_stack, F__law_stack⟩ := c.def_ 34 (d := d__law_stack) rfl
  have m__law_stack : mg "_law_stack" = some (.ref (He.ga K "_law_stack")) := He.glo_ok X G (c.fact 62 (f := .glo "_law_stack") rfl)
  have hb__law_stack : Binds K fd__law_stack ["bag", "many"] [] := F__law_stack.bindsN (fun _ _ _ _ _ _ us hl => match us, hl with | [_, _], _ => rfl)
  have S__law_stack : Std P w K mg base 2 "_law_stack" ["bag", "many"] (sp__law_stack K) := ⟨_, fd__law_stack, ok__law_stack F__law_stack S__law_pick g_min g_tuple g_range, m__law_stack, F__law_stack.kp, hb__law_stack⟩
  obtain ⟨fd_run, F_run⟩ := c.def_ 35 (d := d_run) rfl
  have m_run : mg "run" = some (.ref (He.ga K "run")) := He.glo_ok X G (c.fact 63 (f := .glo "run") rfl)
  have F_run : FnPK [("choices", V.str (Str.ofString ""))] K "run" "run" (top 72) (He.ga K "run") fd_run := F_run
  obtain ⟨ds_run, hv_run, hb_run⟩ := FunD.binds0 (ps := ["program", "stack", "choices"]) F_run 2 (by exact fun z => nomatch z) rfl (fun D doc pm an cdv ct us ks h1 h2 => match us, ks, h1, h2 with | [_, _], [_], _, _ => ⟨_, _, _, _, _, _, rfl, rfl, rfl⟩)
  obtain ⟨fd_require_stack, F_require_stack⟩ := c.def_ 36 (d := d_require_stack) rfl
  have m_require_stack : mg "require_stack" = some (.ref (He.ga K "require_stack")) := He.glo_ok X G (c.fact 64 (f := .glo "require_stack") rfl)
  have hb_require_stack : Binds K fd_require_stack ["value"] [] := F_require_stack.bindsN (fun _ _ _ _ _ _ us hl => match us, hl with | [_], _ => rfl)
  obtain ⟨fd_is_stack, F_is_stack⟩ := c.def_ 37 (d := d_is_stack) rfl
  have m_is_stack : mg "is_stack" = some (.ref (He.ga K "is_stack")) := He.glo_ok X G (c.fact 65 (f := .glo "is_stack") rfl)
  have hb_is_stack : Binds K fd_is_stack ["value"] [] := F_is_stack.bindsN (fun _ _ _ _ _ _ us hl => match us, hl with | [_], _ => rfl)
  have S_is_stack : Std P w K mg base 4 "is_stack" ["value"] (sp_is_stack K) := ⟨_, fd_is_stack, ok_is_stack F_is_stack g_isinstance g_tuple i_MOST_HIGH g_all g_len S_is_constant, m_is_stack, F_is_stack.kp, hb_is_stack⟩
  have S_require_stack : Std P w K mg base 5 "require_stack" ["value"] (sp_require_stack K) := ⟨_, fd_require_stack, ok_require_stack F_require_stack S_is_stack, m_require_stack, F_require_stack.kp, hb_require_stack⟩
  obtain ⟨fd_require_height, F_require_height⟩ := c.def_ 38 (d := d_require_height) rfl
  have m_require_height : mg "require_height" = some (.ref (He.ga K "require_height")) := He.glo_ok X G (c.fact 66 (f := .glo "require_height") rfl)
  have hb_require_height : Binds K fd_require_height ["program", "stack"] [] := F_require_height.bindsN (fun _ _ _ _ _ _ us hl => match us, hl with | [_, _], _ => rfl)
  obtain ⟨fd_Program_need, F_Program_need, Q_Program_need⟩ := b.get 0 (by decide)
  have P_Program_need : StdP P w K mg base 1 (He.ga K "Program") "need" (sp_Program_need K (He.ga K "Program")) := ⟨_, _, fd_Program_need, _, Q_Program_need, ok_Program_need F_Program_need kp pa gP, F_Program_need.bindsN (ps := ["self"]) (fun _ _ _ _ _ _ us hl => match us, hl with | [_], _ => rfl)⟩
  have S_require_height : Std P w K mg base 3 "require_height" ["program", "stack"] (sp_require_height K (He.ga K "Program")) := ⟨_, fd_require_height, ok_require_height F_require_height g_len kp pa gP P_Program_need, m_require_height, F_require_height.kp, hb_require_height⟩
  obtain ⟨fd_after_pair, F_after_pair⟩ := c.def_ 39 (d := d_after_pair) rfl
  have m_after_pair : mg "after_pair" = some (.ref (He.ga K "after_pair")) := He.glo_ok X G (c.fact 67 (f := .glo "after_pair") rfl)
  have hb_after_pair : Binds K fd_after_pair ["pair", "cells"] [] := F_after_pair.bindsN (fun _ _ _ _ _ _ us hl => match us, hl with | [_, _], _ => rfl)
  have S_after_pair : Std P w K mg base 1 "after_pair" ["pair", "cells"] (sp_after_pair K) := ⟨_, fd_after_pair, ok_after_pair F_after_pair g_len, m_after_pair, F_after_pair.kp, hb_after_pair⟩
  have S_run : StdD P w K mg base 46 "run" ["program", "stack", "choices"] (Str.ofString "") (sp_run_ K (He.ga K "Program")) := ⟨_, fd_run, ds_run, ok_run_ F_run S_require_program S_require_stack S_require_height S_after_pair S_chosen_pair kp pa gP, m_run, F_run.kp, hb_run, hv_run⟩
  obtain ⟨fd_Program___init__, F_Program___init__⟩ := c.def_ 40 (d := d_Program___init__) rfl
  obtain ⟨fd_words_of, F_words_of⟩ := c.def_ 41 (d := d_words_of) rfl
  have m_words_of : mg "words_of" = some (.ref (He.ga K "words_of")) := He.glo_ok X G (c.fact 69 (f := .glo "words_of") rfl)
  have hb_words_of : Binds K fd_words_of ["text"] [] := F_words_of.bindsN (fun _ _ _ _ _ _ us hl => match us, hl with | [_], _ => rfl)
  have S_words_of : Std P w K mg base 1 "words_of" ["text"] (sp_words_of K) := ⟨_, fd_words_of, ok_words_of F_words_of , m_words_of, F_words_of.kp, hb_words_of⟩
  obtain ⟨fd_first_wrong, F_first_wrong⟩ := c.def_ 42 (d := d_first_wrong) rfl
  have m_first_wrong : mg "first_wrong" = some (.ref (He.ga K "first_wrong")) := He.glo_ok X G (c.fact 70 (f := .glo "first_wrong") rfl)
  have hb_first_wrong : Binds K fd_first_wrong ["words", "growths"] [] := F_first_wrong.bindsN (fun _ _ _ _ _ _ us hl => match us, hl with | [_, _], _ => rfl)
  have g_enumerate : mg "enumerate" = none := He.free_ok X G (c.fact 71 (f := .free "enumerate") rfl)
  have i_MOST_WORDS : GInt mg "MOST_WORDS" 1000 := He.int_ok X G (c.fact 72 (f := .int "MOST_WORDS" 1000) rfl)
  have i_MOST_OPEN : GInt mg "MOST_OPEN" 12 := He.int_ok X G (c.fact 73 (f := .int "MOST_OPEN" 12) rfl)
  obtain ⟨fd_is_instruction, F_is_instruction⟩ := c.def_ 43 (d := d_is_instruction) rfl
  have m_is_instruction : mg "is_instruction" = some (.ref (He.ga K "is_instruction")) := He.glo_ok X G (c.fact 74 (f := .glo "is_instruction") rfl)
  have hb_is_instruction : Binds K fd_is_instruction ["word"] [] := F_is_instruction.bindsN (fun _ _ _ _ _ _ us hl => match us, hl with | [_], _ => rfl)
  obtain ⟨fd_is_decimal, F_is_decimal⟩ := c.def_ 44 (d := d_is_decimal) rfl
  have m_is_decimal : mg "is_decimal" = some (.ref (He.ga K "is_decimal")) := He.glo_ok X G (c.fact 75 (f := .glo "is_decimal") rfl)
  have hb_is_decimal : Binds K fd_is_decimal ["signs", "low", "high"] [] := F_is_decimal.bindsN (fun _ _ _ _ _ _ us hl => match us, hl with | [_, _, _], _ => rfl)
  have i_MOST_DIGITS : GInt mg "MOST_DIGITS" 31 := He.int_ok X G (c.fact 76 (f := .int "MOST_DIGITS" 31) rfl)
  have s_DIGITS : GStr mg "DIGITS" "0123456789" := He.str_ok X G (c.fact 77 (f := .str "DIGITS" "0123456789") rfl)
  have S_is_decimal : Std P w K mg base 1 "is_decimal" ["signs", "low", "high"] (sp_is_decimal K) := ⟨_, fd_is_decimal, ok_is_decimal F_is_decimal i_MOST_DIGITS g_all g_len s_DIGITS g_int, m_is_decimal, F_is_decimal.kp, hb_is_decimal⟩
  obtain ⟨fd_is_constant_word, F_is_constant_word⟩ := c.def_ 45 (d := d_is_constant_word) rfl
  have m_is_constant_word : mg "is_constant_word" = some (.ref (He.ga K "is_constant_word")) := He.glo_ok X G (c.fact 78 (f := .glo "is_constant_word") rfl)
  have hb_is_constant_word : Binds K fd_is_constant_word ["word"] [] := F_is_constant_word.bindsN (fun _ _ _ _ _ _ us hl => match us, hl with | [_], _ => rfl)
  have S_is_constant_word : Std P w K mg base 2 "is_constant_word" ["word"] (sp_is_constant_word K) := ⟨_, fd_is_constant_word, ok_is_constant_word F_is_constant_word S_is_decimal i_GREATEST, m_is_constant_word, F_is_constant_word.kp, hb_is_constant_word⟩
  have S_is_instruction : Std P w K mg base 3 "is_instruction" ["word"] (sp_is_instruction K) := ⟨_, fd_is_instruction, ok_is_instruction F_is_instruction S_is_decimal i_MOST_HIGH S_is_constant_word, m_is_instruction, F_is_instruction.kp, hb_is_instruction⟩
  have i_MOST_TIMES : GInt mg "MOST_TIMES" (10 ^ 30) := He.int_ok X G (c.fact 79 (f := .int "MOST_TIMES" (10 ^ 30)) rfl)
  obtain ⟨fd_measure_of, F_measure_of⟩ := c.def_ 46 (d := d_measure_of) rfl
  have m_measure_of : mg "measure_of" = some (.ref (He.ga K "measure_of")) := He.glo_ok X G (c.fact 80 (f := .glo "measure_of") rfl)
  have hb_measure_of : Binds K fd_measure_of ["word"] [] := F_measure_of.bindsN (fun _ _ _ _ _ _ us hl => match us, hl with | [_], _ => rfl)
  have S_measure_of : Std P w K mg base 1 "measure_of" ["word"] (sp_measure_of K) := ⟨_, fd_measure_of, ok_measure_of F_measure_of g_int, m_measure_of, F_measure_of.kp, hb_measure_of⟩
  have S_first_wrong : Std P w K mg base 4 "first_wrong" ["words", "growths"] (sp_first_wrong K) := ⟨_, fd_first_wrong, ok_first_wrong F_first_wrong g_enumerate i_MOST_WORDS i_MOST_OPEN g_len g_int S_is_instruction S_is_decimal i_MOST_TIMES S_measure_of, m_first_wrong, F_first_wrong.kp, hb_first_wrong⟩
  obtain ⟨fd_nodes_in, F_nodes_in⟩ := c.def_ 47 (d := d_nodes_in) rfl
  have m_nodes_in : mg "nodes_in" = some (.ref (He.ga K "nodes_in")) := He.glo_ok X G (c.fact 81 (f := .glo "nodes_in") rfl)
  have hb_nodes_in : Binds K fd_nodes_in ["words"] [] := F_nodes_in.bindsN (fun _ _ _ _ _ _ us hl => match us, hl with | [_], _ => rfl)
  obtain ⟨fd_nodes_from, F_nodes_from⟩ := c.def_ 48 (d := d_nodes_from) rfl
  have m_nodes_from : mg "nodes_from" = some (.ref (He.ga K "nodes_from")) := He.glo_ok X G (c.fact 82 (f := .glo "nodes_from") rfl)
  have hb_nodes_from : Binds K fd_nodes_from ["words", "place"] [] := F_nodes_from.bindsN (fun _ _ _ _ _ _ us hl => match us, hl with | [_, _], _ => rfl)
  have S_nodes_from : Std P w K mg base 14 "nodes_from" ["words", "place"] (sp_nodes_from K 13) := ⟨_, fd_nodes_from, rec_ok (k0 := 1) (sp := fun d => sp_nodes_from K d) m_nodes_from F_nodes_from.kp hb_nodes_from (void_nodes_from) (fun d S => ok_nodes_from F_nodes_from g_len S g_int g_tuple) 13, m_nodes_from, F_nodes_from.kp, hb_nodes_from⟩
  have S_nodes_in : Std P w K mg base 15 "nodes_in" ["words"] (sp_nodes_in K) := ⟨_, fd_nodes_in, ok_nodes_in F_nodes_in S_nodes_from, m_nodes_in, F_nodes_in.kp, hb_nodes_in⟩
  obtain ⟨fd_measure_in, F_measure_in⟩ := c.def_ 49 (d := d_measure_in) rfl
  have m_measure_in : mg "measure_in" = some (.ref (He.ga K "measure_in")) := He.glo_ok X G (c.fact 83 (f := .glo "measure_in") rfl)
  have hb_measure_in : Binds K fd_measure_in ["nodes"] [] := F_measure_in.bindsN (fun _ _ _ _ _ _ us hl => match us, hl with | [_], _ => rfl)
  obtain ⟨fd_joined_measure, F_joined_measure⟩ := c.def_ 50 (d := d_joined_measure) rfl
  have m_joined_measure : mg "joined_measure" = some (.ref (He.ga K "joined_measure")) := He.glo_ok X G (c.fact 84 (f := .glo "joined_measure") rfl)
  have hb_joined_measure : Binds K fd_joined_measure ["measure", "other"] [] := F_joined_measure.bindsN (fun _ _ _ _ _ _ us hl => match us, hl with | [_, _], _ => rfl)
  have S_joined_measure : Std P w K mg base 1 "joined_measure" ["measure", "other"] (sp_joined_measure K) := ⟨_, fd_joined_measure, ok_joined_measure F_joined_measure g_max, m_joined_measure, F_joined_measure.kp, hb_joined_measure⟩
  obtain ⟨fd_repeated_measure, F_repeated_measure⟩ := c.def_ 51 (d := d_repeated_measure) rfl
  have m_repeated_measure : mg "repeated_measure" = some (.ref (He.ga K "repeated_measure")) := He.glo_ok X G (c.fact 85 (f := .glo "repeated_measure") rfl)
  have hb_repeated_measure : Binds K fd_repeated_measure ["measure", "number"] [] := F_repeated_measure.bindsN (fun _ _ _ _ _ _ us hl => match us, hl with | [_, _], _ => rfl)
  have S_repeated_measure : Std P w K mg base 1 "repeated_measure" ["measure", "number"] (sp_repeated_measure K) := ⟨_, fd_repeated_measure, ok_repeated_measure F_repeated_measure g_max, m_repeated_measure, F_repeated_measure.kp, hb_repeated_measure⟩
  have S_measure_in : Std P w K mg base 14 "measure_in" ["nodes"] (sp_measure_in K 13) := ⟨_, fd_measure_in, rec_ok (k0 := 1) (sp := fun d => sp_measure_in K d) m_measure_in F_measure_in.kp hb_measure_in (void_measure_in) (fun d S => ok_measure_in F_measure_in S_joined_measure S_measure_of S_repeated_measure S g_max) 13, m_measure_in, F_measure_in.kp, hb_measure_in⟩
  obtain ⟨fd_length_in, F_length_in⟩ := c.def_ 52 (d := d_length_in) rfl
  have m_length_in : mg "length_in" = some (.ref (He.ga K "length_in")) := He.glo_ok X G (c.fact 86 (f := .glo "length_in") rfl)
  have hb_length_in : Binds K fd_length_in ["nodes"] [] := F_length_in.bindsN (fun _ _ _ _ _ _ us hl => match us, hl with | [_], _ => rfl)
  have S_length_in : Std P w K mg base 14 "length_in" ["nodes"] (sp_length_in K 13) := ⟨_, fd_length_in, rec_ok (k0 := 1) (sp := fun d => sp_length_in K d) m_length_in F_length_in.kp hb_length_in (void_length_in) (fun d S => ok_length_in F_length_in S) 13, m_length_in, F_length_in.kp, hb_length_in⟩
  obtain ⟨fd_open_in, F_open_in⟩ := c.def_ 53 (d := d_open_in) rfl
  have m_open_in : mg "open_in" = some (.ref (He.ga K "open_in")) := He.glo_ok X G (c.fact 87 (f := .glo "open_in") rfl)
  have hb_open_in : Binds K fd_open_in ["words"] [] := F_open_in.bindsN (fun _ _ _ _ _ _ us hl => match us, hl with | [_], _ => rfl)
  have S_open_in : Std P w K mg base 1 "open_in" ["words"] (sp_open_in K) := ⟨_, fd_open_in, ok_open_in F_open_in g_max g_int, m_open_in, F_open_in.kp, hb_open_in⟩
  have I_Program___init__ : StdI P w K mg base 16 (He.ga K "Program") (si_Program___init__ K (He.ga K "Program")) := ⟨_, fd_Program___init__, _, He.mkr_ok (c.fact 68 (f := .mkr "Program") rfl), ok_Program___init__ F_Program___init__ g_isinstance g_str S_words_of S_first_wrong S_nodes_in S_measure_in i_MOST_HIGH g_tuple S_is_plain_in S_length_in S_open_in pa, F_Program___init__.bindsN (ps := ["self", "text"]) (fun _ _ _ _ _ _ us hl => match us, hl with | [_, _], _ => rfl)⟩
  obtain ⟨fd_Program_rise, F_Program_rise, Q_Program_rise⟩ := b.get 1 (by decide)
  have P_Program_rise : StdP P w K mg base 1 (He.ga K "Program") "rise" (sp_Program_rise K (He.ga K "Program")) := ⟨_, _, fd_Program_rise, _, Q_Program_rise, ok_Program_rise F_Program_rise kp pa gP, F_Program_rise.bindsN (ps := ["self"]) (fun _ _ _ _ _ _ us hl => match us, hl with | [_], _ => rfl)⟩
  obtain ⟨fd_Effect___call__, F_Effect___call__⟩ := c.def_ 54 (d := d_Effect___call__) rfl
  have z_Effect___call__ := He.meth_ok (c.fact 88 (f := .meth "Effect" "__call__") rfl)
  have C_Effect___call__ : StdC P w K mg base 6 (He.ga K "Effect") (sp_Effect___call__ K (He.ga K "Effect")) := ⟨_, fd_Effect___call__, _, ⟨z_Effect___call__.at_, z_Effect___call__.fn, fiE⟩, ok_Effect___call__ F_Effect___call__ S_require_stack g_len S_after_pair kc a_kept_taken a_kept_left gE, F_Effect___call__.bindsN (ps := ["self", "stack"]) (fun _ _ _ _ _ _ us hl => match us, hl with | [_, _], _ => rfl)⟩
  obtain ⟨fd_Effect___eq__, F_Effect___eq__⟩ := c.def_ 55 (d := d_Effect___eq__) rfl
  have M_Effect___eq__ : StdM P w K mg base 1 (He.ga K "Effect") "__eq__" (sp_Effect___eq__ K (He.ga K "Effect")) := ⟨_, fd_Effect___eq__, _, He.meth_ok (c.fact 89 (f := .meth "Effect" "__eq__") rfl), ok_Effect___eq__ F_Effect___eq__ g_isinstance kc a_kept_taken a_kept_left gE, F_Effect___eq__.bindsN (ps := ["self", "other"]) (fun _ _ _ _ _ _ us hl => match us, hl with | [_, _], _ => rfl)⟩
  obtain ⟨fd_Effect___mul__, F_Effect___mul__⟩ := c.def_ 56 (d := d_Effect___mul__) rfl
  obtain ⟨fd_require_times, F_require_times⟩ := c.def_ 57 (d := d_require_times) rfl
  have m_require_times : mg "require_times" = some (.ref (He.ga K "require_times")) := He.glo_ok X G (c.fact 91 (f := .glo "require_times") rfl)
  have hb_require_times : Binds K fd_require_times ["value"] [] := F_require_times.bindsN (fun _ _ _ _ _ _ us hl => match us, hl with | [_], _ => rfl)
  have S_require_times : Std P w K mg base 3 "require_times" ["value"] (sp_require_times K) := ⟨_, fd_require_times, ok_require_times F_require_times S_in_range i_MOST_TIMES, m_require_times, F_require_times.kp, hb_require_times⟩
  have M_Effect___mul__ : StdM P w K mg base 8 (He.ga K "Effect") "__mul__" (sp_Effect___mul__ K (He.ga K "Effect")) := ⟨_, fd_Effect___mul__, _, He.meth_ok (c.fact 90 (f := .meth "Effect" "__mul__") rfl), ok_Effect___mul__ F_Effect___mul__ S_require_times i_MOST_HIGH g_max S_power_sizes S_effect_from S_power_pair kc a_kept_taken a_kept_left gE, F_Effect___mul__.bindsN (ps := ["self", "times"]) (fun _ _ _ _ _ _ us hl => match us, hl with | [_, _], _ => rfl)⟩
  obtain ⟨fd_Program___mul__, F_Program___mul__⟩ := c.def_ 58 (d := d_Program___mul__) rfl
  have M_Program___mul__ : StdM P w K mg base 19 (He.ga K "Program") "__mul__" (sp_Program___mul__ K (He.ga K "Program")) := ⟨_, fd_Program___mul__, _, He.meth_ok (c.fact 92 (f := .meth "Program" "__mul__") rfl), ok_Program___mul__ F_Program___mul__ S_in_range i_MOST_TIMES i_MOST_WORDS g_len i_MOST_OPEN g_str kp pa gP I_Program___init__, F_Program___mul__.bindsN (ps := ["self", "times"]) (fun _ _ _ _ _ _ us hl => match us, hl with | [_, _], _ => rfl)⟩
  have S__law_times_right : Std P w K mg base 48 "_law_times_right" ["bag", "words"] (sp__law_times_right K (He.ga K "Effect") (He.ga K "Program")) := ⟨_, fd__law_times_right, ok__law_times_right F__law_times_right S__law_pick g_str S__law_measure S_effect_of g_range S__law_stack S_run kc a_kept_taken a_kept_left kp pa gP I_Program___init__ P_Program_need P_Program_rise C_Effect___call__ M_Effect___eq__ M_Effect___mul__ mk M_Program___mul__ mkp, m__law_times_right, F__law_times_right.kp, hb__law_times_right⟩
  obtain ⟨fd__law_pair_right, F__law_pair_right⟩ := c.def_ 59 (d := d__law_pair_right) rfl
  have m__law_pair_right : mg "_law_pair_right" = some (.ref (He.ga K "_law_pair_right")) := He.glo_ok X G (c.fact 93 (f := .glo "_law_pair_right") rfl)
  have hb__law_pair_right : Binds K fd__law_pair_right ["bag", "one", "two"] [] := F__law_pair_right.bindsN (fun _ _ _ _ _ _ us hl => match us, hl with | [_, _, _], _ => rfl)
  obtain ⟨fd__law_least, F__law_least⟩ := c.def_ 60 (d := d__law_least) rfl
  have m__law_least : mg "_law_least" = some (.ref (He.ga K "_law_least")) := He.glo_ok X G (c.fact 94 (f := .glo "_law_least") rfl)
  have hb__law_least : Binds K fd__law_least ["told", "cells"] [] := F__law_least.bindsN (fun _ _ _ _ _ _ us hl => match us, hl with | [_, _], _ => rfl)
  have R_require_height : StdE P w K mg base 3 "require_height" ["program", "stack"] (spr_require_height K (He.ga K "Program") (He.ga K "ShortStack")) := ⟨_, fd_require_height, okr_require_height F_require_height g_len kp pa gP P_Program_need TH, m_require_height, F_require_height.kp, hb_require_height⟩
  have R_run : StdF P w K mg base 46 "run" ["program", "stack", "choices"] (Str.ofString "") (SpO (sp_run_ K (He.ga K "Program")) (spr_run_ K (He.ga K "Program") (He.ga K "ShortStack"))) := ⟨_, fd_run, ds_run, FnOk.or (ok_run_ F_run S_require_program S_require_stack S_require_height S_after_pair S_chosen_pair kp pa gP) (okr_run_ F_run S_require_program S_require_stack R_require_height S_after_pair S_chosen_pair kp pa gP), m_run, F_run.kp, hb_run, hv_run⟩
  have S__law_least : Std P w K mg base 47 "_law_least" ["told", "cells"] (sp__law_least K (He.ga K "Program")) := ⟨_, fd__law_least, ok__law_least F__law_least R_run TH, m__law_least, F__law_least.kp, hb__law_least⟩
  obtain ⟨fd_same_effect, F_same_effect⟩ := c.def_ 61 (d := d_same_effect) rfl
  have m_same_effect : mg "same_effect" = some (.ref (He.ga K "same_effect")) := He.glo_ok X G (c.fact 95 (f := .glo "same_effect") rfl)
  have hb_same_effect : Binds K fd_same_effect ["program", "other"] [] := F_same_effect.bindsN (fun _ _ _ _ _ _ us hl => match us, hl with | [_, _], _ => rfl)
  obtain ⟨fd_require_plain, F_require_plain⟩ := c.def_ 62 (d := d_require_plain) rfl
  have m_require_plain : mg "require_plain" = some (.ref (He.ga K "require_plain")) := He.glo_ok X G (c.fact 96 (f := .glo "require_plain") rfl)
  have hb_require_plain : Binds K fd_require_plain ["program"] [] := F_require_plain.bindsN (fun _ _ _ _ _ _ us hl => match us, hl with | [_], _ => rfl)
  obtain ⟨fd_Program_is_plain, F_Program_is_plain, Q_Program_is_plain⟩ := b.get 2 (by decide)
  have P_Program_is_plain : StdP P w K mg base 1 (He.ga K "Program") "is_plain" (sp_Program_is_plain K (He.ga K "Program")) := ⟨_, _, fd_Program_is_plain, _, Q_Program_is_plain, ok_Program_is_plain F_Program_is_plain kp pa gP, F_Program_is_plain.bindsN (ps := ["self"]) (fun _ _ _ _ _ _ us hl => match us, hl with | [_], _ => rfl)⟩
  have S_require_plain : Std P w K mg base 3 "require_plain" ["program"] (sp_require_plain K (He.ga K "Program")) := ⟨_, fd_require_plain, ok_require_plain F_require_plain S_require_program kp pa gP P_Program_is_plain, m_require_plain, F_require_plain.kp, hb_require_plain⟩
  obtain ⟨fd_plain_pair, F_plain_pair⟩ := c.def_ 63 (d := d_plain_pair) rfl
  have m_plain_pair : mg "plain_pair" = some (.ref (He.ga K "plain_pair")) := He.glo_ok X G (c.fact 97 (f := .glo "plain_pair") rfl)
  have hb_plain_pair : Binds K fd_plain_pair ["nodes"] [] := F_plain_pair.bindsN (fun _ _ _ _ _ _ us hl => match us, hl with | [_], _ => rfl)
  have S_plain_pair : Std P w K mg base 42 "plain_pair" ["nodes"] (sp_plain_pair K) := ⟨_, fd_plain_pair, ok_plain_pair F_plain_pair S_pair_of, m_plain_pair, F_plain_pair.kp, hb_plain_pair⟩
  have S_same_effect : Std P w K mg base 43 "same_effect" ["program", "other"] (sp_same_effect K (He.ga K "Program")) := ⟨_, fd_same_effect, ok_same_effect F_same_effect S_require_plain S_plain_pair S_nodes_of kp pa gP, m_same_effect, F_same_effect.kp, hb_same_effect⟩
  obtain ⟨fd_Effect___add__, F_Effect___add__⟩ := c.def_ 64 (d := d_Effect___add__) rfl
  have M_Effect___add__ : StdM P w K mg base 8 (He.ga K "Effect") "__add__" (sp_Effect___add__ K (He.ga K "Effect")) := ⟨_, fd_Effect___add__, _, He.meth_ok (c.fact 98 (f := .meth "Effect" "__add__") rfl), ok_Effect___add__ F_Effect___add__ g_isinstance S_effect_from S_joined_pair kc a_kept_taken a_kept_left gE, F_Effect___add__.bindsN (ps := ["self", "other"]) (fun _ _ _ _ _ _ us hl => match us, hl with | [_, _], _ => rfl)⟩
  obtain ⟨fd_Program___add__, F_Program___add__⟩ := c.def_ 65 (d := d_Program___add__) rfl
  obtain ⟨fd_joined_text, F_joined_text⟩ := c.def_ 66 (d := d_joined_text) rfl
  have m_joined_text : mg "joined_text" = some (.ref (He.ga K "joined_text")) := He.glo_ok X G (c.fact 100 (f := .glo "joined_text") rfl)
  have hb_joined_text : Binds K fd_joined_text ["text", "other"] [] := F_joined_text.bindsN (fun _ _ _ _ _ _ us hl => match us, hl with | [_, _], _ => rfl)
  have S_joined_text : Std P w K mg base 1 "joined_text" ["text", "other"] (sp_joined_text K) := ⟨_, fd_joined_text, ok_joined_text F_joined_text , m_joined_text, F_joined_text.kp, hb_joined_text⟩
  have M_Program___add__ : StdM P w K mg base 19 (He.ga K "Program") "__add__" (sp_Program___add__ K (He.ga K "Program")) := ⟨_, fd_Program___add__, _, He.meth_ok (c.fact 99 (f := .meth "Program" "__add__") rfl), ok_Program___add__ F_Program___add__ g_isinstance i_MOST_WORDS g_len S_joined_text kp pa gP I_Program___init__, F_Program___add__.bindsN (ps := ["self", "other"]) (fun _ _ _ _ _ _ us hl => match us, hl with | [_, _], _ => rfl)⟩
  have S__law_pair_right : Std P w K mg base 48 "_law_pair_right" ["bag", "one", "two"] (sp__law_pair_right K (He.ga K "Effect") (He.ga K "Program")) := ⟨_, fd__law_pair_right, ok__law_pair_right F__law_pair_right S__law_measure S__law_stack S_effect_of S_run S__law_pick S__law_least S_same_effect kc a_kept_taken a_kept_left kp pa gP I_Program___init__ P_Program_need P_Program_rise C_Effect___call__ M_Effect___eq__ M_Effect___add__ sf M_Program___add__ sfp, m__law_pair_right, F__law_pair_right.kp, hb__law_pair_right⟩
  exact ok_law F S__law_bag S__law_program S__law_levelled S__law_times_right S__law_pick S__law_pair_right S__law_measure S_same_effect kp pa gP I_Program___init__
end Wx

/-! ### part H11 -/
set_option Elab.async false
set_option linter.all false
set_option maxRecDepth 100000
set_option maxHeartbeats 0
set_option autoImplicit false
namespace Wx
open PySem L2 PyProof.Rows
theorem ints_da {K : PySem.W.Frag} {S : Addr → Prop} {H : Hp} : ∀ ns : List Int, DaL K S H (ns.map V.int) (ns.map PyData.int)
  | [] => .nil
  | n :: ns => .cons (.int n) (ints_da ns)
theorem script_da {K : PySem.W.Frag} {H : Hp} {a : Addr} {ns : List Int} (h : SqL K H a (ns.map V.int)) : Da K (fun _ => False) H (.ref a) (.list (List.map PyData.int ns)) := by
  rcases h with h | h
  · exact .lst (fun z => z) h (ints_da ns)
  · exact .lstK (fun G => .inr h) (ints_da ns)
end Wx
open PySem PySem.W PySem.Calls PyProof.Rows
theorem PySem.Challenge.cw_stackworks_k62_whole_operators_needs_and_holds : PySem.Challenge.rw_stackworks_k62_whole_operators_needs_and.Holds := by
  w_on; o_law
  refine HandSHeadRun.head_any (r := OpenLaw.row PySem.Challenge.rw_stackworks_k62_whole_operators_needs_and) (q := view Wx.RR.prog [92]) (H := Wx.hk) (ob := Wx.ob) (M := 8000) (loose := Wx.loose) (d := HandSHeadRun.topDef Wx.RR.prog 92) (kwd := []) Wx.ob_eq
    (by kernel_rfl) (fun s => by kernel_rfl) Wx.run (by kernel_rfl) (by kernel_rfl) (by kernel_rfl) (by rfl) (by first | assumption | decide +kernel) (by decide +kernel) ⟨rfl, rfl, rfl, rfl, rfl, by decide +kernel⟩ ?hw ?hc
  case hw => w_witness2
  case hc =>
    refine Wx.walk_go (l := PySem.Challenge.rw_stackworks_k62_whole_operators_needs_and) (n := 63) (k := 49) (x := "script") rfl (by decide) (by kernel_rfl) ⟨rfl, by decide, by decide⟩ ?F
    intro w mg fa h Y G hmg0
    obtain ⟨K, KX, c, b⟩ := Y
    have hmg : mg ("law" : PySem.Str) = some (.ref fa) := by
      have e : (HandSHeadRun.topDef Wx.RR.prog 92).name = ("law" : PySem.Str) := by kernel_rfl
      rw [← e]
      exact hmg0
    obtain ⟨fd, hb, hF⟩ := Wx.facts (P := (PySem.Challenge.rw_stackworks_k62_whole_operators_needs_and).prog) (w := w) KX G hmg c b
    exact ⟨K, fd, Wx.sp_law K, KX, hb, fun H a ns hl _ hS => ⟨a, ns, rfl, hl, Wx.script_da hS, fun _ => rfl⟩, hF⟩

