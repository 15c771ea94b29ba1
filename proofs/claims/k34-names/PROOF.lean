import PyProof.Rows.All
import Wide.All
import OpenK.AllK
import Wide.FinOn
import PyProof.EqAt
import PyProof.EqKinds
import PyProof.TupleCall
import HandS.ForMost
import HandS.IsInst
import HandS.Wide
import HandS.WideBits
import HandS.TupAny
import HandS.Deep
import HandS.Flow
import HandS.Defaults
import HandS.Exc
import HandS.WordsExc
import HandS.Codes
import HandS.More
import HandS.Style
import PyProof.NeKinds
import HandS.MakeKwOnly
import KE.KExcInit
import KE.KExcSuper
import HandS.ExcInit
import HandS.ExcField
import HandS.ExcIs
import HandS.Lambda
import HandS.EndTab
import HandS.HeadWalk
import HandS.HeadHook4
import HandS.Walk
import HandS.FStr
import KE.KStateDown
import HandS.Head0
import HandS.Head1
import HandS.Head2
import HandS.HeadEnd
import HandS.HeadHook1
import HandS.HeadHook2
import HandS.HeadHook3
import PySem.Challenge.RW_upvalues_k34_deeds_asked_by_names
set_option Elab.async false
set_option linter.all false
set_option maxRecDepth 100000
set_option maxHeartbeats 4000000
namespace Up
open PySem PySem.Spec PyProof.Rows L2
def top (i : Nat) : Stmt := PySem.Challenge.pw_upvalues_k34_deeds_asked_by_names.main.body.getD i (.Pass ⟨0, 0, 0, 0⟩)
def bltNames : List Str := ["len", "int", "bool", "str", "isinstance", "abs", "max", "min", "divmod", "range", "enumerate", "zip", "list", "tuple", "ord", "sorted"]
abbrev s_isplain : Stmt := top 18
abbrev s_reduced : Stmt := top 19
abbrev s_fits : Stmt := top 20
abbrev s_signof : Stmt := top 21
abbrev s_Float_init : Stmt := inClass (top 17) 0
abbrev s_Float_isfinite : Stmt := inClass (top 17) 4
abbrev s_Float_ratio : Stmt := inClass (top 17) 5
abbrev s_infinity : Stmt := top 23
abbrev s_nearest : Stmt := top 24
abbrev s_tofloat : Stmt := top 27
abbrev s_isnumber : Stmt := top 25
abbrev s_placeof0 : Stmt := top 41
abbrev s_orderof : Stmt := top 40
abbrev s_compare : Stmt := top 43
abbrev s_same : Stmt := top 44
abbrev s_iswhole : Stmt := top 62
abbrev s_isnan : Stmt := top 61
abbrev s_wholeof : Stmt := top 28
abbrev s_plainkey : Stmt := top 60
abbrev s_sumof : Stmt := top 56
abbrev s_floatsum : Stmt := top 57
abbrev s_powerfor : Stmt := top 63
abbrev s_placeof1 : Stmt := top 58
abbrev s_bestsize : Stmt := top 64
abbrev s_Node_init : Stmt := inClass (top 65) 0
abbrev s_Table_init : Stmt := inClass (top 66) 0
abbrev s_Table_isinside : Stmt := inClass (top 66) 3
abbrev s_Table_find : Stmt := inClass (top 66) 2
abbrev s_Table_freeplace : Stmt := inClass (top 66) 8
abbrev s_Table_aheadof : Stmt := inClass (top 66) 7
abbrev s_Table_putnew : Stmt := inClass (top 66) 6
abbrev s_Table_get : Stmt := inClass (top 66) 4
abbrev s_Table_put : Stmt := inClass (top 66) 5
abbrev s_Table_resize : Stmt := inClass (top 66) 10
abbrev s_Table_grow : Stmt := inClass (top 66) 9
abbrev s_Table_between : Stmt := inClass (top 66) 14
abbrev s_Table_borderbeyond : Stmt := inClass (top 66) 13
abbrev s_Table_border : Stmt := inClass (top 66) 12
abbrev s_Table_room : Stmt := inClass (top 66) 17
abbrev aeT : List Value := [.type "ArithmeticError", .type "Exception", .type "BaseException", .type "object"]
abbrev s_Thrown_init : Stmt := inClass (top 2) 0
abbrev s_Table_kindword : Stmt := inClass (top 66) 1
abbrev s_Native_kindword : Stmt := inClass (top 4) 1
abbrev s_Float_kindword : Stmt := inClass (top 17) 1
abbrev s_kindname : Stmt := top 6
abbrev s_Native_init : Stmt := inClass (top 4) 0
abbrev s_isfunction : Stmt := top 7
abbrev s_metaof : Stmt := top 73
abbrev s_setmeta : Stmt := top 89
abbrev s_toldmeta : Stmt := top 90
abbrev s_isclosable : Stmt := top 91
abbrev s_calltarget : Stmt := top 87
abbrev s_indexdeed : Stmt := top 75
abbrev s_storedeed : Stmt := top 76
def ownB (K : PySem.W.Frag) (C : Addr) : Bool :=
  PySem.W.plainGet K C Str.empty && (PySem.W.hasDictIn K C && (PySem.W.plainOver K C && (decide (PySem.W.findIn K (.ref C) "__setattr__" = some (some (.builtin "object.__setattr__"))) &&
  (decide (PySem.W.findIn K (.ref C) "__class__" = some (some (.builtin "object.__class__"))) && (decide (PySem.W.specialIn K (.builtin "object.__class__") "__get__" = some (some (.builtin "getset_descriptor.__get__"))) &&
  (decide (PySem.W.takesIn K (.builtin "object.__class__") = some true) && (decide (PySem.W.mroIn K C (.type "object") = some true) && (decide (PySem.W.kitOne K (.ref C) (.type "int") = some false) &&
  (decide (PySem.W.kitOne K (.ref C) (.type "bool") = some false) && decide (PySem.W.kitOne K (.ref C) (.type "str") = some false))))))))))
def idB (K : PySem.W.Frag) (C : Addr) : Bool := decide (PySem.W.mroIn K C (.type "object") = some true) && (decide (PySem.W.findIn K (.ref C) "__eq__" = some (some (.builtin "object.__eq__"))) && decide (PySem.W.subIn K (.ref C) (.type "NoneType") = some false))
def noB (K : PySem.W.Frag) (C : Addr) (xs : List Str) : Bool := xs.all fun f => decide (PySem.W.findIn K (.ref C) f = some none)
def kitB' (K : PySem.W.Frag) (C : Addr) (b : Bool) (xs : List Value) : Bool := xs.all fun t => decide (PySem.W.kitOne K t (.ref C) = some b)
abbrev s_wrapped : Stmt := top 26
abbrev s_arith : Stmt := top 29
abbrev s_wholeorthrown : Stmt := top 30
abbrev s_bitnot : Stmt := top 39
abbrev s_arithdeed : Stmt := top 78
abbrev s_binarydeed : Stmt := top 86
abbrev s_unarydeed : Stmt := top 79
abbrev s_istext : Stmt := top 80
abbrev s_concatdeed : Stmt := top 81
abbrev s_lengthdeed : Stmt := top 82
abbrev s_equaldeed : Stmt := top 83
abbrev s_unlikedeed : Stmt := top 84
abbrev s_lessdeed : Stmt := top 85
abbrev s_shaped : Stmt := top 88
abbrev s_Lcellat : Stmt := top 93
abbrev s_Lwell : Stmt := top 94
abbrev s_Ldraw : Stmt := top 95
abbrev s_Lnumbersright : Stmt := top 97
abbrev s_Lmetasright : Stmt := top 96
abbrev s_law : Stmt := top 98
def fnB (K : PySem.W.Frag) (C D N NA : Addr) : Bool := ownB K NA && (noB K NA ["name", "act"] && (decide (NA ≠ D) && (decide (NA ≠ C) && (decide (NA ≠ N) && (kitB' K C false [.ref NA] && (kitB' K D false [.ref NA, .ref C, .type "NoneType", .type "bool", .type "int", .type "str"] && (kitB' K D true [.ref D] && (kitB' K NA true [.ref NA] &&
  kitB' K NA false [.ref C, .ref D, .type "NoneType", .type "bool", .type "int", .type "str"]))))))))
def fnAB (K : PySem.W.Frag) (C D NA FU WR : Addr) : Bool := decide (PySem.W.kitAny K (.ref NA) [.ref FU, .ref NA, .ref WR] = some true) && (decide (PySem.W.kitAny K (.ref C) [.ref FU, .ref NA, .ref WR] = some false) && (decide (PySem.W.kitAny K (.ref D) [.ref FU, .ref NA, .ref WR] = some false) &&
  (["NoneType", "bool", "int", "str"] : List String).all fun t => decide (PySem.W.kitAny K (.type t) [.ref FU, .ref NA, .ref WR] = some false)))
def idsB (K : PySem.W.Frag) (Cs : List Addr) : Bool := Cs.all fun C => idB K C && (decide (PySem.W.findIn K (.ref C) "__ne__" = some (some (.builtin "object.__ne__"))) && ((Cs.all fun C' => decide (C = C') || decide (PySem.W.subIn K (.ref C) (.ref C') = some false)) &&
  (["NoneType", "bool", "int", "str"] : List String).all fun t => decide (PySem.W.subIn K (.ref C) (.type t) = some false)))
end Up
set_option Elab.async false
set_option linter.all false
set_option maxRecDepth 100000
set_option maxHeartbeats 4000000
namespace Up
open PySem PySem.Spec PyProof.Rows L2
/-! ### a smaller head: the objects that are looked at are picked out (globals, what their classes name, what defs name), no closure by rounds -/
abbrev GT : Type := Addr → Option Obj
def rfS (g : GT) (a : Addr) : List Addr := match g a with
  | some o => He.refsD o
  | none => []
def isCS (g : GT) (a : Addr) : Bool := match g a with
  | some ⟨_, _, .cls _, _⟩ => true
  | _ => false
def fnS (g : GT) (a : Addr) : List Addr := match g a with
  | some ⟨_, _, .func fd, _⟩ => He.refV fd.defaults ++ (He.refV fd.kwdefaults ++ He.refV fd.code)
  | _ => []
def clsS (g : GT) (as : List Addr) : List Addr := (as.filter (isCS g)).flatMap (rfS g)
def allS (g : GT) (a1 a2 a3 : List Addr) : List Addr := mainGlobals :: (a1 ++ (a2 ++ (a3 ++ ((a1 ++ a3).flatMap (fnS g)))))
def selS (g : GT) : List Addr := allS g (rfS g mainGlobals) (clsS g (rfS g mainGlobals)) ((clsS g (rfS g mainGlobals)).flatMap (rfS g))
def fgS (g : GT) : PySem.W.Frag := He.frT g (selS g)
section
variable {fa : List He.Fa} {fn : List He.DefD} {ts : List He.Tab} {tf : List He.Defn} {ex : PySem.W.Frag → Bool} {w : World} {g : GT}
def obsS (fa : List He.Fa) (fn : List He.DefD) (ts : List He.Tab) (tf : List He.Defn) (ex : PySem.W.Frag → Bool) (g : GT) : He.AlX := (He.obsT fa fn ts (fgS g), ex (fgS g) && He.tabsB g tf (fgS g))
theorem tabS_of (h : He.tabsB g tf (fgS g) = true) {p : He.Defn} (hp : p ∈ tf) : PySem.W.codeHdIn (fgS g) (He.cT (fgS g) p).1 (He.cT (fgS g) p).2 = true ∧ ∃ o, g (He.cT (fgS g) p).2 = some o ∧ He.emptyTab o = true := by
  have z := List.all_eq_true.mp h p hp
  rw [Bool.and_eq_true] at z
  refine ⟨z.1, ?_⟩
  have z2 := z.2
  cases e : g (He.cT (fgS g) p).2 with
  | some o => rw [e] at z2; exact ⟨o, rfl, z2⟩
  | none => rw [e] at z2; cases z2
theorem saysS {h : Heap} (e : obsS fa fn ts tf ex h.get? = He.valX fn ts w) : He.SaysX fa fn ts tf ex w h (fgS h.get?) := by
  have a : He.obsT fa fn ts (fgS h.get?) = He.valT fn ts w := congrArg Prod.fst e
  have b : (ex (fgS h.get?) && He.tabsB h.get? tf (fgS h.get?)) = true := congrArg Prod.snd e
  rw [Bool.and_eq_true] at b
  refine { t := a, more := b.1, hd := fun p hp => (tabS_of b.2 hp).1, out := fun p hp => ?_, empty := fun p hp => ?_ }
  · have ⟨_, o, q, z⟩ := tabS_of b.2 hp
    exact He.frT_none q z
  · have ⟨_, o, q, z⟩ := tabS_of b.2 hp
    rw [← He.emptyTab_eq z]
    exact q
end
def hookS (fa : List He.Fa) (fn : List He.DefD) (ts : List He.Tab) (tf : List He.Defn) (ex : PySem.W.Frag → Bool) : PySem.W.Hook where
  α := He.AlX
  obs := fun s => obsS fa fn ts tf ex s.heap.get?
  val := fun w => He.valX fn ts w
  says := (He.hookX 0 fa fn ts tf ex).says
  of := fun _ _ e => ⟨_, He.frT_in, saysS e⟩
  keeps := (He.hookX 0 fa fn ts tf ex).keeps
theorem obsS_eq {fa : List He.Fa} {fn : List He.DefD} {ts : List He.Tab} {tf : List He.Defn} {ex : PySem.W.Frag → Bool} {g : GT} {s : Shared} (h : ∀ a, g a = s.heap.get? a) : obsS fa fn ts tf ex g = (hookS fa fn ts tf ex).obs s := by
  show obsS fa fn ts tf ex g = obsS fa fn ts tf ex s.heap.get?
  rw [funext h]
end Up

set_option Elab.async false
set_option linter.all false
set_option maxRecDepth 100000
set_option maxHeartbeats 0
set_option pp.maxSteps 300
namespace Up
open PySem PySem.Spec PyProof.Rows L2
def d_isplain : He.DefD := ⟨("is_plain", none), "is_plain", "is_plain", defArgs s_isplain, defBody s_isplain, defScope s_isplain, [], []⟩
def d_reduced : He.DefD := ⟨("reduced", none), "reduced", "reduced", defArgs s_reduced, defBody s_reduced, defScope s_reduced, [], []⟩
def d_fits : He.DefD := ⟨("fits", none), "fits", "fits", defArgs s_fits, defBody s_fits, defScope s_fits, [], []⟩
def d_Float_init : He.DefD := ⟨("Float", some "__init__"), "__init__", "Float.__init__", defArgs s_Float_init, defBody s_Float_init, defScope s_Float_init, [], []⟩
def d_Float_ratio : He.DefD := ⟨("Float", some "ratio"), "ratio", "Float.ratio", defArgs s_Float_ratio, defBody s_Float_ratio, defScope s_Float_ratio, [], []⟩
def d_Float_isfinite : He.DefD := ⟨("Float", some "is_finite"), "is_finite", "Float.is_finite", defArgs s_Float_isfinite, defBody s_Float_isfinite, defScope s_Float_isfinite, [], []⟩
def d_isnumber : He.DefD := ⟨("is_number", none), "is_number", "is_number", defArgs s_isnumber, defBody s_isnumber, defScope s_isnumber, [], []⟩
def d_wholeof : He.DefD := ⟨("whole_of", none), "whole_of", "whole_of", defArgs s_wholeof, defBody s_wholeof, defScope s_wholeof, [], []⟩
def d_placeof0 : He.DefD := ⟨("place_of_numbers", none), "place_of", "place_of", defArgs s_placeof0, defBody s_placeof0, defScope s_placeof0, [], []⟩
def d_orderof : He.DefD := ⟨("order_of", none), "order_of", "order_of", defArgs s_orderof, defBody s_orderof, defScope s_orderof, [], []⟩
def d_same : He.DefD := ⟨("same", none), "same", "same", defArgs s_same, defBody s_same, defScope s_same, [], []⟩
def d_sumof : He.DefD := ⟨("sum_of", none), "sum_of", "sum_of", defArgs s_sumof, defBody s_sumof, defScope s_sumof, [], []⟩
def d_floatsum : He.DefD := ⟨("float_sum", none), "float_sum", "float_sum", defArgs s_floatsum, defBody s_floatsum, defScope s_floatsum, [], []⟩
def d_placeof1 : He.DefD := ⟨("place_of_tables", none), "place_of", "place_of", defArgs s_placeof1, defBody s_placeof1, defScope s_placeof1, [], []⟩
def d_plainkey : He.DefD := ⟨("plain_key", none), "plain_key", "plain_key", defArgs s_plainkey, defBody s_plainkey, defScope s_plainkey, [], []⟩
def d_isnan : He.DefD := ⟨("is_nan", none), "is_nan", "is_nan", defArgs s_isnan, defBody s_isnan, defScope s_isnan, [], []⟩
def d_iswhole : He.DefD := ⟨("is_whole", none), "is_whole", "is_whole", defArgs s_iswhole, defBody s_iswhole, defScope s_iswhole, [], []⟩
def d_powerfor : He.DefD := ⟨("power_for", none), "power_for", "power_for", defArgs s_powerfor, defBody s_powerfor, defScope s_powerfor, [], []⟩
def d_bestsize : He.DefD := ⟨("best_size", none), "best_size", "best_size", defArgs s_bestsize, defBody s_bestsize, defScope s_bestsize, [], []⟩
def d_Node_init : He.DefD := ⟨("Node", some "__init__"), "__init__", "Node.__init__", defArgs s_Node_init, defBody s_Node_init, defScope s_Node_init, [], []⟩
def d_Table_init : He.DefD := ⟨("Table", some "__init__"), "__init__", "Table.__init__", defArgs s_Table_init, defBody s_Table_init, defScope s_Table_init, [.int 0, .int 0], [("meta", .non)]⟩
def d_Table_find : He.DefD := ⟨("Table", some "find"), "find", "Table.find", defArgs s_Table_find, defBody s_Table_find, defScope s_Table_find, [], []⟩
def d_Table_isinside : He.DefD := ⟨("Table", some "is_inside"), "is_inside", "Table.is_inside", defArgs s_Table_isinside, defBody s_Table_isinside, defScope s_Table_isinside, [], []⟩
def d_Table_get : He.DefD := ⟨("Table", some "get"), "get", "Table.get", defArgs s_Table_get, defBody s_Table_get, defScope s_Table_get, [], []⟩
def d_Table_freeplace : He.DefD := ⟨("Table", some "free_place"), "free_place", "Table.free_place", defArgs s_Table_freeplace, defBody s_Table_freeplace, defScope s_Table_freeplace, [], []⟩
def d_Table_aheadof : He.DefD := ⟨("Table", some "ahead_of"), "ahead_of", "Table.ahead_of", defArgs s_Table_aheadof, defBody s_Table_aheadof, defScope s_Table_aheadof, [], []⟩
def d_Table_putnew : He.DefD := ⟨("Table", some "put_new"), "put_new", "Table.put_new", defArgs s_Table_putnew, defBody s_Table_putnew, defScope s_Table_putnew, [], []⟩
def d_Table_put : He.DefD := ⟨("Table", some "put"), "put", "Table.put", defArgs s_Table_put, defBody s_Table_put, defScope s_Table_put, [], []⟩
def d_Table_resize : He.DefD := ⟨("Table", some "resize"), "resize", "Table.resize", defArgs s_Table_resize, defBody s_Table_resize, defScope s_Table_resize, [], []⟩
def d_Table_grow : He.DefD := ⟨("Table", some "grow"), "grow", "Table.grow", defArgs s_Table_grow, defBody s_Table_grow, defScope s_Table_grow, [], []⟩
def d_Native_init : He.DefD := ⟨("Native", some "__init__"), "__init__", "Native.__init__", defArgs s_Native_init, defBody s_Native_init, defScope s_Native_init, [], []⟩
def d_Table_kindword : He.DefD := ⟨("Table", some "kind_word"), "kind_word", "Table.kind_word", defArgs s_Table_kindword, defBody s_Table_kindword, defScope s_Table_kindword, [], []⟩
def d_Native_kindword : He.DefD := ⟨("Native", some "kind_word"), "kind_word", "Native.kind_word", defArgs s_Native_kindword, defBody s_Native_kindword, defScope s_Native_kindword, [], []⟩
def d_kindname : He.DefD := ⟨("kind_name", none), "kind_name", "kind_name", defArgs s_kindname, defBody s_kindname, defScope s_kindname, [], []⟩
def d_Thrown_init : He.DefD := ⟨("Thrown", some "__init__"), "__init__", "Thrown.__init__", defArgs s_Thrown_init, defBody s_Thrown_init, defScope s_Thrown_init, [.int 1], []⟩
def d_isfunction : He.DefD := ⟨("is_function", none), "is_function", "is_function", defArgs s_isfunction, defBody s_isfunction, defScope s_isfunction, [], []⟩
def d_metaof : He.DefD := ⟨("meta_of", none), "meta_of", "meta_of", defArgs s_metaof, defBody s_metaof, defScope s_metaof, [], []⟩
def d_compare : He.DefD := ⟨("compare", none), "compare", "compare", defArgs s_compare, defBody s_compare, defScope s_compare, [], []⟩
def d_setmeta : He.DefD := ⟨("set_meta", none), "set_meta", "set_meta", defArgs s_setmeta, defBody s_setmeta, defScope s_setmeta, [], []⟩
def d_toldmeta : He.DefD := ⟨("told_meta", none), "told_meta", "told_meta", defArgs s_toldmeta, defBody s_toldmeta, defScope s_toldmeta, [], []⟩
def d_isclosable : He.DefD := ⟨("is_closable", none), "is_closable", "is_closable", defArgs s_isclosable, defBody s_isclosable, defScope s_isclosable, [], []⟩
def d_calltarget : He.DefD := ⟨("call_target", none), "call_target", "call_target", defArgs s_calltarget, defBody s_calltarget, defScope s_calltarget, [], []⟩
def d_indexdeed : He.DefD := ⟨("index_deed", none), "index_deed", "index_deed", defArgs s_indexdeed, defBody s_indexdeed, defScope s_indexdeed, [], []⟩
def d_storedeed : He.DefD := ⟨("store_deed", none), "store_deed", "store_deed", defArgs s_storedeed, defBody s_storedeed, defScope s_storedeed, [], []⟩
def d_shaped : He.DefD := ⟨("shaped", none), "shaped", "shaped", defArgs s_shaped, defBody s_shaped, defScope s_shaped, [], []⟩
def d_wrapped : He.DefD := ⟨("wrapped", none), "wrapped", "wrapped", defArgs s_wrapped, defBody s_wrapped, defScope s_wrapped, [], []⟩
def d_arith : He.DefD := ⟨("arith", none), "arith", "arith", defArgs s_arith, defBody s_arith, defScope s_arith, [], []⟩
def d_wholeorthrown : He.DefD := ⟨("whole_or_thrown", none), "whole_or_thrown", "whole_or_thrown", defArgs s_wholeorthrown, defBody s_wholeorthrown, defScope s_wholeorthrown, [], []⟩
def d_bitnot : He.DefD := ⟨("bit_not", none), "bit_not", "bit_not", defArgs s_bitnot, defBody s_bitnot, defScope s_bitnot, [], []⟩
def d_arithdeed : He.DefD := ⟨("arith_deed", none), "arith_deed", "arith_deed", defArgs s_arithdeed, defBody s_arithdeed, defScope s_arithdeed, [], []⟩
def d_binarydeed : He.DefD := ⟨("binary_deed", none), "binary_deed", "binary_deed", defArgs s_binarydeed, defBody s_binarydeed, defScope s_binarydeed, [], []⟩
def d_unarydeed : He.DefD := ⟨("unary_deed", none), "unary_deed", "unary_deed", defArgs s_unarydeed, defBody s_unarydeed, defScope s_unarydeed, [], []⟩
def d_istext : He.DefD := ⟨("is_text", none), "is_text", "is_text", defArgs s_istext, defBody s_istext, defScope s_istext, [], []⟩
def d_concatdeed : He.DefD := ⟨("concat_deed", none), "concat_deed", "concat_deed", defArgs s_concatdeed, defBody s_concatdeed, defScope s_concatdeed, [], []⟩
def d_lengthdeed : He.DefD := ⟨("length_deed", none), "length_deed", "length_deed", defArgs s_lengthdeed, defBody s_lengthdeed, defScope s_lengthdeed, [], []⟩
def d_equaldeed : He.DefD := ⟨("equal_deed", none), "equal_deed", "equal_deed", defArgs s_equaldeed, defBody s_equaldeed, defScope s_equaldeed, [], []⟩
def d_unlikedeed : He.DefD := ⟨("unlike_deed", none), "unlike_deed", "unlike_deed", defArgs s_unlikedeed, defBody s_unlikedeed, defScope s_unlikedeed, [], []⟩
def d_lessdeed : He.DefD := ⟨("less_deed", none), "less_deed", "less_deed", defArgs s_lessdeed, defBody s_lessdeed, defScope s_lessdeed, [], []⟩
def d_Lcellat : He.DefD := ⟨("_law_cell_at", none), "_law_cell_at", "_law_cell_at", defArgs s_Lcellat, defBody s_Lcellat, defScope s_Lcellat, [], []⟩
def d_Lwell : He.DefD := ⟨("_law_well", none), "_law_well", "_law_well", defArgs s_Lwell, defBody s_Lwell, defScope s_Lwell, [], []⟩
def d_Ldraw : He.DefD := ⟨("_law_draw", none), "_law_draw", "_law_draw", defArgs s_Ldraw, defBody s_Ldraw, defScope s_Ldraw, [], []⟩
def d_Lnumbersright : He.DefD := ⟨("_law_numbers_right", none), "_law_numbers_right", "_law_numbers_right", defArgs s_Lnumbersright, defBody s_Lnumbersright, defScope s_Lnumbersright, [], []⟩
def d_Lmetasright : He.DefD := ⟨("_law_metas_right", none), "_law_metas_right", "_law_metas_right", defArgs s_Lmetasright, defBody s_Lmetasright, defScope s_Lmetasright, [], []⟩
def d_law : He.DefD := ⟨("law", none), "law", "law", defArgs s_law, defBody s_law, defScope s_law, [], []⟩
def hfn : List He.DefD := [d_isplain, d_reduced, d_fits, d_Float_init, d_Float_ratio, d_Float_isfinite, d_isnumber, d_wholeof, d_placeof0, d_orderof, d_same, d_sumof,
  d_floatsum, d_placeof1, d_plainkey, d_isnan, d_iswhole, d_powerfor, d_bestsize, d_Node_init, d_Table_init, d_Table_find, d_Table_isinside, d_Table_get,
  d_Table_freeplace, d_Table_aheadof, d_Table_putnew, d_Table_put, d_Table_resize, d_Table_grow, d_Native_init, d_Table_kindword, d_Native_kindword, d_kindname, d_Thrown_init, d_isfunction,
  d_metaof, d_compare, d_setmeta, d_toldmeta, d_isclosable, d_calltarget, d_indexdeed, d_storedeed, d_shaped, d_wrapped, d_arith, d_wholeorthrown,
  d_bitnot, d_arithdeed, d_binarydeed, d_unarydeed, d_istext, d_concatdeed, d_lengthdeed, d_equaldeed, d_unlikedeed, d_lessdeed, d_Lcellat, d_Lwell,
  d_Ldraw, d_Lnumbersright, d_Lmetasright, d_law]
def hglo : List Str := (["is_plain", "reduced", "fits", "is_number", "whole_of", "place_of_numbers", "order_of", "same", "sum_of", "float_sum", "place_of_tables", "plain_key"] : List Str) ++
  (["is_nan", "is_whole", "power_for", "best_size", "kind_name", "is_function", "meta_of", "compare", "set_meta", "told_meta", "is_closable", "call_target"] : List Str) ++
  (["index_deed", "store_deed", "shaped", "wrapped", "arith", "whole_or_thrown", "bit_not", "arith_deed", "binary_deed", "unary_deed", "is_text", "concat_deed"] : List Str) ++
  (["length_deed", "equal_deed", "unlike_deed", "less_deed", "_law_cell_at", "_law_well", "_law_draw", "_law_numbers_right", "_law_metas_right", "law", "Float", "Table"] : List Str) ++
  (["Node", "Native", "Thrown", "Function", "Wrapped"] : List Str)
def hfa : List He.Fa := hglo.map He.Fa.glo ++ (bltNames.map He.Fa.free ++ [.int "LEAST" (-9223372036854775808), .int "MOST" (9223372036854775807), .int "ROOM" (9007199254740992), .int "LOWEST" (-1074), .int "TOO_GREAT" (1024), .int "MOST_PLACE" (2147483648), .int "LOW_HALF" (2147483647), .int "MOST_CALLED" (100), .int "MOST_ROUNDS" (2000), .int "MOST_SIGNS" (100000), .free "ArithmeticError", .mkr "Float", .meth "Float" "ratio", .meth "Float" "is_finite", .mkr "Node", .mkr "Table", .meth "Table" "find", .meth "Table" "is_inside", .meth "Table" "get", .meth "Table" "free_place", .meth "Table" "ahead_of", .meth "Table" "put_new", .meth "Table" "put", .meth "Table" "resize", .meth "Table" "grow", .mkr "Native", .meth "Table" "kind_word", .meth "Native" "kind_word", .meth "Thrown" "__init__"])
def thB (K : PySem.W.Frag) (C : Addr) (f : Addr) : Bool := PySem.W.excInitIn K C aeT "ArithmeticError.__new__" && (PySem.W.excOver K C aeT && (PySem.W.hasDictIn K C && (decide (PySem.W.findIn K (.ref C) "__setattr__" = some (some (.builtin "object.__setattr__"))) &&
  (decide (PySem.W.subIn K (.ref C) (.type "BaseException") = some true) && (decide (PySem.W.typeIn K (.ref C) = some (.type "type")) && (PySem.W.keepIn K (.ref C) && (noB K C ["value", "level"] && (xfB K C && (decide (PySem.W.exmOne K (.ref C) (.ref C) = some true) &&
  ((match PySem.W.findCls K (.type "ArithmeticError") (.type "type") "__init__" with | some (.val (.builtin n)) => n == "ArithmeticError.__init__" | _ => false) && decide (PySem.W.typeIn K (.ref f) = some (.type "function"))))))))))))
def evB (K : PySem.W.Frag) : Bool := fnB K (He.ga K "Float") (He.ga K "Table") (He.ga K "Node") (He.ga K "Native") && (idsB K [He.ga K "Table", He.ga K "Native"] && ((fnAB K (He.ga K "Float") (He.ga K "Table") (He.ga K "Native") (He.ga K "Function") (He.ga K "Wrapped")) && (thB K (He.ga K "Thrown") (He.ma K (He.ga K "Thrown") "__init__"))))
def hex (K : PySem.W.Frag) : Bool := ownB K (He.ga K "Float") && (noB K (He.ga K "Float") ["sign", "top", "power"] && (kitB' K (He.ga K "Float") true [.ref (He.ga K "Float")] &&
  (kitB' K (He.ga K "Float") false [.type "int", .type "bool", .type "str", .type "NoneType", .type "list", .type "tuple", .type "dict", .ref (He.ga K "Table")] &&
  (ownB K (He.ga K "Table") && (noB K (He.ga K "Table") ["number", "meta", "array", "nodes", "free"] && (idB K (He.ga K "Table") && (ownB K (He.ga K "Node") && (noB K (He.ga K "Node") ["key", "value", "link", "is_dead"] &&
  (kitB' K (He.ga K "Native") false [.ref (He.ga K "Table")] && (decide (He.ga K "Float" ≠ He.ga K "Table") && (decide (He.ga K "Float" ≠ He.ga K "Node") && (decide (He.ga K "Table" ≠ He.ga K "Node") && evB K))))))))))))
abbrev hR : PySem.W.OpenRow := PySem.W.OpenLaw.row PySem.Challenge.rw_upvalues_k34_deeds_asked_by_names
abbrev hk : PySem.W.Hook := hookS hfa hfn [] [] hex
def hob (s : PySem.W.SharedT) : He.AlX := obsS hfa hfn [] [] hex (HandSHeadRun.getT s)
theorem hob_eq (s : PySem.W.SharedT) : hob s = hk.obs s.abs := obsS_eq (HandSHeadRun.getT_eq s)
def hloose : List PySem.Str := (["_wall", "Thrown", "Function", "Native", "Wrapped", "kind_name", "is_function", "LuaError", "InvalidArgument", "LEAST", "MOST", "ROOM", "LOWEST", "TOO_GREAT", "Float", "is_plain", "reduced", "fits", "sign_of", "nan", "infinity", "nearest", "is_number", "wrapped", "to_float", "whole_of", "arith", "whole_or_thrown", "by_bits", "by_floats"] : List PySem.Str) ++ (["added", "multiplied", "divided", "floored", "remainder", "negated", "bit_not", "order_of", "place_of", "place_of_numbers", "compare", "same", "SHOWN", "text_of", "ten_times", "shown", "place_of_first", "rounded_at", "MOST_PLACE", "LOW_HALF", "MOST_WHOLE", "sum_of", "float_sum", "place_of_tables", "plain_key", "is_nan", "is_whole", "power_for", "best_size", "Node"] : List PySem.Str) ++ (["Table", "MOST_ROUNDS", "MOST_CALLED", "MOST_SIGNS", "EVENTS", "BITWISE", "meta_of", "first_event", "index_deed", "store_deed", "wrong_operand", "arith_deed", "unary_deed", "is_text", "concat_deed", "length_deed", "equal_deed", "unlike_deed", "less_deed", "binary_deed", "call_target", "shaped", "set_meta", "told_meta", "is_closable", "_law_cell_at", "_law_well", "_law_draw", "_law_metas_right", "_law_numbers_right"] : List PySem.Str)
abbrev qv : Program := PySem.W.view hR.prog [98]
end Up

set_option Elab.async false
set_option linter.all false
set_option maxRecDepth 100000
set_option maxHeartbeats 0
set_option pp.maxSteps 300
namespace Up
open PySem PySem.Spec PyProof.Rows L2
theorem hpf (w : World) : HandSHeadRun.RunEq hR qv hk hob 6000 hloose (w.withFollow "special-get-raises" false) := by
  intro os
  kernel_rfl
end Up

set_option Elab.async false
set_option linter.all false
set_option maxRecDepth 100000
set_option maxHeartbeats 0
set_option pp.maxSteps 300
namespace Up
open PySem PySem.Spec PyProof.Rows L2
theorem hpt (w : World) : HandSHeadRun.RunEq hR qv hk hob 6000 hloose (w.withFollow "special-get-raises" true) := by
  intro os
  kernel_rfl
end Up

set_option Elab.async false
set_option linter.all false
set_option maxRecDepth 100000
set_option maxHeartbeats 0
set_option pp.maxSteps 300
namespace Up
open PySem PySem.Spec PyProof.Rows L2
theorem hrun (w : World) : HandSHeadRun.RunEq hR qv hk hob 6000 hloose w := PySem.W.byRow2 "special-get-raises" (P := fun w => HandSHeadRun.RunEq hR qv hk hob 6000 hloose w) hpf hpt w
end Up


set_option Elab.async false
set_option linter.all false
set_option maxRecDepth 100000
set_option maxHeartbeats 4000000
namespace Up
open PySem PySem.Spec PyProof.Rows L2

theorem sz {n : Nat} (h : Nat.ble n 100000 = true) : n ≤ sizeLine := Nat.le_trans (Nat.le_of_ble_eq_true h) (by decide)
/-! ### a new object, by what is known of the heap behind it -/
def NewAt (H : Hp) (o : HO) (Q : VK) : Prop := ∀ p H', H p = none → Same H H' → H' p = some o → (∀ b, b ≠ p → H' b = H b) → Q (.ref p) H'
theorem NewAt.all {H : Hp} {o : HO} {Q : VK} (h : NewAt H o Q) : ∀ p, H p = none → Q (.ref p) (upd H p o) := fun p hp =>
  h p _ hp (fun b u e => by rw [upd_ne (ne_of_none e hp)]; exact e) upd_same fun b hb => upd_ne hb
def tTupN (t : TA) : TE := fun σ H Q => t σ H fun xs H1 => xs.length ≤ sizeLine ∧ NewAt H1 (.tup xs) Q
def tLstN (t : TA) : TE := fun σ H Q => t σ H fun xs H1 => xs.length ≤ sizeLine ∧ NewAt H1 (.lst xs) Q
section
variable {X : Cx} {es : List Expr} {t : TA} {pos : Pos}
theorem pe_tupN {x1} (h : PA X es t) : PE X (.Tuple es x1 pos) (tTupN t) := by
  refine ⟨fun pins s σ H Q I hq => ?_⟩
  refine wpAny_Tuple_spliced (thn (h.run pos pins s σ H _ I hq) fun us s1 ⟨xs, H1, I1, r, z, q⟩ => ⟨(by rw [← r.length]; exact z), ?_⟩)
  exact ⟨.ref s1.heap.objs.size, upd H1 s1.heap.objs.size (.tup xs), I1.laid (t' := s1.toks) (fun b u e => Heap.get?_push_of_some _ e) (Nat.le_refl _) ⟨z, us, r, ⟨_, Heap.get?_push_size _ rfl, rfl, _, rfl⟩⟩, rfl, q.all _ (I1.hok.fresh (Nat.le_refl _))⟩
theorem pe_lstN (h : PA X es t) : PE X (.List es pos) (tLstN t) := by
  refine ⟨fun pins s σ H Q I hq => ?_⟩
  refine wpAny_List_spliced (thn (h.run pos pins s σ H _ I hq) fun us s1 ⟨xs, H1, I1, r, z, q⟩ => ⟨(by rw [← r.length]; exact z), ?_⟩)
  exact ⟨.ref s1.heap.objs.size, upd H1 s1.heap.objs.size (.lst xs), I1.laid (t' := s1.toks) (fun b u e => Heap.get?_push_of_some _ e) (Nat.le_refl _) ⟨z, us, 0, r, Heap.get?_push_size _ rfl⟩, rfl, q.all _ (I1.hok.fresh (Nat.le_refl _))⟩
end
/-! ### operators by the kinds of their values -/
section
variable {X : Cx} {f : Value → Value → Sem Value} {r r' : R2}
theorem op_or (h : OpR X f r) (h' : OpR X f r') : OpR X f (fun x y H Q => r x y H Q ∨ r' x y H Q) := by
  intro pins s σ H x y v u Q I rx ry q
  rcases q with q | q
  · exact h pins s σ H x y v u Q I rx ry q
  · exact h' pins s σ H x y v u Q I rx ry q
theorem op_wk (h : OpR X f r) (k : ∀ x y H Q, r' x y H Q → r x y H Q) : OpR X f r' := by
  intro pins s σ H x y v u Q I rx ry q
  exact h pins s σ H x y v u Q I rx ry (k _ _ _ _ q)
theorem op_wh {S : Prop} (h : S → OpR X f r) (k : ∀ x y H Q, r' x y H Q → S ∧ r x y H Q) : OpR X f r' := by
  intro pins s σ H x y v u Q I rx ry q
  exact h (k _ _ _ _ q).1 pins s σ H x y v u Q I rx ry (k _ _ _ _ q).2
end
/-- two lists that are read -/
def oCatS (K : PySem.W.Frag) : R2 := fun x y H Q => ∃ a b xs ys, x = .ref a ∧ y = .ref b ∧ SqL K H a xs ∧ SqL K H b ys ∧ xs.length + ys.length ≤ sizeLine ∧ NewAt H (.lst (xs ++ ys)) Q
theorem op_catS {X : Cx} : OpR X (binaryOp .Add) (oCatS X.K) := by
  intro pins s σ H x y v u Q I rx ry h
  obtain ⟨a, b, xs, ys, rfl, rfl, ha, hb, hz, q⟩ := h
  cases rx
  cases ry
  obtain ⟨its, r1, p1, _⟩ := I.list ha
  obtain ⟨jts, r2, p2, _⟩ := I.list hb
  have l1 := r1.length
  have l2 := r2.length
  obtain ⟨⟨c1, d1, t1, z1⟩, n1, e1, k1, _, w1⟩ := p1
  obtain ⟨⟨c2, d2, t2, z2⟩, n2, e2, k2, _, w2⟩ := p2
  simp only at k1 w1 k2 w2
  subst k1 w1 k2 w2
  refine concat_meets (S := _) ⟨_, e1, rfl⟩ ⟨_, e2, rfl⟩ noFill_list_add seq_list_add PySem.F.slot_list_add PySem.F.entry_list_add (PySem.F.args_list_add_2 _ _) (list_addW a b its.toArray jts.toArray n1 n2 d1 d2 z1 z2 (by rw [List.size_toArray, List.size_toArray]; omega)) ⟨e1, e2, ?_⟩
  rw [show its.toArray ++ jts.toArray = (its ++ jts).toArray by simp]
  exact ⟨.ref _, _, I.lnew (t' := s.toks) (r1.append r2) (by rw [List.length_append]; omega), rfl, q.all _ I.fresh⟩
/-- two tuples -/
def oCatU (K : PySem.W.Frag) : R2 := fun x y H Q => ∃ a b xs ys, x = .ref a ∧ y = .ref b ∧ SqT K H a xs ∧ SqT K H b ys ∧ xs.length + ys.length ≤ sizeLine ∧ xs ≠ [] ∧ ys ≠ [] ∧ NewAt H (.tup (xs ++ ys)) Q
/-- a + b -/
def oAdd (K : PySem.W.Frag) : R2 := fun x y H Q => match x, y with
  | .int i, .int j => Q (.int (i + j)) H
  | .str a, .str b => a.length + b.length ≤ sizeLine ∧ Q (.str (a ++ b)) H
  | .ref a, .ref b => oCatS K (.ref a) (.ref b) H Q ∨ oCatU K (.ref a) (.ref b) H Q
  | _, _ => False
theorem op_oAdd {X : Cx} : OpR X (binaryOp .Add) (oAdd X.K) := by
  refine op_wk (op_or op_add (op_or op_add_str (op_or op_catS op_catA))) fun x y H Q q => ?_
  cases x <;> cases y <;> first | exact q.elim | skip
  · exact .inl ⟨_, _, rfl, rfl, q⟩
  · exact .inr (.inl ⟨_, _, rfl, rfl, q⟩)
  · rcases q with q | ⟨c, d, xs, ys, e1, e2, h1, h2, hz, n1, n2, q⟩
    · exact .inr (.inr (.inl q))
    · exact .inr (.inr (.inr ⟨c, d, xs, ys, e1, e2, h1, h2, hz, fun z => absurd z n1, fun _ z => absurd z n2, fun _ _ => q.all⟩))
/-- a - b, of ints and of bools -/
def oSub : R2 := fun x y H Q => match x, y with
  | .int i, .int j => Q (.int (i - j)) H
  | .bl i, .bl j => Q (.int (b2i i - b2i j)) H
  | _, _ => False
theorem op_sub_bb {X : Cx} : OpR X (binaryOp .Sub) (fun x y H Q => ∃ i j, x = .bl i ∧ y = .bl j ∧ Q (.int (b2i i - b2i j)) H) := by
  intro pins s σ H x y v u Q I rx ry h
  obtain ⟨i, j, rfl, rfl, q⟩ := h
  cases rx
  cases ry
  exact sub_bool ⟨.int (b2i i - b2i j), H, I.tok _, ⟨_, rfl⟩, q⟩
theorem op_oSub {X : Cx} : OpR X (binaryOp .Sub) oSub := by
  refine op_wk (op_or op_sub op_sub_bb) fun x y H Q q => ?_
  cases x <;> cases y <;> first | exact q.elim | skip
  · exact .inr ⟨_, _, rfl, rfl, q⟩
  · exact .inl ⟨_, _, rfl, rfl, q⟩
/-- a * b -/
def oMul : R2 := fun x y H Q => match x, y with
  | .int i, .int j => IntMulOk i j ∧ Q (.int (i * j)) H
  | .ref a, .int k => ∃ xs, H a = some (.lst xs) ∧ -(2 ^ 63) ≤ k ∧ k < 2 ^ 63 ∧ xs.length * k.toNat ≤ sizeLine ∧ NewAt H (.lst (List.replicate k.toNat xs).flatten) Q
  | _, _ => False
theorem op_mulK {X : Cx} : OpR X (binaryOp .Mult) (rI IntMulOk fun i j => .int (i * j)) := opI fun _ _ _ _ _ _ _ hc q => mul_int q hc
theorem op_oMul {X : Cx} : OpR X (binaryOp .Mult) oMul := by
  refine op_wk (op_or op_mulK op_rep) fun x y H Q q => ?_
  cases x <;> cases y <;> first | exact q.elim | skip
  · exact .inl ⟨_, _, rfl, rfl, q⟩
  · obtain ⟨xs, h1, h2, h3, h4, q⟩ := q
    exact .inr ⟨_, _, xs, rfl, rfl, h1, h2, h3, h4, q.all⟩
/-- a // b -/
def oDiv : R2 := fun x y H Q => match x, y with
  | .int i, .int j => (j ≠ 0 ∧ j.natAbs.log2 < 9000) ∧ Q (.int (i.fdiv j)) H
  | _, _ => False
theorem op_oDiv {X : Cx} : OpR X (binaryOp .FloorDiv) oDiv := by
  refine op_wk (r := rI (fun _ j => j ≠ 0 ∧ j.natAbs.log2 < 9000) fun i j => .int (i.fdiv j)) (opI fun _ _ _ _ _ _ _ hc q => floordiv_int hc.1 q (.inl (PyProof.noPylong_of_log2 hc.2))) fun x y H Q q => ?_
  cases x <;> cases y <;> first | exact q.elim | skip
  exact ⟨_, _, rfl, rfl, q⟩
/-- a % b -/
def oMod : R2 := fun x y H Q => match x, y with
  | .int i, .int j => j ≠ 0 ∧ Q (.int (i.fmod j)) H
  | _, _ => False
theorem op_oMod {X : Cx} : OpR X (binaryOp .Mod) oMod := by
  refine op_wk op_modN fun x y H Q q => ?_
  cases x <;> cases y <;> first | exact q.elim | skip
  exact ⟨_, _, rfl, rfl, q⟩
/-- an operator of two ints with a condition -/
def oII (C : Int → Int → Prop) (g : Int → Int → V) : R2 := fun x y H Q => match x, y with
  | .int i, .int j => C i j ∧ Q (g i j) H
  | _, _ => False
theorem op_oII {X : Cx} {f : Value → Value → Sem Value} {C : Int → Int → Prop} {g : Int → Int → V} (h : OpR X f (rI C g)) : OpR X f (oII C g) := by
  refine op_wk h fun x y H Q q => ?_
  cases x <;> cases y <;> first | exact q.elim | skip
  exact ⟨_, _, rfl, rfl, q⟩
def oI0 (g : Int → Int → V) : R2 := fun x y H Q => match x, y with
  | .int i, .int j => Q (g i j) H
  | _, _ => False
theorem op_oI0 {X : Cx} {f : Value → Value → Sem Value} {g : Int → Int → V} (h : OpR X f (rI0 g)) : OpR X f (oI0 g) := by
  refine op_wk h fun x y H Q q => ?_
  cases x <;> cases y <;> first | exact q.elim | skip
  exact ⟨_, _, rfl, rfl, q⟩
abbrev oPow : R2 := oII CPow fun i j => .int (i ^ j.toNat)
abbrev oShl : R2 := oII CShl fun i j => .int (i * 2 ^ j.toNat)
abbrev oShr : R2 := oII (fun _ j => 0 ≤ j) fun i j => .int (i / 2 ^ j.toNat)
abbrev oAnd : R2 := oI0 fun i j => .int (Builtin.bitAnd i j)
abbrev oOr : R2 := oI0 fun i j => .int (Builtin.bitOr i j)
abbrev oXor : R2 := oI0 fun i j => .int (Builtin.bitXor i j)
theorem op_oPow {X : Cx} : OpR X (binaryOp .Pow) oPow := op_oII op_pow
theorem op_oShl {X : Cx} : OpR X (binaryOp .LShift) oShl := op_oII op_shlW
theorem op_oShr {X : Cx} : OpR X (binaryOp .RShift) oShr := op_oII op_shr
theorem op_oAnd {X : Cx} : OpR X (binaryOp .BitAnd) oAnd := op_oI0 op_and
theorem op_oOr {X : Cx} : OpR X (binaryOp .BitOr) oOr := op_oI0 L2.op_or
theorem op_oXor {X : Cx} : OpR X (binaryOp .BitXor) oXor := op_oI0 op_xor
/-! ### comparisons -/
def oCmp (g : Int → Int → Bool) (k : Str → Str → Bool) : R2 := fun x y H Q => match x, y with
  | .int i, .int j => Q (.bl (g i j)) H
  | .str a, .str b => Q (.bl (k a b)) H
  | _, _ => False
theorem op_oCmp {X : Cx} {f : Value → Value → Sem Value} {g : Int → Int → Bool} {k : Str → Str → Bool} (h : OpR X f (rI0 fun i j => .bl (g i j))) (h' : OpR X f (fun x y H Q => ∃ i j, x = .str i ∧ y = .str j ∧ Q (.bl (k i j)) H)) : OpR X f (oCmp g k) := by
  refine op_wk (op_or h h') fun x y H Q q => ?_
  cases x <;> cases y <;> first | exact q.elim | skip
  · exact .inl ⟨_, _, rfl, rfl, q⟩
  · exact .inr ⟨_, _, rfl, rfl, q⟩
abbrev oLt : R2 := oCmp (fun i j => decide (i < j)) fun a b => decide (a.cps.toList < b.cps.toList)
theorem op_oLt {X : Cx} : OpR X (compareOp .Lt) oLt := op_oCmp op_lt op_lt_str
abbrev oLe : R2 := oI0 fun i j => .bl (decide (i ≤ j))
abbrev oGt : R2 := oI0 fun i j => .bl (decide (j < i))
abbrev oGe : R2 := oI0 fun i j => .bl (decide (j ≤ i))
theorem op_oLe {X : Cx} : OpR X (compareOp .LtE) oLe := op_oI0 op_le
theorem op_oGt {X : Cx} : OpR X (compareOp .Gt) oGt := op_oI0 op_gt
theorem op_oGe {X : Cx} : OpR X (compareOp .GtE) oGe := op_oI0 op_ge
/-- a == b of scalars, of data -/
def oEq (K : PySem.W.Frag) : R2 := fun x y H Q => rEq x y H Q ∨ rEqD K x y H Q
def oNe (K : PySem.W.Frag) : R2 := fun x y H Q => rNe x y H Q ∨ rNeD K x y H Q
theorem op_oEq {X : Cx} (hu : X.A.units + 64 < cLine) : OpR X (compareOp .Eq) (oEq X.K) := op_or op_eq (op_eqD hu)
theorem op_oNe {X : Cx} (hu : X.A.units + 64 < cLine) : OpR X (compareOp .NotEq) (oNe X.K) := op_or op_ne (op_neD hu)

/-! ### slices, divmod -/
def oSlL (K : PySem.W.Frag) : V → Option Int → Option Int → Hp → VK → Prop := fun x lo hi H Q => ∃ a xs, x = .ref a ∧ SqL K H a xs ∧ NewAt H (.lst (cutV xs lo hi)) Q
theorem sl_lstN {X : Cx} : SlR X (oSlL X.K) := by
  intro pins s σ H x v vl vu lo hi sl Q I rx hs pl pu h
  obtain ⟨a, xs, e, hq, q⟩ := h
  exact sl_list pins s σ H x v vl vu lo hi sl Q I rx hs pl pu ⟨a, xs, e, hq, q.all⟩
def rDivm : List V → Hp → VK → Prop := fun xs H Q => ∃ i j, xs = [.int i, .int j] ∧ (0 < j ∧ j.natAbs.log2 < 9000) ∧ NewAt H (.tup [.int (i / j), .int (i % j)]) Q
theorem call_divmodK {X : Cx} : CallR X (.builtin "divmod") rDivm := by
  intro pins s σ H xs us Q I r h
  obtain ⟨i, j, e, hc, q⟩ := h
  exact call_divmodW pins s σ H xs us Q I r ⟨i, j, e, ⟨hc.1, PyProof.noPylong_of_log2 hc.2⟩, q.all⟩
/-! ### targets: o.f of an instance -/
def gFld (K : PySem.W.Frag) (to : TE) (f : Str) : TG := fun v σ H Q => to σ H fun x H1 => ∃ a C dx fs, x = .ref a ∧ H1 a = some (.ins C dx fs) ∧ Cls K C ∧ NoAttr K C f ∧ fs.length < 1000 ∧ Q σ (upd H1 a (.ins C dx (putF f v fs)))
theorem pg_fld {X : Cx} {o : Expr} {f : Str} {pos : Pos} {to : TE} (ho : PE X o to)
    (ha : ∀ v, assign (.Attribute o f pos) X.env v = (do
      let ov ← holding [v] (eval o X.env)
      standAt pos.atName
      holding [v, ov] (setAttr ov f v)
      release [v, ov] []) := by intro _; rfl) : PG X (.Attribute o f pos) (gFld X.K to f) := by
  refine ⟨fun pins s σ H v u Q I r h => ?_⟩
  rw [ha]
  refine wpAny_bind (wpAny_holding (thn (ho.run pins s σ H _ I h) fun ov s1 ⟨x, H1, I1, r1, a, C, dx, fs, ex, ea, c, n, l, q1⟩ => ?_))
  subst ex
  obtain rfl : ov = Value.ref a := r1
  refine wpAny_bind (wpAny_standAt (wpAny_bind (wpAny_holding (setattr_ok I1 ea c n l r fun s3 I3 => ?_))))
  exact wpAny_release ⟨σ, _, I3, q1⟩

/-! ### a def of the text, called by its name -/
section
variable (P : Program) (w : World) (K : PySem.W.Frag) (mg : Str → Option Value) (base : Heap)
/-- the module's name x holds a def that keeps sp -/
def Fn (CX : CXT) (k : Nat) (x : Str) (ps : List Str) (dvs : List V) (sp : Sp) : Prop :=
  ∃ f fd ds, FnOk P w K mg base CX k f fd ps sp ∧ mg x = some (.ref f) ∧ PySem.W.keepIn K (.ref f) = true ∧ Binds K fd ps ds ∧ Vals dvs ds
/-- the class at C has a method m that keeps sp -/
def Mt (CX : CXT) (k : Nat) (C : Addr) (m : Str) (ps : List Str) (sp : Sp) : Prop :=
  ∃ f fd, FnOk P w K mg base CX k f fd ps sp ∧ Meth K C m f ∧ Binds K fd ps [] ∧ Cls K C
/-- the name x holds a class at C that is made by an __init__ that keeps sp -/
def Cn (CX : CXT) (k : Nat) (x : Str) (C : Addr) (ps : List Str) (dvs : List V) (sp : Sp) : Prop :=
  ∃ f fd ds, FnOk P w K mg base CX k f fd ps sp ∧ Mk K C f ∧ mg x = some (.ref C) ∧ Binds K fd ps ds ∧ Vals dvs ds
end
section
variable {X : Cx} {CX : CXT} {k : Nat} {C : Addr} {x m : Str} {ps : List Str} {dvs : List V} {sp : Sp} {E : XK} {p pos apos : Pos} {e o : Expr} {es : List Expr} {ta : TE} {t : TA}
theorem pe_fn (F : Fn X.prog X.w X.K X.mg X.base CX k x ps dvs sp) (hr : Room k X.A) (hx : Passes CX X E) (ha : PA X (e :: es) t) (hg : Gl X x := by rfl)
    (hdb : (x == ("__debug__" : Str)) = false := by decide) (he : starEach (e :: es) X.env = (false, eval e X.env) :: starEach es X.env := by rfl) (hpl : (backTo pos (starEach es X.env)).any (·.1) = false := by rfl) :
    PE X (.Call (.Name x p) (e :: es) [] pos) (tCall sp dvs E t) := by
  obtain ⟨f, fd, ds, F, hm, hk, hb, hd⟩ := F
  exact pe_call F hr hg hm hk hb hd hx ha hdb he hpl
theorem pe_fn0 (F : Fn X.prog X.w X.K X.mg X.base CX k x ps dvs sp) (hr : Room k X.A) (hx : Passes CX X E) (hg : Gl X x := by rfl)
    (hdb : (x == ("__debug__" : Str)) = false := by decide) : PE X (.Call (.Name x p) [] [] pos) (tCall sp dvs E tNil) := by
  obtain ⟨f, fd, ds, F, hm, hk, hb, hd⟩ := F
  exact pe_call0 F hr hg hm hk hb hd hx hdb
/-- C(..): a new instance and its dict, then __init__ -/
def MakeR (C : Addr) (sp : Sp) (vs : List V) (H : Hp) (Q : VK) (E : XK) : Prop := ∀ x dx H', H x = none → H dx = none → dx ≠ x → Same H H' → H' x = some (.ins C dx []) → (∀ b, b ≠ x → b ≠ dx → H' b = H b) →
  sp (.ref x :: vs) H' (fun v H2 => v = .non ∧ Q (.ref x) H2) E
def tMakeN (C : Addr) (sp : Sp) (dvs : List V) (E : XK) (t : TA) : TE := fun σ H Q => t σ H fun vs H1 => MakeR C sp (vs ++ dvs) H1 Q E
theorem pe_cn (F : Cn X.prog X.w X.K X.mg X.base CX k x C ps dvs sp) (hr : Room (k + 1) X.A) (hx : Passes CX X E) (ha : PA X (e :: es) t) (hg : Gl X x := by rfl)
    (hdb : (x == ("__debug__" : Str)) = false := by decide) (he : starEach (e :: es) X.env = (false, eval e X.env) :: starEach es X.env := by rfl) (hpl : (backTo pos (starEach es X.env)).any (·.1) = false := by rfl) :
    PE X (.Call (.Name x p) (e :: es) [] pos) (tMakeN C sp dvs E t) := by
  obtain ⟨f, fd, ds, F, hM, hm, hb, hd⟩ := F
  refine ⟨fun pins s σ H Q I h => ?_⟩
  refine wpAny_Call_Name_kw (ld_glob I hg hm ?_ hdb)
  refine PySem.W.callWith_K (h₀ := X.base) I.ok.mod.kin hM.kp (thn (ha.run pos pins s σ H _ I h) fun us s1 ⟨vs, H1, I1, r, q⟩ => ⟨I1.kIn, ?_⟩) he hpl
  refine run_make hM F hr hb hd hx I1 r fun y dy n1 n2 ne => q y dy _ n1 n2 ne (fun b u z => ?_) upd_same fun b hb1 hb2 => ?_
  · rw [upd_ne (ne_of_none z n1), upd_ne (ne_of_none z n2)]; exact z
  · rw [upd_ne hb1, upd_ne hb2]
theorem pe_mt {pl : Sem Bool} (F : Mt X.prog X.w X.K X.mg X.base CX k C m ps sp) (hr : Room k X.A) (hx : Passes CX X E) (he : PE X o ta) (ha : PA X (e :: es) t)
    (hst : starEach (e :: es) X.env = (false, eval e X.env) :: starEach es X.env := by rfl) (hpl : (backTo pos (starEach es X.env)).any (·.1) = false := by rfl)
    (ht : eval (.Call (.Attribute o m apos) (e :: es) [] pos) X.env = (do
      let ov ← eval o X.env
      standAt apos.atName
      let (f, first) ← holding [ov] (getMethod ov m pl)
      callWith pos f first (backTo pos (starEach (e :: es) X.env)) (backToKw pos (keywordEach [] X.env))) := by rfl) :
    PE X (.Call (.Attribute o m apos) (e :: es) [] pos) (tMeth C m sp [] E ta t) := by
  obtain ⟨f, fd, F, hm, hb, c⟩ := F
  exact pe_meth (pl := pl) he c hm F hr hb .nil hx ha hst hpl ht
theorem pe_mt0 {pl : Sem Bool} (F : Mt X.prog X.w X.K X.mg X.base CX k C m ps sp) (hr : Room k X.A) (hx : Passes CX X E) (he : PE X o ta)
    (ht : eval (.Call (.Attribute o m apos) [] [] pos) X.env = (do
      let ov ← eval o X.env
      standAt apos.atName
      let (f, first) ← holding [ov] (getMethod ov m pl)
      callWith pos f first (backTo pos (starEach [] X.env)) (backToKw pos (keywordEach [] X.env))) := by rfl) :
    PE X (.Call (.Attribute o m apos) [] [] pos) (tMeth C m sp [] E ta tNil) := by
  obtain ⟨f, fd, F, hm, hb, c⟩ := F
  exact pe_meth0 (pl := pl) he c hm F hr hb .nil hx ht
end

/-! ### the rules with the written part named (within a comprehension) -/
section
variable {X : Cx} (K : PySem.W.Frag)
theorem call_isiE (h : X.K = K) : CallR X (.builtin "isinstance") (rIsi K) := h ▸ call_isi
theorem call_len_seqE (h : X.K = K) : CallR X (.builtin "len") (fun xs H Q => ∃ p ys, xs = [.ref p] ∧ (SqL K H p ys ∨ SqT K H p ys) ∧ Q (.int ys.length) H) := h ▸ call_len_seq
theorem op_oAddE (h : X.K = K) : OpR X (binaryOp .Add) (oAdd K) := h ▸ op_oAdd
theorem op_oEqE (h : X.K = K) (hu : X.A.units + 64 < cLine) : OpR X (compareOp .Eq) (oEq K) := h ▸ op_oEq hu
theorem op_oNeE (h : X.K = K) (hu : X.A.units + 64 < cLine) : OpR X (compareOp .NotEq) (oNe K) := h ▸ op_oNe hu
theorem op_inE (h : X.K = K) : OpR X (compareOp .In) (rIn K false) := h ▸ op_in_seq
theorem op_notInE (h : X.K = K) : OpR X (compareOp .NotIn) (rIn K true) := h ▸ op_notIn_seq
theorem ix_seqE (h : X.K = K) : IxR X (rIx K) := h ▸ ix_seq
theorem pe_fldE {e : Expr} {f : Str} {pos : Pos} {ta : TE} (h : X.K = K) (he : PE X e ta) (hb : attributeBase e f X.env (eval e X.env) = eval e X.env) : PE X (.Attribute e f pos) (tFld K ta f) := h ▸ pe_fld he hb
end
/-! ### names of the module -/
theorem pe_gint {X : Cx} {x : Str} {i : Int} {pos : Pos} (h : ∃ t, X.mg x = some (.int i t)) (hg : Gl X x := by rfl) (hd : (x == ("__debug__" : Str)) = false := by decide) : PE X (.Name x pos) (tC (.int i)) := by
  obtain ⟨t, h⟩ := h
  exact pe_glob hg h ⟨_, rfl⟩ hd
theorem pe_gref {X : Cx} {x : Str} {C : Addr} {pos : Pos} (h : X.mg x = some (.ref C)) (hg : Gl X x := by rfl) (hd : (x == ("__debug__" : Str)) = false := by decide) : PE X (.Name x pos) (tC (.ref C)) := pe_glob hg h rfl hd
/-- the built-ins that the text does not hide -/
structure Blt (mg : Str → Option Value) : Prop where
  len : mg "len" = none
  int : mg "int" = none
  bool : mg "bool" = none
  str : mg "str" = none
  isinstance : mg "isinstance" = none
  abs : mg "abs" = none
  max : mg "max" = none
  min : mg "min" = none
  divmod : mg "divmod" = none
  range : mg "range" = none
  enumerate : mg "enumerate" = none
  zip : mg "zip" = none
  list : mg "list" = none
  tuple : mg "tuple" = none
  ord : mg "ord" = none
  sorted : mg "sorted" = none
theorem blt_of {mg : Str → Option Value} (h : ∀ x ∈ bltNames, mg x = none) : Blt mg := by
  have g : ∀ x, x ∈ bltNames → mg x = none := h
  exact ⟨g _ (by simp [bltNames]), g _ (by simp [bltNames]), g _ (by simp [bltNames]), g _ (by simp [bltNames]), g _ (by simp [bltNames]), g _ (by simp [bltNames]), g _ (by simp [bltNames]), g _ (by simp [bltNames]), g _ (by simp [bltNames]), g _ (by simp [bltNames]), g _ (by simp [bltNames]), g _ (by simp [bltNames]), g _ (by simp [bltNames]), g _ (by simp [bltNames]), g _ (by simp [bltNames]), g _ (by simp [bltNames])⟩
section
variable {X : Cx}
theorem pe_tyInt {pos : Pos} (B : Blt X.mg) (hg : Gl X "int" := by rfl) : PE X (.Name "int" pos) (tC (.ty "int")) := pe_bltn (u := .type "int") hg B.int (by decide +kernel) rfl
theorem pe_tyBool {pos : Pos} (B : Blt X.mg) (hg : Gl X "bool" := by rfl) : PE X (.Name "bool" pos) (tC (.ty "bool")) := pe_bltn (u := .type "bool") hg B.bool (by decide +kernel) rfl
theorem pe_tyStr {pos : Pos} (B : Blt X.mg) (hg : Gl X "str" := by rfl) : PE X (.Name "str" pos) (tC (.ty "str")) := pe_bltn (u := .type "str") hg B.str (by decide +kernel) rfl
end
end Up

set_option Elab.async false
set_option linter.all false
set_option maxRecDepth 100000
set_option maxHeartbeats 4000000
namespace Up
open PySem PySem.Spec PyProof.Rows L2
/-! ### one step of a reading each -/
section
variable {K : PySem.W.Frag} {D : Ends} {σ : L2.St} {H : Hp} {Q : VK} {ta tb te : TE} {t u : TS} {c d : TT}
theorem g_seq (h : t { D with nx := u D } σ H) : tSeq t u D σ H := h
theorem g_ifs (h : c σ H fun b H1 => if b = true then t D σ H1 else u D σ H1) : tIfS c t u D σ H := h
theorem g_asg {g : TG} (h : te σ H fun x H1 => g x σ H1 D.nx) : tAsg te g D σ H := h
theorem g_name {i : Nat} {v : V} {R : L2.St → Hp → Prop} (h : R (σ.set i (some v)) H) : gName i v σ H R := h
theorem g_drop (h : te σ H fun _ H1 => D.nx σ H1) : tDrop te D σ H := h
theorem g_ret (h : te σ H D.rt) : tRet te D σ H := h
theorem g_retN (h : D.rt .non H) : tRetN D σ H := h
theorem g_next (h : D.nx σ H) : tNext D σ H := h
theorem g_sfld {f : Str} (h : te σ H fun y H1 => ta σ H1 fun x H2 => ∃ a C dx fs, x = .ref a ∧ H2 a = some (.ins C dx fs) ∧ Cls K C ∧ NoAttr K C f ∧ fs.length < 1000 ∧ D.nx σ (upd H2 a (.ins C dx (putF f y fs)))) : sFld K ta te f D σ H := h
theorem g_var {i : Nat} {v : V} (e : σ[i]? = some (some v)) (h : Q v H) : tVar i σ H Q := ⟨v, e, h⟩
theorem g_c {v : V} (h : Q v H) : tC v σ H Q := h
theorem g_op {r : R2} (h : ta σ H fun x H1 => tb σ H1 fun y H2 => r x y H2 Q) : tOp r ta tb σ H Q := h
theorem g_un {r : V → Hp → VK → Prop} (h : ta σ H fun x H1 => r x H1 Q) : tUn r ta σ H Q := h
theorem g_neg {i : Int} (h : Q (.int (-i)) H) : rU (fun i => .int (-i)) (.int i) H Q := ⟨i, rfl, h⟩
theorem g_if (h : c σ H fun b H1 => if b = true then ta σ H1 Q else tb σ H1 Q) : tIf c ta tb σ H Q := h
theorem g_cb {r : List V → Hp → VK → Prop} {t : TA} (h : t σ H fun vs H1 => r vs H1 Q) : tCB r t σ H Q := h
theorem g_cons {t : TA} {R : List V → Hp → Prop} (h : ta σ H fun x H1 => t σ H1 fun xs H2 => R (x :: xs) H2) : tCons ta t σ H R := h
theorem g_nil {R : List V → Hp → Prop} (h : R [] H) : tNil σ H R := h
theorem g_bits (h : ta σ H fun x H1 => ∃ i, x = .int i ∧ Q (.int (Builtin.Int.intBits i : Nat)) H1) : tBits ta σ H Q := h
theorem g_call {sp : Sp} {dvs : List V} {E : XK} {t : TA} (h : t σ H fun vs H1 => sp (vs ++ dvs) H1 Q E) : tCall sp dvs E t σ H Q := h
theorem g_fld {f : Str} (h : ta σ H fun x H1 => ∃ a C dx fs v, x = .ref a ∧ H1 a = some (.ins C dx fs) ∧ Cls K C ∧ NoAttr K C f ∧ fs.lookup f = some v ∧ Q v H1) : tFld K ta f σ H Q := h
theorem g_gtup {n : Nat} {t : TGs} {v : V} {R : L2.St → Hp → Prop} (h : ∃ a xs, v = .ref a ∧ SqT K H a xs ∧ xs.length = n ∧ t xs σ H R) : gTup K n t v σ H R := h
theorem g_gcons {t : TG} {u : TGs} {v : V} {r : List V} {R : L2.St → Hp → Prop} (h : t v σ H fun σ' H' => u r σ' H' R) : gCons t u (v :: r) σ H R := ⟨v, r, rfl, h⟩
theorem g_gnil {R : L2.St → Hp → Prop} (h : R σ H) : gNil [] σ H R := ⟨rfl, h⟩
theorem g_gfld {f : Str} {v : V} {R : L2.St → Hp → Prop} (h : ta σ H fun x H1 => ∃ a C dx fs, x = .ref a ∧ H1 a = some (.ins C dx fs) ∧ Cls K C ∧ NoAttr K C f ∧ fs.length < 1000 ∧ R σ (upd H1 a (.ins C dx (putF f v fs)))) : gFld K ta f v σ H R := h
/-! tests -/
section
variable {R : Bool → Hp → Prop} {T : Bool → Prop}
theorem g_tt (h : ta σ H fun x H' => ∃ k, x = .bl k ∧ R k H') : tTest ta σ H R := h
theorem g_tB (h : ta σ H fun x H' => ∃ k, x = .bl k ∧ R k H') : tB ta σ H R := h
theorem g_bl {b : Bool} (h : T b) : ∃ k, V.bl b = .bl k ∧ T k := ⟨b, rfl, h⟩
theorem g_and (h : c σ H fun k H1 => if k = true then d σ H1 R else R false H1) : tAnd c d σ H R := h
theorem g_or (h : c σ H fun k H1 => if k = true then R true H1 else d σ H1 R) : tOr c d σ H R := h
theorem g_not (h : c σ H fun k H1 => R (!k) H1) : tNot c σ H R := h
theorem g_andV (h : ta σ H fun x H1 => ∃ c, x = .bl c ∧ if c = true then tb σ H1 Q else Q (.bl false) H1) : tAndV ta tb σ H Q := h
theorem g_orV (h : ta σ H fun x H1 => ∃ c, x = .bl c ∧ if c = true then Q (.bl true) H1 else tb σ H1 Q) : tOrV ta tb σ H Q := h
theorem g_notV (h : ta σ H fun x H1 => ∃ c, x = .bl c ∧ Q (.bl (!c)) H1) : tNotV ta σ H Q := h
end
/-! ints -/
section
variable {i j : Int}
theorem g_addI (h : Q (.int (i + j)) H) : oAdd K (.int i) (.int j) H Q := h
theorem g_addS {a b : Str} (hz : a.length + b.length ≤ sizeLine) (h : Q (.str (a ++ b)) H) : oAdd K (.str a) (.str b) H Q := ⟨hz, h⟩
theorem g_subI (h : Q (.int (i - j)) H) : oSub (.int i) (.int j) H Q := h
theorem g_subB {i j : Bool} (h : Q (.int (b2i i - b2i j)) H) : oSub (.bl i) (.bl j) H Q := h
theorem g_mulI (hm : IntMulOk i j) (h : Q (.int (i * j)) H) : oMul (.int i) (.int j) H Q := ⟨hm, h⟩
theorem g_divI (hm : j ≠ 0) (hl : j.natAbs.log2 < 9000) (h : Q (.int (i.fdiv j)) H) : oDiv (.int i) (.int j) H Q := ⟨⟨hm, hl⟩, h⟩
theorem g_modI (hm : j ≠ 0) (h : Q (.int (i.fmod j)) H) : oMod (.int i) (.int j) H Q := ⟨hm, h⟩
theorem g_II {C : Int → Int → Prop} {g : Int → Int → V} (hm : C i j) (h : Q (g i j) H) : oII C g (.int i) (.int j) H Q := ⟨hm, h⟩
theorem g_I0 {g : Int → Int → V} (h : Q (g i j) H) : oI0 g (.int i) (.int j) H Q := h
theorem g_cmpI {g : Int → Int → Bool} {k : Str → Str → Bool} (h : Q (.bl (g i j)) H) : oCmp g k (.int i) (.int j) H Q := h
theorem g_bitsI {T : Int → Prop} (h : T i) : ∃ n, V.int i = .int n ∧ T n := ⟨i, rfl, h⟩
theorem g_eqI (h : Q (.bl (decide (i = j))) H) : oEq K (.int i) (.int j) H Q := by
  refine Or.inl ⟨rfl, ?_⟩
  have e : decide (V.int i = V.int j) = decide (i = j) := by simp
  rw [e]; exact h
theorem g_neI (h : Q (.bl (!decide (i = j))) H) : oNe K (.int i) (.int j) H Q := by
  refine Or.inl ⟨rfl, ?_⟩
  have e : decide (V.int i = V.int j) = decide (i = j) := by simp
  rw [e]; exact h
theorem g_eqS {a b : Str} (h : Q (.bl (decide (a = b))) H) : oEq K (.str a) (.str b) H Q := by
  refine Or.inl ⟨rfl, ?_⟩
  have e : decide (V.str a = V.str b) = decide (a = b) := by simp
  rw [e]; exact h
theorem g_neS {a b : Str} (h : Q (.bl (!decide (a = b))) H) : oNe K (.str a) (.str b) H Q := by
  refine Or.inl ⟨rfl, ?_⟩
  have e : decide (V.str a = V.str b) = decide (a = b) := by simp
  rw [e]; exact h
theorem g_eqB {a b : Bool} (h : Q (.bl (decide (a = b))) H) : oEq K (.bl a) (.bl b) H Q := by
  refine Or.inl ⟨rfl, ?_⟩
  have e : decide (V.bl a = V.bl b) = decide (a = b) := by simp
  rw [e]; exact h
theorem g_neB {a b : Bool} (h : Q (.bl (!decide (a = b))) H) : oNe K (.bl a) (.bl b) H Q := by
  refine Or.inl ⟨rfl, ?_⟩
  have e : decide (V.bl a = V.bl b) = decide (a = b) := by simp
  rw [e]; exact h
theorem g_eqx {x y : V} (hs : scal x y = true) (hn : x ≠ y) (h : Q (.bl false) H) : oEq K x y H Q := by
  refine Or.inl ⟨hs, ?_⟩
  rw [decide_eq_false hn]; exact h
theorem g_nex {x y : V} (hs : scal x y = true) (hn : x ≠ y) (h : Q (.bl true) H) : oNe K x y H Q := by
  refine Or.inl ⟨hs, ?_⟩
  rw [decide_eq_false hn]; exact h
theorem g_isN {x : V} (h : Q (.bl (decide (x = .non))) H) : (fun x y H Q => y = V.non ∧ Q (.bl (decide (x = .non))) H : R2) x .non H Q := ⟨rfl, h⟩
end
/-! ifs -/
theorem g_ite {p : Prop} [Decidable p] {A B : Prop} (h1 : p → A) (h2 : ¬ p → B) : if decide p = true then A else B := by
  by_cases h : p
  · rw [if_pos (decide_eq_true h)]; exact h1 h
  · rw [if_neg (by simp [h])]; exact h2 h
theorem g_iten {p : Prop} [Decidable p] {A B : Prop} (h1 : ¬ p → A) (h2 : p → B) : if (!decide p) = true then A else B := by
  by_cases h : p
  · rw [if_neg (by simp [h])]; exact h2 h
  · rw [if_pos (by simp [h])]; exact h1 h
theorem g_iteb {b : Bool} {A B : Prop} (h1 : b = true → A) (h2 : b = false → B) : if b = true then A else B := by
  cases b
  · exact h2 rfl
  · exact h1 rfl
theorem g_yes {p : Prop} [Decidable p] {A B : Prop} (hp : p) (h : A) : if decide p = true then A else B := by
  rw [if_pos (decide_eq_true hp)]; exact h
theorem g_no {p : Prop} [Decidable p] {A B : Prop} (hp : ¬ p) (h : B) : if decide p = true then A else B := by
  rw [if_neg (by simp [hp])]; exact h
theorem g_cut {t u : TS} (R : L2.St → Hp → Prop) (h1 : t { D with nx := R } σ H) (h2 : ∀ σ' H', R σ' H' → u D σ' H') : C8.tCut t u D σ H := ⟨R, h1, h2⟩
theorem g_meth {C : Addr} {m : Str} {sp : Sp} {dvs : List V} {E : XK} {t : TA} (h : ta σ H fun x H1 => ∃ a dx fs, x = .ref a ∧ H1 a = some (.ins C dx fs) ∧ fs.lookup m = none ∧ t σ H1 fun vs H2 => sp (x :: (vs ++ dvs)) H2 Q E) : tMeth C m sp dvs E ta t σ H Q := h
theorem g_par {i j : Nat} {ta : TA} (h : ta σ H fun vs H1 => ∃ v w, vs = [v, w] ∧ D.nx ((σ.set i (some v)).set j (some w)) H1) : tPar i j ta D σ H := h
theorem g_par2 {a b : V} {T : V → V → Prop} (h : T a b) : ∃ v w, [a, b] = [v, w] ∧ T v w := ⟨a, b, rfl, h⟩
theorem g_rfl {a : V} {T : Prop} (h : T) : a = a ∧ T := ⟨rfl, h⟩
theorem g_ixT {p : Addr} {xs : List V} {i : Int} {v : V} (h : H p = some (.tup xs)) (e : atI xs i = some v) (q : Q v H) : rIx K (.ref p) (.int i) H Q := .inr (.inl ⟨p, xs, i, v, rfl, rfl, SqT.of h, e, q⟩)
theorem g_ixL {p : Addr} {xs : List V} {i : Int} {v : V} (h : H p = some (.lst xs)) (e : atI xs i = some v) (q : Q v H) : rIx K (.ref p) (.int i) H Q := .inl ⟨p, xs, i, v, rfl, rfl, SqL.of h, e, q⟩
/-! loops -/
theorem g_for {wi : TI} {g : TG} {tb : TS} (h : wi σ H fun J H1 => ∃ W : Nat → Nat → L2.St → Hp → Prop, (∃ m, W 0 m σ H1) ∧ ∀ i m σ H, W i m σ H →
  (J.stop i H ∧ D.nx σ H) ∨ (J.go i H ∧ ∃ N : L2.St → Hp → Prop, (∀ σ' H', N σ' H' → ∃ m', m' < m ∧ W (i + 1) m' σ' H') ∧ ∀ x H', J.yld i H x H' → g x σ H' fun σ2 H2 => tb { D with nx := N, ct := N, bk := D.nx } σ2 H2)) : tFor wi g tb D σ H := h
theorem g_iList {R : It → Hp → Prop} (h : te σ H fun x H1 => ∃ a, x = .ref a ∧ (∃ xs, SqL K H1 a xs) ∧ R (Itl K a) H1) : iList K te σ H R := h
theorem g_iTup {R : It → Hp → Prop} (h : te σ H fun x H1 => ∃ a, x = .ref a ∧ (∃ xs, SqT K H1 a xs) ∧ R (Itt K a) H1) : iTup K te σ H R := h
theorem g_iRng1 {ta : TA} {R : It → Hp → Prop} (h : ta σ H fun vs H1 => ∃ j : Int, vs = [.int j] ∧ -(2 ^ 62) ≤ j ∧ j < 2 ^ 62 ∧ R (Itr 0 j.toNat) H1) : iRng1 ta σ H R := h
theorem g_iEnum {ta : TA} {R : It → Hp → Prop} (h : ta σ H fun vs H1 => ∃ a xs, vs = [.ref a] ∧ SqL K H1 a xs ∧ R (Ite K a) H1) : iEnum K ta σ H R := h
theorem g_slice {r : V → Option Int → Option Int → Hp → VK → Prop} {tl th : TO} (h : te σ H fun x H1 => tl σ H1 fun l H2 => th σ H2 fun u H3 => r x l u H3 Q) : tSl r te tl th σ H Q := h
theorem g_po0 {R : Option Int → Hp → Prop} (h : R none H) : tNoPart σ H R := h
theorem g_po1 {R : Option Int → Hp → Prop} (h : te σ H fun x H1 => ∃ i, x = .int i ∧ R (some i) H1) : tPart te σ H R := h
theorem g_poI {i : Int} {T : Int → Prop} (h : T i) : ∃ n, V.int i = .int n ∧ T n := ⟨i, rfl, h⟩
theorem g_gsub {to ti : TE} {t : TSet} {v : V} {R : L2.St → Hp → Prop} (h : to σ H fun o H1 => ti σ H1 fun i H2 => t o i v H2 fun H3 => R σ H3) : gSub to ti t v σ H R := h
theorem g_intI {i : Int} {T : Int → Prop} {U : Prop} (h : T i) : (∃ j, [V.int i] = [.int j] ∧ T j) ∨ U := .inl ⟨i, rfl, h⟩
theorem g_intB {b : Bool} {T : Bool → Prop} {U : Prop} (h : T b) : U ∨ ∃ k, [V.bl b] = [.bl k] ∧ T k := .inr ⟨b, rfl, h⟩
theorem g_setL {p : Addr} {xs : List V} {k : Int} {j : Nat} {v : V} {R : Hp → Prop} (h : H p = some (.lst xs)) (e : ixN xs.length k = some j) (q : ∀ H', H' p = some (.lst (xs.set j v)) → (∀ b, b ≠ p → H' b = H b) → R H') : rSetL (.ref p) (.int k) v H R :=
  ⟨p, xs, k, j, rfl, rfl, h, e, q _ upd_same fun b hb => upd_ne hb⟩
theorem g_max2 {i j : Int} {T : Int → Int → Prop} (h : T i j) : ∃ a b, [V.int i, V.int j] = [.int a, .int b] ∧ T a b := ⟨i, j, rfl, h⟩
theorem g_abs1 {i : Int} {T : Int → Prop} (h : T i) : ∃ a, [V.int i] = [.int a] ∧ T a := ⟨i, rfl, h⟩
theorem g_lenL {p : Addr} {xs : List V} {T : List V → Prop} (h : H p = some (.lst xs)) (q : T xs) : ∃ p' ys, [V.ref p] = [.ref p'] ∧ (SqL K H p' ys ∨ SqT K H p' ys) ∧ T ys := ⟨p, xs, rfl, .inl (SqL.of h), q⟩
theorem g_lc {wi : TI} {g : TG} {tt : TT} {vs : List Nat} (h : wi σ H fun J H1 => ∀ D, H1 D = none → ∃ W : Nat → Nat → Hp → Prop, (∃ m, W 0 m (upd H1 D (.lst []))) ∧ ∀ i m H, W i m H →
  (J.stop i H ∧ Q (.ref D) H) ∨ (J.go i H ∧ ∃ Nx : Hp → Prop, (∀ H', Nx H' → ∃ m', m' < m ∧ W (i + 1) m' H') ∧ ∀ x H', J.yld i H x H' → g x (wipe σ vs) H' fun σ2 H2 => wipe σ2 vs = wipe σ vs ∧ tt σ2 H2 fun b H3 =>
    if b = true then te σ2 H3 fun y H4 => ∃ acc, H4 D = some (.lst acc) ∧ acc.length < sizeLine ∧ Nx (upd H4 D (.lst (acc ++ [y]))) else Nx H3)) : tLc wi g tt te vs σ H Q := h
theorem g_yesT {R : Bool → Hp → Prop} (h : R true H) : tYes σ H R := h
theorem dp_bl : ∀ bs : List Bool, DpAll K H (bs.map V.bl) (bs.map PyData.bool)
  | [] => .nil
  | b :: bs => .cons (.bl b) (dp_bl bs)
theorem g_eqBs {a b : Addr} {bs : List Bool} (ha : H a = some (.lst (bs.map V.bl))) (hb : H b = some (.lst (bs.map V.bl))) (hs : SeqAt.shaped (.list (bs.map PyData.bool)) = true) (q : Q (.bl true) H) : oEq K (.ref a) (.ref b) H Q := by
  refine .inr ⟨_, _, .lst (SqL.of ha) (dp_bl bs), .lst (SqL.of hb) (dp_bl bs), hs, hs, ?_⟩
  rw [SeqAt.eqv_refl _ (SeqAt.canLay_of_shaped hs)]
  exact q
/-! new objects -/
theorem g_tup {t : TA} (h : t σ H fun xs H1 => xs.length ≤ sizeLine ∧ NewAt H1 (.tup xs) Q) : tTupN t σ H Q := h
theorem g_lst {t : TA} (h : t σ H fun xs H1 => xs.length ≤ sizeLine ∧ NewAt H1 (.lst xs) Q) : tLstN t σ H Q := h
theorem g_new {n : Nat} {o : HO} (hn : n ≤ sizeLine) (h : ∀ p H', H p = none → Same H H' → H' p = some o → (∀ b, b ≠ p → H' b = H b) → Q (.ref p) H') : n ≤ sizeLine ∧ NewAt H o Q := ⟨hn, h⟩
theorem g_make {C : Addr} {sp : Sp} {dvs : List V} {E : XK} {t : TA} (h : t σ H fun vs H1 => MakeR C sp (vs ++ dvs) H1 Q E) : tMakeN C sp dvs E t σ H Q := h
end
end Up

set_option Elab.async false
set_option linter.all false
set_option maxRecDepth 100000
set_option maxHeartbeats 4000000
namespace Up
open PySem PySem.Spec PyProof.Rows L2
/-! ### what a call hands back, over a heap in which all that stood stands -/
abbrev Ret (H : Hp) (v : V) (Q : VK) : Prop := ∀ H', Same H H' → Q v H'
abbrev RetT (H : Hp) (xs : List V) (Q : VK) : Prop := ∀ H' a, H a = none → Same H H' → H' a = some (.tup xs) → Q (.ref a) H'
abbrev RetL (H : Hp) (xs : List V) (Q : VK) : Prop := ∀ H' a, H a = none → Same H H' → H' a = some (.lst xs) → Q (.ref a) H'
/-! ### what is known of a value's kind -/
def isI : V → Bool
  | .int _ => true
  | _ => false
def isB : V → Bool
  | .bl _ => true
  | _ => false
def isS : V → Bool
  | .str _ => true
  | _ => false
/-- the classes int, bool, str asked of x -/
structure Kn (K : PySem.W.Frag) (H : Hp) (x : V) (t : Value) : Prop where
  ty : TyX K H x t
  int : PySem.W.kitOne K t (.type "int") = some (isI x || isB x)
  bool : PySem.W.kitOne K t (.type "bool") = some (isB x)
  str : PySem.W.kitOne K t (.type "str") = some (isS x)
theorem kn_non {K : PySem.W.Frag} {H : Hp} : Kn K H .non (.type "NoneType") := ⟨.base .non, kit_ty (r := false) (by decide +kernel), kit_ty (r := false) (by decide +kernel), kit_ty (r := false) (by decide +kernel)⟩
theorem kn_bl {K : PySem.W.Frag} {H : Hp} {b : Bool} : Kn K H (.bl b) (.type "bool") := ⟨.base (.bl b), kit_ty (r := true) (by decide +kernel), kit_ty (r := true) (by decide +kernel), kit_ty (r := false) (by decide +kernel)⟩
theorem kn_int {K : PySem.W.Frag} {H : Hp} {i : Int} : Kn K H (.int i) (.type "int") := ⟨.base (.int i), kit_ty (r := true) (by decide +kernel), kit_ty (r := false) (by decide +kernel), kit_ty (r := false) (by decide +kernel)⟩
theorem kn_str {K : PySem.W.Frag} {H : Hp} {i : Str} : Kn K H (.str i) (.type "str") := ⟨.base (.str i), kit_ty (r := false) (by decide +kernel), kit_ty (r := false) (by decide +kernel), kit_ty (r := true) (by decide +kernel)⟩
theorem kn_lst {K : PySem.W.Frag} {H : Hp} {a : Addr} {xs : List V} (h : H a = some (.lst xs)) : Kn K H (.ref a) (.type "list") := ⟨.base (.lst h), kit_ty (r := false) (by decide +kernel), kit_ty (r := false) (by decide +kernel), kit_ty (r := false) (by decide +kernel)⟩
theorem kn_tup {K : PySem.W.Frag} {H : Hp} {a : Addr} {xs : List V} (h : H a = some (.tup xs)) : Kn K H (.ref a) (.type "tuple") := ⟨.base (.tup h), kit_ty (r := false) (by decide +kernel), kit_ty (r := false) (by decide +kernel), kit_ty (r := false) (by decide +kernel)⟩
theorem kn_dK {K : PySem.W.Frag} {H : Hp} {a : Addr} {xs : List (Key × V)} (h : H a = some (.dK xs)) : Kn K H (.ref a) (.type "dict") := ⟨.base (.dK h), kit_ty (r := false) (by decide +kernel), kit_ty (r := false) (by decide +kernel), kit_ty (r := false) (by decide +kernel)⟩
/-- an own class whose instances are no int, bool, str -/
structure OwnC (K : PySem.W.Frag) (C : Addr) : Prop where
  cl : Cls K C
  ha : PySem.W.findIn K (.ref C) "__class__" = some (some (.builtin "object.__class__"))
  hn : PySem.W.specialIn K (.builtin "object.__class__") "__get__" = some (some (.builtin "getset_descriptor.__get__"))
  htk : PySem.W.takesIn K (.builtin "object.__class__") = some true
  hm : PySem.W.mroIn K C (.type "object") = some true
  int : PySem.W.kitOne K (.ref C) (.type "int") = some false
  bool : PySem.W.kitOne K (.ref C) (.type "bool") = some false
  str : PySem.W.kitOne K (.ref C) (.type "str") = some false
theorem kn_ins {K : PySem.W.Frag} {H : Hp} {a C dx : Addr} {fs : List (Str × V)} (T : OwnC K C) (h : H a = some (.ins C dx fs)) : Kn K H (.ref a) (.ref C) := ⟨.base (.ins h T.cl T.ha T.hn T.htk T.hm), T.int, T.bool, T.str⟩
theorem g_isi {K : PySem.W.Frag} {H : Hp} {Q : VK} {x c : V} {t u : Value} {b : Bool} (ht : TyX K H x t) (hc : ClsV c u) (hk : PySem.W.kitOne K t u = some b) (q : Q (.bl b) H) : rIsi K [x, c] H Q := ⟨x, c, t, u, b, rfl, hc, ht, hk, q⟩
section
variable {K : PySem.W.Frag} {H H' : Hp} {Q : VK} {x : V} {t : Value}
theorem TyX.same (s : Same H H') (h : TyX K H x t) : TyX K H' x t := by
  cases h with
  | base h => cases h with
    | non => exact .base .non
    | bl b => exact .base (.bl b)
    | int b => exact .base (.int b)
    | str b => exact .base (.str b)
    | flt b => exact .base (.flt b)
    | lst e => exact .base (.lst (s _ _ e))
    | frz e => exact .base (.frz (s _ _ e))
    | tup e => exact .base (.tup (s _ _ e))
    | dK e => exact .base (.dK (s _ _ e))
    | dT e => exact .base (.dT (s _ _ e))
    | ins e c h1 h2 h3 h4 => exact .base (.ins (s _ _ e) c h1 h2 h3 h4)
  | byt b => exact .byt b
  | set e => exact .set (s _ _ e)
  | kList e c => exact .kList e c
  | kTuple e c => exact .kTuple e c
  | kDict e c => exact .kDict e c
  | fTuple e => exact .fTuple (s _ _ e)
  | fDict e => exact .fDict (s _ _ e)
theorem Kn.same (s : Same H H') (h : Kn K H x t) : Kn K H' x t := ⟨TyX.same s h.ty, h.int, h.bool, h.str⟩
theorem g_isiInt (h : Kn K H x t) (q : Q (.bl (isI x || isB x)) H) : rIsi K [x, .ty "int"] H Q := g_isi h.ty (.ty _) h.int q
theorem g_isiBool (h : Kn K H x t) (q : Q (.bl (isB x)) H) : rIsi K [x, .ty "bool"] H Q := g_isi h.ty (.ty _) h.bool q
theorem g_isiStr (h : Kn K H x t) (q : Q (.bl (isS x)) H) : rIsi K [x, .ty "str"] H Q := g_isi h.ty (.ty _) h.str q
end
end Up

set_option Elab.async false
set_option linter.all false
set_option maxRecDepth 100000
set_option maxHeartbeats 4000000
namespace Up
open PySem PySem.Spec PyProof.Rows L2
local macro_rules | `(tactic| walk_at "u") => `(tactic| first
  | with_reducible refine g_seq ?_
  | with_reducible refine g_asg ?_
  | with_reducible refine g_op ?_
  | ((with_reducible show tVar _ _ _ _); apply g_var; exact rfl)
  | with_reducible refine g_c ?_
  | with_reducible refine g_name ?_
  | with_reducible refine g_ifs ?_
  | with_reducible refine g_tt ?_
  | with_reducible refine g_tB ?_
  | with_reducible refine g_bl ?_
  | with_reducible refine g_ret ?_
  | with_reducible refine g_cb ?_
  | with_reducible refine g_cons ?_
  | with_reducible refine g_nil ?_
  | with_reducible refine g_call ?_
  | with_reducible refine g_and ?_
  | with_reducible refine g_or ?_
  | with_reducible refine g_not ?_
  | with_reducible refine g_andV ?_
  | with_reducible refine g_orV ?_
  | with_reducible refine g_notV ?_
  | with_reducible refine g_if ?_
  | with_reducible refine g_un ?_
  | with_reducible refine g_neg ?_
  | with_reducible refine g_addI ?_
  | with_reducible refine g_subI ?_
  | with_reducible refine g_subB ?_
  | with_reducible refine g_I0 ?_
  | with_reducible refine g_cmpI ?_
  | with_reducible refine g_eqI ?_
  | with_reducible refine g_neI ?_
  | with_reducible refine g_eqS ?_
  | with_reducible refine g_neS ?_
  | with_reducible refine g_eqB ?_
  | with_reducible refine g_neB ?_
  | with_reducible refine g_bits ?_
  | with_reducible refine g_bitsI ?_
  | with_reducible refine g_fld ?_
  | with_reducible refine g_tup ?_
  | with_reducible refine g_lst ?_
  | with_reducible refine g_gtup ?_
  | with_reducible refine g_make ?_
  | with_reducible refine g_lc ?_
  | with_reducible refine g_yesT ?_
  | with_reducible refine g_intI ?_
  | with_reducible refine g_intB ?_
  | with_reducible refine g_max2 ?_
  | with_reducible refine g_abs1 ?_
  | with_reducible refine g_for ?_
  | with_reducible refine g_iList ?_
  | with_reducible refine g_iTup ?_
  | with_reducible refine g_iRng1 ?_
  | with_reducible refine g_iEnum ?_
  | with_reducible refine g_slice ?_
  | with_reducible refine g_po0 ?_
  | with_reducible refine g_po1 ?_
  | with_reducible refine g_gsub ?_
  | with_reducible refine g_par ?_
  | with_reducible refine g_par2 ?_
  | with_reducible refine g_rfl ?_
  | with_reducible refine g_meth ?_
  | with_reducible refine g_gcons ?_
  | with_reducible refine g_gnil ?_
  | with_reducible refine g_gfld ?_
  | with_reducible refine g_sfld ?_
  | with_reducible refine g_drop ?_
  | with_reducible refine g_next ?_
  | with_reducible refine iteT ?_
  | with_reducible refine iteF ?_)
local macro_rules | `(tactic| walk_at "go") => `(tactic| (repeat walk_at "u"))

section
variable {P : Program} {w : World} {K : PySem.W.Frag} {mg : Str → Option Value} {base : Heap}
/-! is_plain -/
theorem sc_isplain : FnScope ["number"] ["number"] (defScope s_isplain) := ⟨rfl, rfl, rfl, by decide +kernel, rfl, by decide +kernel, by decide +kernel⟩
def sp_isplain (K : PySem.W.Frag) : Sp := fun vs H Q _ => ∃ x t, vs = [x] ∧ Kn K H x t ∧ Q (.bl (isI x)) H
theorem ok_isplain {f : Addr} {fd : FuncData} (F : FunD K "is_plain" "is_plain" (defArgs s_isplain) (defBody s_isplain) (defScope s_isplain) [] [] f fd) (B : Blt mg) : FnOk P w K mg base CX0 1 f fd ["number"] (sp_isplain K) := by
  refine F.ok sc_isplain (fun vs H Q E h => ?_) (fun cdv A outer s H vs Q E hr h => ?_)
  · obtain ⟨x, t, rfl, _⟩ := h; rfl
  · obtain ⟨x, t, rfl, hk, q⟩ := h
    refine ⟨_, PSs.nox (pss_one (ps_ret (pe_and (pe_callB call_isi (by rfl) B.isinstance (by decide +kernel) (pa_cons (pv 0) (pa_cons (pe_tyInt B) pa_nil))) (pe_one (pe_not (pe_callB call_isi (by rfl) B.isinstance (by decide +kernel) (pa_cons (pv 0) (pa_cons (pe_tyBool B) pa_nil)))))))), ?_⟩
    walk_at "go"
    refine g_isiInt hk ?_
    walk_at "go"
    cases x <;> first | exact iteF q | (refine iteT ?_; walk_at "go"; refine g_isiBool hk ?_; walk_at "go"; exact q)
/-! reduced -/
theorem sc_reduced : FnScope ["top", "power", "less"] ["top", "power"] (defScope s_reduced) := ⟨rfl, rfl, rfl, by decide +kernel, rfl, by decide +kernel, by decide +kernel⟩
/-- the lowest bit's place -/
def lowB (n : Int) : Int := ((Builtin.Int.intBits (Builtin.bitAnd n (0 - n)) : Nat) : Int) - 1
def redV : V → Int → V × Int
  | .int n, p => if n = 0 then (.int 0, 0) else (.int (n / 2 ^ (lowB n).toNat), p + lowB n)
  | v, _ => (v, 0)
def isIN (x : V) : Prop := x = .str "inf" ∨ x = .str "nan"
theorem inf_nan : ¬ (("inf" : Str) = "nan") := by decide +kernel
def sp_reduced : Sp := fun vs H Q _ => ∃ x p, vs = [x, .int p] ∧ (isIN x ∨ ∃ n, x = .int n ∧ (n ≠ 0 → 0 ≤ lowB n)) ∧ RetT H [(redV x p).1, .int (redV x p).2] Q
theorem ok_reduced {f : Addr} {fd : FuncData} (F : FunD K "reduced" "reduced" (defArgs s_reduced) (defBody s_reduced) (defScope s_reduced) [] [] f fd) (B : Blt mg) : FnOk P w K mg base CX0 1 f fd ["top", "power"] sp_reduced := by
  refine F.ok sc_reduced (fun vs H Q E h => ?_) (fun cdv A outer s H vs Q E hr h => ?_)
  · obtain ⟨x, t, rfl, _⟩ := h; rfl
  · obtain ⟨x, p, rfl, hx, q⟩ := h
    refine ⟨_, PSs.nox (pss_cons (ps_if (PW.pt (pw_or (pt_cmpR op_in_seq (pv 0) (pe_tupN (pa_cons pe_str (pa_cons pe_str pa_nil))) (by rfl)) (pw_or1 (pt_cmpR (op_oEq hr.units) (pv 0) pe_int (nomark _))))) (pss_one (ps_ret (pe_tupN (pa_cons (pv 0) (pa_cons pe_int pa_nil))))) pss_nil)
  (pss_cons (ps_set (i := 2) sc_reduced.nd rfl (Or.inl rfl) (pe_op op_oSub (pe_bits (pe_op op_oAnd (pv 0) (pe_op op_oSub pe_int (pv 0)))) pe_int))
  (pss_one (ps_ret (pe_tupN (pa_cons (pe_op op_oShr (pv 0) (pv 2)) (pa_cons (pe_op op_oAdd (pv 1) (pv 2)) pa_nil))))))), ?_⟩
    walk_at "go"
    refine g_new (sz rfl) fun a H1 na s1 ha _ => ?_
    rcases hx with (rfl | rfl) | ⟨n, rfl, hn⟩
    · refine ⟨a, _, rfl, .inr (SqT.of ha), rfl, rfl, ?_⟩
      walk_at "go"
      refine iteT ?_
      walk_at "go"
      refine g_new (sz rfl) fun b H2 nb s2 hb _ => ?_
      exact q _ _ (s1.free nb) (s1.trans s2) hb
    · refine ⟨a, _, rfl, .inr (SqT.of ha), rfl, rfl, ?_⟩
      walk_at "go"
      refine iteT ?_
      walk_at "go"
      refine g_new (sz rfl) fun b H2 nb s2 hb _ => ?_
      exact q _ _ (s1.free nb) (s1.trans s2) hb
    · refine ⟨a, _, rfl, .inr (SqT.of ha), rfl, rfl, ?_⟩
      walk_at "go"
      refine iteF ?_
      walk_at "go"
      refine g_ite (fun h0 => ?_) fun h0 => ?_
      · walk_at "go"
        refine g_new (sz rfl) fun b H2 nb s2 hb _ => ?_
        subst h0
        exact q _ _ (s1.free nb) (s1.trans s2) hb
      · walk_at "go"
        refine g_II (hn h0) ?_
        walk_at "go"
        refine g_new (sz rfl) fun b H2 nb s2 hb _ => ?_
        have e : redV (.int n) p = (.int (n / 2 ^ (lowB n).toNat), p + lowB n) := if_neg h0
        rw [e] at q
        exact q _ _ (s1.free nb) (s1.trans s2) hb
/-! fits -/
theorem sc_fits : FnScope ["top", "power"] ["top", "power"] (defScope s_fits) := ⟨rfl, rfl, rfl, by decide +kernel, rfl, by decide +kernel, by decide +kernel⟩
def fitsB (n p : Int) : Bool := (decide (n < 9007199254740992) && (decide (-1074 ≤ p) && decide (((Builtin.Int.intBits n : Nat) : Int) + p ≤ 1024))) || decide (n = 0)
def sp_fits : Sp := fun vs H Q _ => ∃ n p, vs = [.int n, .int p] ∧ Q (.bl (fitsB n p)) H
theorem ok_fits {f : Addr} {fd : FuncData} (F : FunD K "fits" "fits" (defArgs s_fits) (defBody s_fits) (defScope s_fits) [] [] f fd) (B : Blt mg) (i_ROOM : ∃ t, mg "ROOM" = some (.int 9007199254740992 t)) (i_LOWEST : ∃ t, mg "LOWEST" = some (.int (-1074) t)) (i_TOO_GREAT : ∃ t, mg "TOO_GREAT" = some (.int 1024 t)) :
    FnOk P w K mg base CX0 1 f fd ["top", "power"] sp_fits := by
  refine F.ok sc_fits (fun vs H Q E h => ?_) (fun cdv A outer s H vs Q E hr h => ?_)
  · obtain ⟨x, t, rfl, _⟩ := h; rfl
  · obtain ⟨n, p, rfl, q⟩ := h
    refine ⟨_, PSs.nox (pss_one (ps_ret (pe_or (pe_and (pe_cmpR op_oLt (pv 0) (pe_gint i_ROOM) (nomark _)) (pe_and (pe_cmpR op_oGe (pv 1) (pe_gint i_LOWEST) (nomark _)) (pe_one (pe_cmpR op_oLe (pe_op op_oAdd (pe_bits (pv 0)) (pv 1)) (pe_gint i_TOO_GREAT) (nomark _))))) (pe_one (pe_cmpR (op_oEq hr.units) (pv 0) pe_int (nomark _)))))), ?_⟩
    walk_at "go"
    unfold fitsB at q
    refine g_ite (fun h1 => ?_) fun h1 => ?_
    · walk_at "go"
      refine g_ite (fun h2 => ?_) fun h2 => ?_
      · walk_at "go"
        refine g_ite (fun h3 => ?_) fun h3 => ?_
        · simp only [h1, h2, h3, decide_true, Bool.and_self, Bool.true_or] at q
          exact q
        · walk_at "go"
          simp only [h1, h2, h3, decide_true, decide_false, Bool.and_false, Bool.and_self, Bool.false_or] at q
          exact q
      · walk_at "go"
        simp only [h1, h2, decide_true, decide_false, Bool.and_false, Bool.false_and, Bool.false_or] at q
        exact q
    · walk_at "go"
      simp only [h1, decide_false, Bool.false_and, Bool.false_or] at q
      exact q
/-! sign_of -/
theorem sc_signof : FnScope ["is_negative"] ["is_negative"] (defScope s_signof) := ⟨rfl, rfl, rfl, by decide +kernel, rfl, by decide +kernel, by decide +kernel⟩
def sgnB (b : Bool) : Int := if b then -1 else 1
def sp_signof : Sp := fun vs H Q _ => ∃ b, vs = [.bl b] ∧ Q (.int (sgnB b)) H
theorem ok_signof {f : Addr} {fd : FuncData} (F : FunD K "sign_of" "sign_of" (defArgs s_signof) (defBody s_signof) (defScope s_signof) [] [] f fd) : FnOk P w K mg base CX0 1 f fd ["is_negative"] sp_signof := by
  refine F.ok sc_signof (fun vs H Q E h => ?_) (fun cdv A outer s H vs Q E hr h => ?_)
  · obtain ⟨x, rfl, _⟩ := h; rfl
  · obtain ⟨b, rfl, q⟩ := h
    refine ⟨_, PSs.nox (pss_one (ps_ret (pe_ifExp (pt_val (pv 0)) (pe_un un_neg pe_int) pe_int))), ?_⟩
    walk_at "go"
    cases b
    · refine iteF ?_; walk_at "go"; exact q
    · refine iteT ?_; walk_at "go"; exact q
end
end Up

set_option Elab.async false
set_option linter.all false
set_option maxRecDepth 100000
set_option maxHeartbeats 4000000
namespace Up
open PySem
/-! ### numbers of bits, the lowest bit -/
def bitsN (n : Nat) : Nat := if n = 0 then 0 else n.log2 + 1
theorem intBits_nat (n : Nat) : Builtin.Int.intBits (n : Int) = bitsN n := by
  unfold Builtin.Int.intBits bitsN
  by_cases h : n = 0
  · subst h; rfl
  · rw [if_neg h, if_neg (by simpa using h)]
    simp
theorem intBits_neg (n : Int) : Builtin.Int.intBits n = bitsN n.natAbs := by
  unfold Builtin.Int.intBits bitsN
  by_cases h : n = 0
  · subst h; rfl
  · rw [if_neg (by simpa using h), if_neg (by simpa using h)]
theorem bits_lt (n : Nat) : n < 2 ^ bitsN n := by
  unfold bitsN
  by_cases h : n = 0
  · subst h; decide
  · rw [if_neg h]; exact Nat.lt_log2_self
theorem bits_ge {n : Nat} (h : n ≠ 0) : 2 ^ (bitsN n - 1) ≤ n := by
  unfold bitsN
  rw [if_neg h]
  exact Nat.log2_self_le h
theorem bits_le {n k : Nat} (h : n < 2 ^ k) : bitsN n ≤ k := by
  unfold bitsN
  by_cases h0 : n = 0
  · rw [if_pos h0]; exact Nat.zero_le _
  · rw [if_neg h0]
    exact (Nat.log2_lt h0).mpr h
theorem le_bits {n k : Nat} (h : 2 ^ k ≤ n) : k + 1 ≤ bitsN n := by
  rcases Nat.lt_or_ge k (bitsN n) with h1 | h1
  · exact h1
  · have h2 := bits_lt n
    have h3 : 2 ^ bitsN n ≤ 2 ^ k := Nat.pow_le_pow_right (by decide) h1
    omega
theorem bits_pow (k : Nat) : bitsN (2 ^ k) = k + 1 := by
  have h1 := le_bits (n := 2 ^ k) (k := k) (Nat.le_refl _)
  have h2 := bits_le (n := 2 ^ k) (k := k + 1) (Nat.pow_lt_pow_right (by decide) (Nat.lt_succ_self k))
  omega
theorem bits_pos {n : Nat} (h : n ≠ 0) : 1 ≤ bitsN n := by
  unfold bitsN; rw [if_neg h]; omega
def tz (n : Nat) : Nat := if h : n = 0 then 0 else if n % 2 = 1 then 0 else tz (n / 2) + 1
termination_by n
decreasing_by omega
theorem tz_odd {n : Nat} (h : n % 2 = 1) : tz n = 0 := by
  unfold tz
  rw [dif_neg (by omega), if_pos h]
theorem tz_even {n : Nat} (h0 : n ≠ 0) (h : n % 2 = 0) : tz n = tz (n / 2) + 1 := by
  rw [tz, dif_neg h0, if_neg (by omega)]
theorem land_two (a b : Nat) : a &&& b = 2 * ((a / 2) &&& (b / 2)) + (a % 2) * (b % 2) := by
  have h1 : (a &&& b) / 2 = (a / 2) &&& (b / 2) := Nat.and_div_two ..
  have h2 : (a &&& b) % 2 = (a % 2) * (b % 2) := by
    have e := Nat.and_mod_two_pow (a := a) (b := b) (n := 1)
    simp only [Nat.pow_one] at e
    rw [e]
    rcases Nat.mod_two_eq_zero_or_one a with ha | ha <;> rcases Nat.mod_two_eq_zero_or_one b with hb | hb <;> rw [ha, hb] <;> rfl
  omega
theorem land_pred : ∀ (n : Nat), n ≠ 0 → n &&& (n - 1) = n - 2 ^ tz n ∧ 2 ^ tz n ≤ n ∧ n / 2 ^ tz n % 2 = 1 ∧ n / 2 ^ tz n * 2 ^ tz n = n := by
  intro n
  induction n using Nat.strongRecOn with
  | _ n ih =>
    intro h0
    rcases Nat.mod_two_eq_zero_or_one n with he | ho
    · obtain ⟨i1, i2, i3, i4⟩ := ih (n / 2) (by omega) (by omega)
      rw [tz_even h0 he, Nat.pow_succ]
      have e2 : (n - 1) / 2 = n / 2 - 1 := by omega
      have ep : n / (2 ^ tz (n / 2) * 2) = n / 2 / 2 ^ tz (n / 2) := by rw [Nat.mul_comm, Nat.div_div_eq_div_mul]
      refine ⟨?_, by omega, by rw [ep]; exact i3, ?_⟩
      · rw [land_two n (n - 1), e2, i1, he, Nat.zero_mul]
        omega
      · rw [ep, ← Nat.mul_assoc, i4]
        omega
    · rw [tz_odd ho]
      refine ⟨?_, by omega, by simpa using ho, by simp⟩
      rw [land_two n (n - 1)]
      have e2 : (n - 1) / 2 = n / 2 := by omega
      have e3 : (n - 1) % 2 = 0 := by omega
      rw [e2, e3, Nat.and_self, Nat.mul_zero]
      omega
theorem low_bit {n : Nat} (h : n ≠ 0) : Builtin.bitAnd (n : Int) (0 - (n : Int)) = ((2 ^ tz n : Nat) : Int) := by
  rw [PyProof.Rows.bitAnd_pn (by omega) (by omega)]
  have e : (Builtin.bitNot (0 - (n : Int))).toNat = n - 1 := by unfold Builtin.bitNot; omega
  obtain ⟨i1, i2, _⟩ := land_pred n h
  rw [e, Int.toNat_natCast, i1]
  omega
theorem low_bits {n : Nat} (h : n ≠ 0) : ((Builtin.Int.intBits (Builtin.bitAnd (n : Int) (0 - (n : Int))) : Nat) : Int) - 1 = (tz n : Int) := by
  rw [low_bit h, intBits_nat, bits_pow]
  omega
theorem bits_shift {n : Nat} (h : n ≠ 0) : bitsN (n / 2 ^ tz n) + tz n = bitsN n := by
  obtain ⟨_, _, i3, i4⟩ := land_pred n h
  have hm : n / 2 ^ tz n ≠ 0 := by intro z; rw [z] at i3; omega
  generalize n / 2 ^ tz n = m at *
  generalize tz n = v at *
  have h1 := bits_lt m
  have h2 := bits_ge hm
  have h3 := bits_pos hm
  have a : bitsN n ≤ bitsN m + v := bits_le (by
    rw [← i4, Nat.pow_add]
    exact Nat.mul_lt_mul_of_pos_right h1 (Nat.two_pow_pos _))
  have b : bitsN m - 1 + v + 1 ≤ bitsN n := le_bits (by
    rw [← i4, Nat.pow_add]
    exact Nat.mul_le_mul_right _ h2)
  omega
end Up

set_option Elab.async false
set_option linter.all false
set_option maxRecDepth 100000
set_option maxHeartbeats 4000000
namespace Up
open PySem PySem.Spec PyProof.Rows L2
local macro_rules | `(tactic| walk_at "u") => `(tactic| first
  | with_reducible refine g_seq ?_
  | with_reducible refine g_asg ?_
  | with_reducible refine g_op ?_
  | ((with_reducible show tVar _ _ _ _); apply g_var; exact rfl)
  | with_reducible refine g_c ?_
  | with_reducible refine g_name ?_
  | with_reducible refine g_ifs ?_
  | with_reducible refine g_tt ?_
  | with_reducible refine g_tB ?_
  | with_reducible refine g_bl ?_
  | with_reducible refine g_ret ?_
  | with_reducible refine g_cb ?_
  | with_reducible refine g_cons ?_
  | with_reducible refine g_nil ?_
  | with_reducible refine g_call ?_
  | with_reducible refine g_and ?_
  | with_reducible refine g_or ?_
  | with_reducible refine g_not ?_
  | with_reducible refine g_andV ?_
  | with_reducible refine g_orV ?_
  | with_reducible refine g_notV ?_
  | with_reducible refine g_if ?_
  | with_reducible refine g_un ?_
  | with_reducible refine g_neg ?_
  | with_reducible refine g_addI ?_
  | with_reducible refine g_subI ?_
  | with_reducible refine g_subB ?_
  | with_reducible refine g_I0 ?_
  | with_reducible refine g_cmpI ?_
  | with_reducible refine g_eqI ?_
  | with_reducible refine g_neI ?_
  | with_reducible refine g_eqS ?_
  | with_reducible refine g_neS ?_
  | with_reducible refine g_eqB ?_
  | with_reducible refine g_neB ?_
  | with_reducible refine g_bits ?_
  | with_reducible refine g_bitsI ?_
  | with_reducible refine g_fld ?_
  | with_reducible refine g_tup ?_
  | with_reducible refine g_lst ?_
  | with_reducible refine g_gtup ?_
  | with_reducible refine g_make ?_
  | with_reducible refine g_lc ?_
  | with_reducible refine g_yesT ?_
  | with_reducible refine g_intI ?_
  | with_reducible refine g_intB ?_
  | with_reducible refine g_max2 ?_
  | with_reducible refine g_abs1 ?_
  | with_reducible refine g_for ?_
  | with_reducible refine g_iList ?_
  | with_reducible refine g_iTup ?_
  | with_reducible refine g_iRng1 ?_
  | with_reducible refine g_iEnum ?_
  | with_reducible refine g_slice ?_
  | with_reducible refine g_po0 ?_
  | with_reducible refine g_po1 ?_
  | with_reducible refine g_gsub ?_
  | with_reducible refine g_par ?_
  | with_reducible refine g_par2 ?_
  | with_reducible refine g_rfl ?_
  | with_reducible refine g_meth ?_
  | with_reducible refine g_gcons ?_
  | with_reducible refine g_gnil ?_
  | with_reducible refine g_gfld ?_
  | with_reducible refine g_sfld ?_
  | with_reducible refine g_drop ?_
  | with_reducible refine g_next ?_
  | with_reducible refine iteT ?_
  | with_reducible refine iteF ?_)
local macro_rules | `(tactic| walk_at "go") => `(tactic| (repeat walk_at "u"))

/-! ### Float: what its instances are -/
def flF (s : Int) (t : V) (p : Int) : List (Str × V) := [("sign", .int s), ("top", t), ("power", .int p)]
theorem fl_put (s : Int) (t : V) (p : Int) : putF "power" (.int p) (putF "top" t (putF "sign" (.int s) [])) = flF s t p := rfl
theorem fl_sign (s : Int) (t : V) (p : Int) : (flF s t p).lookup ("sign" : Str) = some (.int s) := rfl
theorem fl_top (s : Int) (t : V) (p : Int) : (flF s t p).lookup ("top" : Str) = some t := rfl
theorem fl_power (s : Int) (t : V) (p : Int) : (flF s t p).lookup ("power" : Str) = some (.int p) := rfl
def FlAt (C : Addr) (H : Hp) (a : Addr) (s : Int) (t : V) (p : Int) : Prop := ∃ dx, H a = some (.ins C dx (flF s t p))
theorem FlAt.same {C : Addr} {H H' : Hp} {a : Addr} {s : Int} {t : V} {p : Int} (h : FlAt C H a s t p) (e : Same H H') : FlAt C H' a s t p := by
  obtain ⟨dx, h⟩ := h
  exact ⟨dx, e _ _ h⟩
/-- a right float's parts -/
def FinOk (n p : Int) : Prop := 0 ≤ n ∧ n < 2 ^ 53 ∧ -1074 ≤ p ∧ ((Builtin.Int.intBits n : Nat) : Int) + p ≤ 1024 ∧ (n = 0 → p = 0) ∧ (n ≠ 0 → n % 2 = 1)
def FlOk (s : Int) (t : V) (p : Int) : Prop := (s = 1 ∨ s = -1) ∧ ((t = .str "nan" ∧ s = 1 ∧ p = 0) ∨ (t = .str "inf" ∧ p = 0) ∨ ∃ n, t = .int n ∧ FinOk n p)
/-- what the text says of the class Float, at C -/
structure FlC (K : PySem.W.Frag) (mg : Str → Option Value) (C : Addr) : Prop where
  own : OwnC K C
  nS : NoAttr K C "sign"
  nT : NoAttr K C "top"
  nP : NoAttr K C "power"
  mg : mg "Float" = some (.ref C)
  yes : PySem.W.kitOne K (.ref C) (.ref C) = some true
  fi : PySem.W.kitOne K (.type "int") (.ref C) = some false
  fb : PySem.W.kitOne K (.type "bool") (.ref C) = some false
  fs : PySem.W.kitOne K (.type "str") (.ref C) = some false
  fn : PySem.W.kitOne K (.type "NoneType") (.ref C) = some false
  fl : PySem.W.kitOne K (.type "list") (.ref C) = some false
  ft : PySem.W.kitOne K (.type "tuple") (.ref C) = some false
  fd : PySem.W.kitOne K (.type "dict") (.ref C) = some false
section
variable {P : Program} {w : World} {K : PySem.W.Frag} {mg : Str → Option Value} {base : Heap} {C : Addr}
/-- what Float(s, top, p) asks, and the parts that it gets -/
def MkOk (s : Int) (top : V) (p : Int) : Prop := (s = 1 ∨ s = -1) ∧ ((top = .str "nan" ∧ s = 1 ∧ p = 0) ∨ (top = .str "inf" ∧ p = 0) ∨ ∃ n : Nat, top = .int n ∧ ∃ m, (redV top p).1 = .int m ∧ fitsB m (redV top p).2 = true)
theorem sc_Float_init : FnScope ["self", "sign", "top", "power"] ["self", "sign", "top", "power"] (defScope s_Float_init) := ⟨rfl, rfl, rfl, by decide +kernel, rfl, by decide +kernel, by decide +kernel⟩
def sp_Finit (C : Addr) : Sp := fun vs H Q _ => ∃ a dx s top p, vs = [.ref a, .int s, top, .int p] ∧ H a = some (.ins C dx []) ∧ MkOk s top p ∧
  ∀ H', (∀ b o, b ≠ a → H b = some o → H' b = some o) → H' a = some (.ins C dx (flF s (redV top p).1 (redV top p).2)) → Q .non H'
theorem lowB_nat {n : Nat} (h : n ≠ 0) : lowB (n : Int) = (tz n : Int) := low_bits h
theorem ok_Finit {f : Addr} {fd : FuncData} (F : FunD K "__init__" "Float.__init__" (defArgs s_Float_init) (defBody s_Float_init) (defScope s_Float_init) [] [] f fd) (B : Blt mg) (T : FlC K mg C) (c_isplain : Fn P w K mg base CX0 1 "is_plain" ["number"] [] (sp_isplain K)) (c_reduced : Fn P w K mg base CX0 1 "reduced" ["top", "power"] [] sp_reduced)
    (c_fits : Fn P w K mg base CX0 1 "fits" ["top", "power"] [] sp_fits) : FnOk P w K mg base CX0 2 f fd ["self", "sign", "top", "power"] (sp_Finit C) := by
  refine F.ok sc_Float_init (fun vs H Q E h => ?_) (fun cdv A outer s H vs Q E hr h => ?_)
  · obtain ⟨a, dx, s, top, p, rfl, _⟩ := h; rfl
  · obtain ⟨a, dx, sg, top, p, rfl, ha, ⟨hs, hk⟩, q⟩ := h
    refine ⟨_, PSs.nox (pss_cons (ps_if (PW.pt (pw_or (pt_not (pt_val (pe_fn c_isplain (hr.mono (by first | decide | omega)) pass0 (pa_cons (pv 1) pa_nil)))) (pw_or1 (pt_cmpR op_notIn_seq (pv 1) (pe_tupN (pa_cons pe_int (pa_cons (pe_un un_neg pe_int) pa_nil))) (by rfl))))) (pss_one ps_never) pss_nil)
  (C8.pss_cut (ps_if (PW.pt (pw_and (pt_val (pe_callB call_isi (by rfl) B.isinstance (by decide +kernel) (pa_cons (pv 2) (pa_cons (pe_tyStr B) pa_nil)))) (pw_and1 (pt_cmpR op_in_seq (pv 2) (pe_tupN (pa_cons pe_str (pa_cons pe_str pa_nil))) (by rfl))))) (pss_cons (ps_if (PW.pt (pw_and (pt_cmpR (op_oEq hr.units) (pv 2) pe_str (nomark _)) (pw_and1 (pt_cmpR (op_oEq hr.units) (pv 1) (pe_un un_neg pe_int) (nomark _))))) (pss_one ps_never) pss_nil)
  (pss_one (ps_if (PW.pt (pw_or (pt_not (pt_val (pe_fn c_isplain (hr.mono (by first | decide | omega)) pass0 (pa_cons (pv 3) pa_nil)))) (pw_or1 (pt_cmpR (op_oNe hr.units) (pv 3) pe_int (nomark _))))) (pss_one ps_never) pss_nil))) (pss_one (ps_if (PW.pt (pw_or (pt_not (pt_val (pe_fn c_isplain (hr.mono (by first | decide | omega)) pass0 (pa_cons (pv 2) pa_nil)))) (pw_or1 (pt_cmpR op_oLt (pv 2) pe_int (nomark _))))) (pss_one ps_never) (pss_one (ps_if (pt_not (pt_val (pe_fn c_isplain (hr.mono (by first | decide | omega)) pass0 (pa_cons (pv 3) pa_nil)))) (pss_one ps_never) pss_nil)))))
  (pss_cons (ps_fld (pv 0) (pv 1) rfl)
  (pss_cons (ps_asg (pe_fn c_reduced (hr.mono (by first | decide | omega)) pass0 (pa_cons (pv 2) (pa_cons (pv 3) pa_nil))) (pg_tup rfl (pgs_cons (pg_fld (pv 0)) (pgs_cons (pg_fld (pv 0)) pgs_nil))))
  (pss_one (ps_if (PW.pt (pw_and (pt_cmpR op_notIn_seq (pe_fld (pv 0) rfl) (pe_tupN (pa_cons pe_str (pa_cons pe_str pa_nil))) (by rfl)) (pw_and1 (pt_not (pt_val (pe_fn c_fits (hr.mono (by first | decide | omega)) pass0 (pa_cons (pe_fld (pv 0) rfl) (pa_cons (pe_fld (pv 0) rfl) pa_nil)))))))) (pss_one ps_never) pss_nil)))))), ?_⟩
    walk_at "go"
    refine ⟨_, _, rfl, kn_int, ?_⟩
    walk_at "go"
    refine iteF ?_
    walk_at "go"
    refine g_new (sz rfl) fun a1 H1 na1 s1 ha1 _ => ?_
    refine ⟨a1, _, rfl, .inr (SqT.of ha1), rfl, rfl, ?_⟩
    walk_at "go"
    have hin : (if true = true then !inV (V.int sg) [V.int 1, V.int (-1)] else inV (V.int sg) [V.int 1, V.int (-1)]) = false := by
      rcases hs with rfl | rfl <;> rfl
    rw [hin]
    walk_at "go"
    refine g_cut (fun σ' H2 => σ' = [some (.ref a), some (.int sg), some top, some (.int p)] ∧ Same H1 H2 ∧ (isIN top ∨ ∃ n : Int, top = .int n ∧ (n ≠ 0 → 0 ≤ lowB n)) ∧ (isIN top ∧ (redV top p).1 = top ∨ ∃ m, (redV top p).1 = .int m ∧ fitsB m (redV top p).2 = true)) ?_ ?_
    · walk_at "go"
      rcases hk with ⟨rfl, rfl, rfl⟩ | ⟨rfl, rfl⟩ | ⟨n, rfl, m, hm, hf⟩
      · refine g_isiStr kn_str ?_
        walk_at "go"
        refine iteT ?_
        walk_at "go"
        refine g_new (sz rfl) fun a2 H2 na2 s2 ha2 _ => ?_
        refine ⟨a2, _, rfl, .inr (SqT.of ha2), rfl, rfl, ?_⟩
        walk_at "go"
        refine iteT ?_
        walk_at "go"
        refine g_yes rfl ?_
        walk_at "go"
        refine g_no (by decide) ?_
        walk_at "go"
        refine ⟨_, _, rfl, kn_int, ?_⟩
        walk_at "go"
        refine iteF ?_
        walk_at "go"
        refine iteF ?_
        walk_at "go"
        exact ⟨rfl, s2, .inl (.inr rfl), .inl ⟨.inr rfl, rfl⟩⟩
      · refine g_isiStr kn_str ?_
        walk_at "go"
        refine iteT ?_
        walk_at "go"
        refine g_new (sz rfl) fun a2 H2 na2 s2 ha2 _ => ?_
        refine ⟨a2, _, rfl, .inr (SqT.of ha2), rfl, rfl, ?_⟩
        walk_at "go"
        refine iteT ?_
        walk_at "go"
        refine g_no (by decide +kernel) ?_
        walk_at "go"
        refine ⟨_, _, rfl, kn_int, ?_⟩
        walk_at "go"
        refine iteF ?_
        walk_at "go"
        refine iteF ?_
        walk_at "go"
        exact ⟨rfl, s2, .inl (.inl rfl), .inl ⟨.inl rfl, rfl⟩⟩
      · refine g_isiStr kn_int ?_
        walk_at "go"
        refine iteF ?_
        walk_at "go"
        refine ⟨_, _, rfl, kn_int, ?_⟩
        walk_at "go"
        refine iteF ?_
        walk_at "go"
        refine g_no (by omega) ?_
        walk_at "go"
        refine ⟨_, _, rfl, kn_int, ?_⟩
        walk_at "go"
        refine iteF ?_
        walk_at "go"
        refine ⟨rfl, Same.refl _, .inr ⟨_, rfl, fun h => ?_⟩, .inr ⟨m, hm, hf⟩⟩
        rw [lowB_nat (by omega)]
        omega
    · rintro σ' H2 ⟨rfl, s2, hx, hy⟩
      have h2 := s2 _ _ (s1 _ _ ha)
      walk_at "go"
      refine ⟨a, C, dx, _, rfl, h2, T.own.cl, T.nS, Nat.le_of_ble_eq_true rfl, ?_⟩
      walk_at "go"
      refine ⟨_, _, rfl, hx, fun H3 a3 na3 s3 ha3 => ?_⟩
      have h3 : H3 a = some (.ins C dx (putF "sign" (.int sg) [])) := s3 _ _ upd_same
      have n3 : a3 ≠ a := fun z => by rw [z, upd_same] at na3; cases na3
      walk_at "go"
      refine ⟨a3, _, rfl, SqT.of ha3, rfl, ?_⟩
      walk_at "go"
      refine ⟨a, C, dx, _, rfl, h3, T.own.cl, T.nT, Nat.le_of_ble_eq_true rfl, ?_⟩
      walk_at "go"
      refine ⟨a, C, dx, _, rfl, upd_same, T.own.cl, T.nP, Nat.le_of_ble_eq_true rfl, ?_⟩
      walk_at "go"
      generalize e4 : upd (upd H3 a (.ins C dx (putF "top" (redV top p).1 (putF "sign" (.int sg) [])))) a (.ins C dx (putF "power" (.int (redV top p).2) (putF "top" (redV top p).1 (putF "sign" (.int sg) [])))) = H4
      have h4 : H4 a = some (.ins C dx (flF sg (redV top p).1 (redV top p).2)) := by rw [← e4]; exact upd_same
      have k4 : ∀ b o, b ≠ a → H b = some o → H4 b = some o := fun b o hb e => by
        rw [← e4, upd_ne hb, upd_ne hb]
        exact s3 _ _ (by rw [upd_ne hb]; exact s2 _ _ (s1 _ _ e))
      refine ⟨a, C, dx, _, _, rfl, h4, T.own.cl, T.nT, fl_top _ _ _, ?_⟩
      walk_at "go"
      refine g_new (sz rfl) fun a5 H5 na5 s5 ha5 _ => ?_
      have fin : ∀ H6, Same H5 H6 → Q .non H6 := fun H6 s6 => q H6 (fun b o hb e => s6 _ _ (s5 _ _ (k4 b o hb e))) (s6 _ _ (s5 _ _ h4))
      rcases hy with ⟨hn, hr⟩ | ⟨m, hm, hf⟩
      · rw [hr]
        refine ⟨a5, _, rfl, .inr (SqT.of ha5), by rcases hn with rfl | rfl <;> rfl, rfl, ?_⟩
        walk_at "go"
        have e : (if true = true then !inV top [V.str "inf", V.str "nan"] else inV top [V.str "inf", V.str "nan"]) = false := by
          rcases hn with rfl | rfl <;> decide +kernel
        rw [e]
        walk_at "go"
        exact fin _ (Same.refl _)
      · rw [hm]
        refine ⟨a5, _, rfl, .inr (SqT.of ha5), rfl, rfl, ?_⟩
        walk_at "go"
        have e : (if true = true then !inV (.int m) [V.str "inf", V.str "nan"] else inV (.int m) [V.str "inf", V.str "nan"]) = true := rfl
        rw [e]
        walk_at "go"
        refine ⟨a, C, dx, _, _, rfl, s5 _ _ h4, T.own.cl, T.nT, fl_top _ _ _, ?_⟩
        walk_at "go"
        refine ⟨a, C, dx, _, _, rfl, s5 _ _ h4, T.own.cl, T.nP, fl_power _ _ _, ?_⟩
        walk_at "go"
        refine ⟨m, _, by rw [hm]; rfl, ?_⟩
        walk_at "go"
        rw [hf]
        walk_at "go"
        exact fin _ (Same.refl _)
end
end Up

set_option Elab.async false
set_option linter.all false
set_option maxRecDepth 100000
set_option maxHeartbeats 4000000
namespace Up
open PySem
/-! ### the nearest float to a fraction: power, scaled parts, rounding -/
def nrP (t b : Nat) : Int := if (-1074 : Int) > (bitsN t : Int) - (bitsN b : Int) - 53 then -1074 else (bitsN t : Int) - (bitsN b : Int) - 53
def nrT (t : Nat) (p : Int) : Nat := if p < 0 then t * 2 ^ (0 - p).toNat else t
def nrB (b : Nat) (p : Int) : Nat := if p < 0 then b else b * 2 ^ p.toNat
def nrBig (t b : Nat) : Bool := decide (9007199254740992 ≤ nrT t (nrP t b) / nrB b (nrP t b))
def nrB2 (t b : Nat) : Nat := if nrBig t b then nrB b (nrP t b) * 2 else nrB b (nrP t b)
def nrP2 (t b : Nat) : Int := if nrBig t b then nrP t b + 1 else nrP t b
def nrQ (t b : Nat) : Nat := nrT t (nrP t b) / nrB2 t b
def nrR (t b : Nat) : Nat := nrT t (nrP t b) % nrB2 t b
def nrUp (t b : Nat) : Bool := decide (nrB2 t b < 2 * nrR t b) || (decide (2 * nrR t b = nrB2 t b) && decide (nrQ t b % 2 = 1))
def nrW (t b : Nat) : Nat := if nrUp t b then nrQ t b + 1 else nrQ t b
theorem nrP_lo (t b : Nat) : -1074 ≤ nrP t b := by unfold nrP; split <;> omega
theorem nrP_ge (t b : Nat) : (bitsN t : Int) - (bitsN b : Int) - 53 ≤ nrP t b := by unfold nrP; split <;> omega
theorem nrP_hi {t b : Nat} : nrP t b ≤ bitsN t := by unfold nrP; split <;> omega
theorem nrB_pos {b : Nat} (hb : 0 < b) (p : Int) : 0 < nrB b p := by
  unfold nrB; split
  · exact hb
  · exact Nat.mul_pos hb (Nat.two_pow_pos _)
theorem nrB2_pos {t b : Nat} (hb : 0 < b) : 0 < nrB2 t b := by
  unfold nrB2; split
  · exact Nat.mul_pos (nrB_pos hb _) (by decide)
  · exact nrB_pos hb _
/-- the scaled quotient is below 2 ^ 54 -/
theorem nr_lt54 {t b : Nat} (hb : 0 < b) : nrT t (nrP t b) / nrB b (nrP t b) < 2 ^ 54 := by
  rw [Nat.div_lt_iff_lt_mul (nrB_pos hb _)]
  have h1 := bits_lt t
  have h2 := bits_ge (n := b) (by omega)
  have h3 := bits_pos (n := b) (by omega)
  have h4 := nrP_ge t b
  unfold nrT nrB
  by_cases hp : nrP t b < 0
  · rw [if_pos hp, if_pos hp]
    have e1 : t * 2 ^ (0 - nrP t b).toNat < 2 ^ (bitsN t) * 2 ^ (0 - nrP t b).toNat := Nat.mul_lt_mul_of_pos_right h1 (Nat.two_pow_pos _)
    rw [← Nat.pow_add] at e1
    have e2 : 2 ^ (bitsN t + (0 - nrP t b).toNat) ≤ 2 ^ (54 + (bitsN b - 1)) := Nat.pow_le_pow_right (by decide) (by omega)
    rw [Nat.pow_add 2 54] at e2
    have e3 : 2 ^ 54 * 2 ^ (bitsN b - 1) ≤ 2 ^ 54 * b := Nat.mul_le_mul_left _ h2
    omega
  · rw [if_neg hp, if_neg hp]
    have e2 : 2 ^ bitsN t ≤ 2 ^ (54 + ((bitsN b - 1) + (nrP t b).toNat)) := Nat.pow_le_pow_right (by decide) (by omega)
    rw [Nat.pow_add 2 54, Nat.pow_add 2 (bitsN b - 1)] at e2
    have e3 : 2 ^ (bitsN b - 1) * 2 ^ (nrP t b).toNat ≤ b * 2 ^ (nrP t b).toNat := Nat.mul_le_mul_right _ h2
    have e4 : 2 ^ 54 * (2 ^ (bitsN b - 1) * 2 ^ (nrP t b).toNat) ≤ 2 ^ 54 * (b * 2 ^ (nrP t b).toNat) := Nat.mul_le_mul_left _ e3
    omega
theorem nrQ_lt {t b : Nat} (hb : 0 < b) : nrQ t b < 2 ^ 53 := by
  have h := nr_lt54 (t := t) hb
  unfold nrQ nrB2
  by_cases hg : nrBig t b = true
  · rw [if_pos hg, ← Nat.div_div_eq_div_mul]
    omega
  · rw [if_neg hg]
    have h2 : ¬ 9007199254740992 ≤ nrT t (nrP t b) / nrB b (nrP t b) := fun z => hg (decide_eq_true z)
    omega
theorem nrW_le {t b : Nat} (hb : 0 < b) : nrW t b ≤ 2 ^ 53 := by
  have h := nrQ_lt (t := t) hb
  unfold nrW; split <;> omega
theorem nrP2_lo (t b : Nat) : -1074 ≤ nrP2 t b := by
  have := nrP_lo t b
  unfold nrP2; split <;> omega
theorem nrB2_bits {t b m : Nat} (h1 : bitsN t ≤ m) (h2 : bitsN b ≤ m) (hb : 0 < b) : nrB2 t b < 2 ^ (m + 1) := by
  have h3 := bits_lt b
  have h4 := bits_pos (n := b) (by omega)
  have hB : nrB b (nrP t b) < 2 ^ m := by
    unfold nrB
    by_cases hp : nrP t b < 0
    · rw [if_pos hp]
      exact Nat.lt_of_lt_of_le h3 (Nat.pow_le_pow_right (by decide) h2)
    · rw [if_neg hp]
      have hx : nrP t b = (bitsN t : Int) - (bitsN b : Int) - 53 := by
        have hp' := hp
        unfold nrP at hp' ⊢
        split at hp' <;> rename_i hc
        · omega
        · rw [if_neg hc]
      have e1 : b * 2 ^ (nrP t b).toNat < 2 ^ bitsN b * 2 ^ (nrP t b).toNat := Nat.mul_lt_mul_of_pos_right h3 (Nat.two_pow_pos _)
      rw [← Nat.pow_add] at e1
      exact Nat.lt_of_lt_of_le e1 (Nat.pow_le_pow_right (by decide) (by omega))
  unfold nrB2
  rw [Nat.pow_succ]
  split <;> omega
end Up

set_option Elab.async false
set_option linter.all false
set_option maxRecDepth 100000
set_option maxHeartbeats 4000000
set_option exponentiation.threshold 200000
namespace Up
open PySem PySem.Spec PyProof.Rows L2
local macro_rules | `(tactic| walk_at "u") => `(tactic| first
  | with_reducible refine g_seq ?_
  | with_reducible refine g_asg ?_
  | with_reducible refine g_op ?_
  | ((with_reducible show tVar _ _ _ _); apply g_var; exact rfl)
  | with_reducible refine g_c ?_
  | with_reducible refine g_name ?_
  | with_reducible refine g_ifs ?_
  | with_reducible refine g_tt ?_
  | with_reducible refine g_tB ?_
  | with_reducible refine g_bl ?_
  | with_reducible refine g_ret ?_
  | with_reducible refine g_cb ?_
  | with_reducible refine g_cons ?_
  | with_reducible refine g_nil ?_
  | with_reducible refine g_call ?_
  | with_reducible refine g_and ?_
  | with_reducible refine g_or ?_
  | with_reducible refine g_not ?_
  | with_reducible refine g_andV ?_
  | with_reducible refine g_orV ?_
  | with_reducible refine g_notV ?_
  | with_reducible refine g_if ?_
  | with_reducible refine g_un ?_
  | with_reducible refine g_neg ?_
  | with_reducible refine g_addI ?_
  | with_reducible refine g_subI ?_
  | with_reducible refine g_subB ?_
  | with_reducible refine g_I0 ?_
  | with_reducible refine g_cmpI ?_
  | with_reducible refine g_eqI ?_
  | with_reducible refine g_neI ?_
  | with_reducible refine g_eqS ?_
  | with_reducible refine g_neS ?_
  | with_reducible refine g_eqB ?_
  | with_reducible refine g_neB ?_
  | with_reducible refine g_bits ?_
  | with_reducible refine g_bitsI ?_
  | with_reducible refine g_fld ?_
  | with_reducible refine g_tup ?_
  | with_reducible refine g_lst ?_
  | with_reducible refine g_gtup ?_
  | with_reducible refine g_make ?_
  | with_reducible refine g_lc ?_
  | with_reducible refine g_yesT ?_
  | with_reducible refine g_intI ?_
  | with_reducible refine g_intB ?_
  | with_reducible refine g_max2 ?_
  | with_reducible refine g_abs1 ?_
  | with_reducible refine g_for ?_
  | with_reducible refine g_iList ?_
  | with_reducible refine g_iTup ?_
  | with_reducible refine g_iRng1 ?_
  | with_reducible refine g_iEnum ?_
  | with_reducible refine g_slice ?_
  | with_reducible refine g_po0 ?_
  | with_reducible refine g_po1 ?_
  | with_reducible refine g_gsub ?_
  | with_reducible refine g_par ?_
  | with_reducible refine g_par2 ?_
  | with_reducible refine g_rfl ?_
  | with_reducible refine g_meth ?_
  | with_reducible refine g_gcons ?_
  | with_reducible refine g_gnil ?_
  | with_reducible refine g_gfld ?_
  | with_reducible refine g_sfld ?_
  | with_reducible refine g_drop ?_
  | with_reducible refine g_next ?_
  | with_reducible refine iteT ?_
  | with_reducible refine iteF ?_)
local macro_rules | `(tactic| walk_at "go") => `(tactic| (repeat walk_at "u"))

/-! ### parts of a float that was made -/
theorem red_nat {n : Nat} (h : n ≠ 0) (p : Int) : redV (.int n) p = (.int ((n / 2 ^ tz n : Nat) : Int), p + (tz n : Int)) := by
  have e : redV (.int n) p = (.int ((n : Int) / 2 ^ (lowB n).toNat), p + lowB n) := if_neg (by omega)
  rw [e, lowB_nat h]
  simp
theorem red_zero (p : Int) : redV (.int 0) p = (.int 0, 0) := rfl
theorem fits_of {n : Nat} {p : Int} (h1 : n ≤ 2 ^ 53) (h2 : -1074 ≤ p) (h3 : (bitsN n : Int) + p ≤ 1024) : ∃ m, (redV (.int n) p).1 = .int m ∧ fitsB m (redV (.int n) p).2 = true := by
  by_cases h0 : n = 0
  · subst h0
    exact ⟨0, rfl, by show fitsB 0 0 = true; decide⟩
  · rw [red_nat h0]
    refine ⟨_, rfl, ?_⟩
    obtain ⟨_, i2, i3, i4⟩ := land_pred n h0
    have hb := bits_shift h0
    have hle : n / 2 ^ tz n ≤ n := Nat.div_le_self _ _
    unfold fitsB
    rw [intBits_nat]
    have a1 : ((n / 2 ^ tz n : Nat) : Int) < 9007199254740992 := by
      have : n / 2 ^ tz n ≠ 2 ^ 53 := by intro z; rw [z] at i3; exact absurd i3 (by decide)
      omega
    have a2 : -1074 ≤ p + (tz n : Int) := by omega
    have a3 : ((bitsN (n / 2 ^ tz n) : Nat) : Int) + (p + (tz n : Int)) ≤ 1024 := by omega
    rw [decide_eq_true a1, decide_eq_true a2, decide_eq_true a3]
    rfl
theorem mk_flok {s : Int} {top : V} {p : Int} (h : MkOk s top p) : FlOk s (redV top p).1 (redV top p).2 := by
  obtain ⟨hs, h⟩ := h
  refine ⟨hs, ?_⟩
  rcases h with ⟨rfl, h1, rfl⟩ | ⟨rfl, rfl⟩ | ⟨n, rfl, m, hm, hf⟩
  · exact .inl ⟨rfl, h1, rfl⟩
  · exact .inr (.inl ⟨rfl, rfl⟩)
  · refine .inr (.inr ⟨m, hm, ?_⟩)
    by_cases h0 : n = 0
    · subst h0
      have e : m = 0 := by
        have : (V.int 0) = V.int m := hm
        injection this with z
        exact z.symm
      subst e
      show FinOk 0 0
      exact ⟨by decide, by decide, by decide, by decide, fun _ => rfl, fun z => absurd rfl z⟩
    · rw [red_nat h0] at hm hf ⊢
      obtain ⟨_, i2, i3, i4⟩ := land_pred n h0
      have e : ((n / 2 ^ tz n : Nat) : Int) = m := by injection hm
      have hne : m ≠ 0 := by
        intro z
        rw [z] at e
        have : n / 2 ^ tz n = 0 := by exact_mod_cast e
        rw [this] at i3
        exact absurd i3 (by decide)
      unfold fitsB at hf
      simp only [decide_eq_false hne, Bool.or_false, Bool.and_eq_true, decide_eq_true_eq] at hf
      exact ⟨e ▸ Int.natCast_nonneg _, hf.1, hf.2.1, hf.2.2, fun z => absurd z hne, fun _ => by rw [← e]; omega⟩
theorem mk_of_flok {s : Int} {n : Nat} {p : Int} (hs : s = 1 ∨ s = -1) (h1 : n ≤ 2 ^ 53) (h2 : -1074 ≤ p) (h3 : (bitsN n : Int) + p ≤ 1024) : MkOk s (.int n) p := ⟨hs, .inr (.inr ⟨n, rfl, fits_of h1 h2 h3⟩)⟩
/-! ### numbers as values -/
inductive Nm where
  | i (n : Int)
  | f (s : Int) (t : V) (p : Int)
def NumAt (C : Addr) (H : Hp) (v : V) : Nm → Prop
  | .i n => v = .int n
  | .f s t p => ∃ a, v = .ref a ∧ FlAt C H a s t p ∧ FlOk s t p
theorem NumAt.same {C : Addr} {H H' : Hp} {v : V} : ∀ {n : Nm}, NumAt C H v n → Same H H' → NumAt C H' v n
  | .i _, h, _ => h
  | .f _ _ _, ⟨a, e, h, k⟩, s => ⟨a, e, h.same s, k⟩
abbrev RetF (C : Addr) (H : Hp) (s : Int) (t : V) (p : Int) (Q : VK) : Prop := ∀ H' a, H a = none → Same H H' → FlAt C H' a s t p → Q (.ref a) H'
section
variable {P : Program} {w : World} {K : PySem.W.Frag} {mg : Str → Option Value} {base : Heap} {C : Addr}
/-- Float(s, top, p) -/
theorem mkF {H : Hp} {Q : VK} {E : XK} {s : Int} {top : V} {p : Int} (hk : MkOk s top p) (q : RetF C H s (redV top p).1 (redV top p).2 Q) :
    MakeR C (sp_Finit C) ([.int s, top, .int p] ++ []) H Q E := by
  intro x dx H' nx ndx ne s1 hx _
  exact ⟨x, dx, s, top, p, rfl, hx, hk, fun H2 k h2 => ⟨rfl, q H2 x nx (fun b o e => k b o (ne_of_none e nx) (s1 _ _ e)) ⟨dx, h2⟩⟩⟩
abbrev CnF (P : Program) (w : World) (K : PySem.W.Frag) (mg : Str → Option Value) (base : Heap) (C : Addr) : Prop := Cn P w K mg base CX0 2 "Float" C ["self", "sign", "top", "power"] [] (sp_Finit C)
/-! is_finite -/
theorem sc_Float_isfinite : FnScope ["self"] ["self"] (defScope s_Float_isfinite) := ⟨rfl, rfl, rfl, by decide +kernel, rfl, by decide +kernel, by decide +kernel⟩
def sp_isfinite (C : Addr) : Sp := fun vs H Q _ => ∃ a s t p, vs = [.ref a] ∧ FlAt C H a s t p ∧ FlOk s t p ∧ Q (.bl (isI t)) H
theorem FlOk.kn {s : Int} {t : V} {p : Int} {H : Hp} (h : FlOk s t p) : ∃ u, Kn K H t u ∧ isB t = false := by
  rcases h.2 with ⟨rfl, _⟩ | ⟨rfl, _⟩ | ⟨n, rfl, _⟩
  · exact ⟨_, kn_str, rfl⟩
  · exact ⟨_, kn_str, rfl⟩
  · exact ⟨_, kn_int, rfl⟩
theorem ok_isfinite {f : Addr} {fd : FuncData} (F : FunD K "is_finite" "Float.is_finite" (defArgs s_Float_isfinite) (defBody s_Float_isfinite) (defScope s_Float_isfinite) [] [] f fd) (B : Blt mg) (T : FlC K mg C) : FnOk P w K mg base CX0 1 f fd ["self"] (sp_isfinite C) := by
  refine F.ok sc_Float_isfinite (fun vs H Q E h => ?_) (fun cdv A outer s H vs Q E hr h => ?_)
  · obtain ⟨a, s, t, p, rfl, _⟩ := h; rfl
  · obtain ⟨a, sg, t, p, rfl, ⟨dx, ha⟩, ho, q⟩ := h
    refine ⟨_, PSs.nox (pss_one (ps_ret (pe_callB call_isi (by rfl) B.isinstance (by decide +kernel) (pa_cons (pe_fld (pv 0) rfl) (pa_cons (pe_tyInt B) pa_nil))))), ?_⟩
    walk_at "go"
    refine ⟨a, C, dx, _, _, rfl, ha, T.own.cl, T.nT, fl_top _ _ _, ?_⟩
    walk_at "go"
    obtain ⟨u, kn, hb⟩ := ho.kn (K := K) (H := H)
    refine g_isiInt kn ?_
    rw [hb, Bool.or_false]
    exact q
/-! ratio -/
theorem sc_Float_ratio : FnScope ["self"] ["self"] (defScope s_Float_ratio) := ⟨rfl, rfl, rfl, by decide +kernel, rfl, by decide +kernel, by decide +kernel⟩
def ratN (s n p : Int) : Int := if p < 0 then s * n else s * (n * 2 ^ p.toNat)
def ratD (p : Int) : Int := if p < 0 then 2 ^ (0 - p).toNat else 1
def sp_ratio (C : Addr) : Sp := fun vs H Q _ => ∃ a s n p, vs = [.ref a] ∧ FlAt C H a s (.int n) p ∧ FlOk s (.int n) p ∧ RetT H [.int (ratN s n p), .int (ratD p)] Q
theorem fin_of {s n p : Int} (h : FlOk s (.int n) p) : FinOk n p := by
  rcases h.2 with ⟨z, _⟩ | ⟨z, _⟩ | ⟨m, e, h⟩
  · cases z
  · cases z
  · injection e with e; subst e; exact h
theorem FinOk.hi {n p : Int} (h : FinOk n p) : p ≤ 1024 := by
  obtain ⟨h1, _, _, h4, h5⟩ := h
  by_cases h0 : n = 0
  · rw [h5.1 h0]; decide
  · have := bits_pos (n := n.natAbs) (by omega)
    rw [intBits_neg] at h4
    omega
theorem sgn_mul {s x : Int} (hs : s = 1 ∨ s = -1) : IntMulOk s x := .of_left (by rcases hs with rfl | rfl <;> decide)
theorem shl_small {i j : Int} (h0 : 0 ≤ j) (h : j ≤ 100000) (hi : i.natAbs < 2 ^ 100000) : CShl i j := by
  refine ⟨h0, ?_⟩
  rw [intBits_neg]
  have := bits_le hi
  omega
theorem lt_pow_mono {n a b : Nat} (h : n < 2 ^ a) (hab : a ≤ b) : n < 2 ^ b := Nat.lt_of_lt_of_le h (Nat.pow_le_pow_right (by decide) hab)
theorem ok_ratio {f : Addr} {fd : FuncData} (F : FunD K "ratio" "Float.ratio" (defArgs s_Float_ratio) (defBody s_Float_ratio) (defScope s_Float_ratio) [] [] f fd) (B : Blt mg) (T : FlC K mg C) : FnOk P w K mg base CX0 1 f fd ["self"] (sp_ratio C) := by
  refine F.ok sc_Float_ratio (fun vs H Q E h => ?_) (fun cdv A outer s H vs Q E hr h => ?_)
  · obtain ⟨a, s, t, p, rfl, _⟩ := h; rfl
  · obtain ⟨a, sg, n, p, rfl, ⟨dx, ha⟩, ho, q⟩ := h
    have hf := fin_of ho
    have hhi := hf.hi
    obtain ⟨f1, f2, f3, f4, f5⟩ := hf
    unfold ratN ratD at q
    refine ⟨_, PSs.nox (pss_cons (ps_if (pt_cmpR op_oLt (pe_fld (pv 0) rfl) pe_int (nomark _)) (pss_one (ps_ret (pe_tupN (pa_cons (pe_op op_oMul (pe_fld (pv 0) rfl) (pe_fld (pv 0) rfl)) (pa_cons (pe_op op_oShl pe_int (pe_op op_oSub pe_int (pe_fld (pv 0) rfl))) pa_nil))))) pss_nil)
  (pss_one (ps_ret (pe_tupN (pa_cons (pe_op op_oMul (pe_fld (pv 0) rfl) (pe_op op_oShl (pe_fld (pv 0) rfl) (pe_fld (pv 0) rfl))) (pa_cons pe_int pa_nil)))))), ?_⟩
    walk_at "go"
    refine ⟨a, C, dx, _, _, rfl, ha, T.own.cl, T.nP, fl_power _ _ _, ?_⟩
    walk_at "go"
    refine g_ite (fun hp => ?_) fun hp => ?_
    · walk_at "go"
      refine ⟨a, C, dx, _, _, rfl, ha, T.own.cl, T.nS, fl_sign _ _ _, ?_⟩
      walk_at "go"
      refine ⟨a, C, dx, _, _, rfl, ha, T.own.cl, T.nT, fl_top _ _ _, ?_⟩
      refine g_mulI (sgn_mul ho.1) ?_
      walk_at "go"
      refine ⟨a, C, dx, _, _, rfl, ha, T.own.cl, T.nP, fl_power _ _ _, ?_⟩
      walk_at "go"
      refine g_II (shl_small (by omega) (by omega) (lt_pow_mono (a := 1) (by decide) (by decide))) ?_
      walk_at "go"
      refine g_new (sz rfl) fun b H2 nb s2 hb _ => ?_
      rw [if_pos hp, if_pos hp] at q
      rw [Int.one_mul] at hb
      exact q _ _ nb s2 hb
    · walk_at "go"
      refine ⟨a, C, dx, _, _, rfl, ha, T.own.cl, T.nS, fl_sign _ _ _, ?_⟩
      walk_at "go"
      refine ⟨a, C, dx, _, _, rfl, ha, T.own.cl, T.nT, fl_top _ _ _, ?_⟩
      walk_at "go"
      refine ⟨a, C, dx, _, _, rfl, ha, T.own.cl, T.nP, fl_power _ _ _, ?_⟩
      walk_at "go"
      refine g_II (shl_small (by omega) (by omega) (lt_pow_mono (a := 53) (by omega) (by decide))) ?_
      refine g_mulI (sgn_mul ho.1) ?_
      walk_at "go"
      refine g_new (sz rfl) fun b H2 nb s2 hb _ => ?_
      rw [if_neg hp, if_neg hp] at q
      exact q _ _ nb s2 hb
/-! infinity -/
theorem sc_infinity : FnScope ["sign"] ["sign"] (defScope s_infinity) := ⟨rfl, rfl, rfl, by decide +kernel, rfl, by decide +kernel, by decide +kernel⟩
def sp_infinity (C : Addr) : Sp := fun vs H Q _ => ∃ s, vs = [.int s] ∧ (s = 1 ∨ s = -1) ∧ RetF C H s (.str "inf") 0 Q
theorem mk_inf {s : Int} (hs : s = 1 ∨ s = -1) : MkOk s (.str "inf") 0 := ⟨hs, .inr (.inl ⟨rfl, rfl⟩)⟩
theorem ok_infinity {f : Addr} {fd : FuncData} (F : FunD K "infinity" "infinity" (defArgs s_infinity) (defBody s_infinity) (defScope s_infinity) [] [] f fd) (c_Float : CnF P w K mg base C) : FnOk P w K mg base CX0 4 f fd ["sign"] (sp_infinity C) := by
  refine F.ok sc_infinity (fun vs H Q E h => ?_) (fun cdv A outer s H vs Q E hr h => ?_)
  · obtain ⟨a, rfl, _⟩ := h; rfl
  · obtain ⟨sg, rfl, hs, q⟩ := h
    refine ⟨_, PSs.nox (pss_one (ps_ret (pe_cn c_Float (hr.mono (by first | decide | omega)) pass0 (pa_cons (pv 0) (pa_cons pe_str (pa_cons pe_int pa_nil)))))), ?_⟩
    walk_at "go"
    exact mkF (mk_inf hs) q
/-! nearest -/
theorem sc_nearest : FnScope ["sign", "top", "bottom", "power", "whole", "rest"] ["sign", "top", "bottom"] (defScope s_nearest) := ⟨rfl, rfl, rfl, by decide +kernel, rfl, by decide +kernel, by decide +kernel⟩
/-- what is handed to Float -/
def nearV (t b : Nat) : V × Int := if t = 0 then (.int 0, 0) else if (bitsN (nrW t b) : Int) + nrP2 t b > 1024 then (.str "inf", 0) else (.int (nrW t b : Int), nrP2 t b)
theorem near_mk {s : Int} {t b : Nat} (hs : s = 1 ∨ s = -1) (hb : 0 < b) : MkOk s (nearV t b).1 (nearV t b).2 := by
  unfold nearV
  by_cases h0 : t = 0
  · rw [if_pos h0]
    exact mk_of_flok (n := 0) hs (by decide) (by decide) (by decide)
  · rw [if_neg h0]
    by_cases h1 : (bitsN (nrW t b) : Int) + nrP2 t b > 1024
    · rw [if_pos h1]
      exact mk_inf hs
    · rw [if_neg h1]
      exact mk_of_flok hs (nrW_le hb) (nrP2_lo t b) (by omega)
def sp_nearest (C : Addr) : Sp := fun vs H Q _ => ∃ (s : Int) (t b : Nat), vs = [.int s, .int t, .int b] ∧ (s = 1 ∨ s = -1) ∧ 0 < b ∧ bitsN t ≤ 6000 ∧ bitsN b ≤ 6000 ∧ RetF C H s (redV (nearV t b).1 (nearV t b).2).1 (redV (nearV t b).1 (nearV t b).2).2 Q
theorem fdiv_nat (a b : Nat) : (a : Int).fdiv (b : Int) = ((a / b : Nat) : Int) := by
  rw [Int.fdiv_eq_ediv_of_nonneg _ (by omega)]; rfl
theorem log2_lt {b k : Nat} (h : b < 2 ^ k) (hk : 0 < k) : b.log2 < k := by
  by_cases h0 : b = 0
  · subst h0; simpa using hk
  · exact (Nat.log2_lt h0).mpr h
theorem land_one (n : Nat) : Builtin.bitAnd (n : Int) 1 = ((n % 2 : Nat) : Int) := by
  rw [PyProof.Rows.bitAnd_pp (by omega) (by decide)]
  show ((n &&& 1 : Nat) : Int) = _
  rw [Nat.and_one_is_mod]
theorem ok_nearest {f : Addr} {fd : FuncData} (F : FunD K "nearest" "nearest" (defArgs s_nearest) (defBody s_nearest) (defScope s_nearest) [] [] f fd) (B : Blt mg) (i_ROOM : ∃ t, mg "ROOM" = some (.int 9007199254740992 t)) (i_LOWEST : ∃ t, mg "LOWEST" = some (.int (-1074) t)) (i_TOO_GREAT : ∃ t, mg "TOO_GREAT" = some (.int 1024 t))
    (c_Float : CnF P w K mg base C) (c_infinity : Fn P w K mg base CX0 4 "infinity" ["sign"] [] (sp_infinity C)) : FnOk P w K mg base CX0 5 f fd ["sign", "top", "bottom"] (sp_nearest C) := by
  refine F.ok sc_nearest (fun vs H Q E h => ?_) (fun cdv A outer s H vs Q E hr h => ?_)
  · obtain ⟨_, _, _, rfl, _⟩ := h; rfl
  · obtain ⟨sg, t, b, rfl, hs, hb, ht, hbb, q⟩ := h
    have mk := near_mk (t := t) (b := b) hs hb
    refine ⟨_, PSs.nox (pss_cons (ps_if (pt_cmpR (op_oEq hr.units) (pv 1) pe_int (nomark _)) (pss_one (ps_ret (pe_cn c_Float (hr.mono (by first | decide | omega)) pass0 (pa_cons (pv 0) (pa_cons pe_int (pa_cons pe_int pa_nil)))))) pss_nil)
  (pss_cons (ps_set (i := 3) sc_nearest.nd rfl (Or.inl rfl) (pe_callB (call_max2 rfl) (by rfl) B.max (by decide +kernel) (pa_cons (pe_op op_oSub (pe_op op_oSub (pe_bits (pv 1)) (pe_bits (pv 2))) pe_int) (pa_cons (pe_gint i_LOWEST) pa_nil))))
  (C8.pss_cut (ps_if (pt_cmpR op_oLt (pv 3) pe_int (nomark _)) (pss_one (ps_set (i := 1) sc_nearest.nd rfl (Or.inl rfl) (pe_op op_oShl (pv 1) (pe_op op_oSub pe_int (pv 3))))) (pss_one (ps_set (i := 2) sc_nearest.nd rfl (Or.inl rfl) (pe_op op_oShl (pv 2) (pv 3)))))
  (C8.pss_cut (ps_if (pt_cmpR op_oGe (pe_op op_oDiv (pv 1) (pv 2)) (pe_gint i_ROOM) (nomark _)) (pss_cons (ps_set (i := 2) sc_nearest.nd rfl (Or.inl rfl) (pe_op op_oShl (pv 2) pe_int))
  (pss_one (ps_set (i := 3) sc_nearest.nd rfl (Or.inl rfl) (pe_op op_oAdd (pv 3) pe_int)))) pss_nil)
  (pss_cons (ps_asg (pe_callB call_divmodK (by rfl) B.divmod (by decide +kernel) (pa_cons (pv 1) (pa_cons (pv 2) pa_nil))) (pg_tup rfl (pgs_cons (pg_name (i := 4) sc_nearest.nd rfl (Or.inl rfl)) (pgs_cons (pg_name (i := 5) sc_nearest.nd rfl (Or.inl rfl)) pgs_nil))))
  (C8.pss_cut (ps_if (PW.pt (pw_or (pt_cmpR op_oGt (pe_op op_oMul pe_int (pv 5)) (pv 2) (nomark _)) (pw_or1 (PW.pt (pw_and (pt_cmpR (op_oEq hr.units) (pe_op op_oMul pe_int (pv 5)) (pv 2) (nomark _)) (pw_and1 (pt_cmpR (op_oEq hr.units) (pe_op op_oAnd (pv 4) pe_int) pe_int (nomark _)))))))) (pss_one (ps_set (i := 4) sc_nearest.nd rfl (Or.inl rfl) (pe_op op_oAdd (pv 4) pe_int))) pss_nil)
  (pss_cons (ps_if (pt_cmpR op_oGt (pe_op op_oAdd (pe_bits (pv 4)) (pv 3)) (pe_gint i_TOO_GREAT) (nomark _)) (pss_one (ps_ret (pe_fn c_infinity (hr.mono (by first | decide | omega)) pass0 (pa_cons (pv 0) pa_nil)))) pss_nil)
  (pss_one (ps_ret (pe_cn c_Float (hr.mono (by first | decide | omega)) pass0 (pa_cons (pv 0) (pa_cons (pv 4) (pa_cons (pv 3) pa_nil))))))))))))), ?_⟩
    walk_at "go"
    refine g_ite (fun h0 => ?_) fun h0 => ?_
    · walk_at "go"
      have h0 : t = 0 := by omega
      have e : nearV t b = (.int 0, 0) := if_pos h0
      rw [e] at q mk
      exact mkF mk q
    · have h0 : t ≠ 0 := by omega
      walk_at "go"
      rw [intBits_nat, intBits_nat]
      have eP : (if (-1074 : Int) > ((bitsN t : Nat) : Int) - ((bitsN b : Nat) : Int) - 53 then (-1074 : Int) else ((bitsN t : Nat) : Int) - ((bitsN b : Nat) : Int) - 53) = nrP t b := rfl
      rw [eP]
      have p1 := nrP_lo t b
      have p2 := nrP_hi (t := t) (b := b)
      walk_at "go"
      refine g_cut (fun σ' H2 => σ' = [some (.int sg), some (.int (nrT t (nrP t b) : Nat)), some (.int (nrB b (nrP t b) : Nat)), some (.int (nrP t b)), none, none] ∧ H = H2) ?_ ?_
      · walk_at "go"
        refine g_ite (fun hp => ?_) fun hp => ?_
        · walk_at "go"
          refine g_II (shl_small (by omega) (by omega) (lt_pow_mono (bits_lt t) (by omega))) ?_
          walk_at "go"
          refine ⟨?_, rfl⟩
          unfold nrT nrB
          rw [if_pos hp, if_pos hp]
          simp [L2.start]
        · walk_at "go"
          refine g_II (shl_small (by omega) (by omega) (lt_pow_mono (bits_lt b) (by omega))) ?_
          walk_at "go"
          refine ⟨?_, rfl⟩
          unfold nrT nrB
          rw [if_neg hp, if_neg hp]
          simp [L2.start]
      · rintro σ' _ ⟨rfl, rfl⟩
        have hB := nrB_pos hb (nrP t b)
        have hB2 := nrB2_pos (t := t) hb
        have hbit := nrB2_bits (m := 6000) ht hbb hb
        have hbit1 : nrB b (nrP t b) < 2 ^ 6001 := by
          unfold nrB2 at hbit
          split at hbit <;> omega
        walk_at "go"
        refine g_cut (fun σ' H2 => σ' = [some (.int sg), some (.int (nrT t (nrP t b) : Nat)), some (.int (nrB2 t b : Nat)), some (.int (nrP2 t b)), none, none] ∧ H = H2) ?_ ?_
        · walk_at "go"
          refine g_divI (by omega) (by rw [Int.natAbs_natCast]; exact Nat.lt_trans (log2_lt hbit1 (by decide)) (by decide)) ?_
          rw [fdiv_nat]
          walk_at "go"
          refine g_ite (fun hg => ?_) fun hg => ?_
          · have hg' : nrBig t b = true := decide_eq_true (Int.ofNat_le.mp (show ((9007199254740992 : Nat) : Int) ≤ _ from hg))
            walk_at "go"
            refine g_II (shl_small (by decide) (by decide) (lt_pow_mono hbit1 (by decide))) ?_
            walk_at "go"
            refine ⟨?_, rfl⟩
            unfold nrB2 nrP2
            rw [if_pos hg', if_pos hg']
            simp
          · have hg' : ¬ nrBig t b = true := fun z => hg (Int.ofNat_le.mpr (of_decide_eq_true z))
            walk_at "go"
            refine ⟨?_, rfl⟩
            unfold nrB2 nrP2
            rw [if_neg hg', if_neg hg']
        · rintro σ' _ ⟨rfl, rfl⟩
          walk_at "go"
          refine ⟨_, _, rfl, ⟨by omega, by rw [Int.natAbs_natCast]; exact Nat.lt_trans (log2_lt hbit (by decide)) (by decide)⟩, fun a H2 na s2 ha _ => ?_⟩
          walk_at "go"
          refine ⟨a, _, rfl, SqT.of ha, rfl, ?_⟩
          walk_at "go"
          have eQ : ((nrT t (nrP t b) : Nat) : Int) / ((nrB2 t b : Nat) : Int) = ((nrQ t b : Nat) : Int) := rfl
          have eR : ((nrT t (nrP t b) : Nat) : Int) % ((nrB2 t b : Nat) : Int) = ((nrR t b : Nat) : Int) := rfl
          rw [eQ, eR]
          refine g_cut (fun σ' H3 => σ' = [some (.int sg), some (.int (nrT t (nrP t b) : Nat)), some (.int (nrB2 t b : Nat)), some (.int (nrP2 t b)), some (.int (nrW t b : Nat)), some (.int (nrR t b : Nat))] ∧ H2 = H3) ?_ ?_
          · have up : ∀ (c : Bool), nrUp t b = c → nrW t b = if c then nrQ t b + 1 else nrQ t b := fun c h => by unfold nrW; rw [h]
            walk_at "go"
            refine g_mulI (.of_left (by decide)) ?_
            walk_at "go"
            refine g_ite (fun h1 => ?_) fun h1 => ?_
            · walk_at "go"
              refine ⟨?_, rfl⟩
              rw [up true (by unfold nrUp; rw [decide_eq_true (show nrB2 t b < 2 * nrR t b by omega)]; rfl)]
              simp
            · walk_at "go"
              refine g_mulI (.of_left (by decide)) ?_
              walk_at "go"
              refine g_ite (fun h2 => ?_) fun h2 => ?_
              · walk_at "go"
                rw [land_one]
                refine g_ite (fun h3 => ?_) fun h3 => ?_
                · walk_at "go"
                  refine ⟨?_, rfl⟩
                  rw [up true (by unfold nrUp; rw [decide_eq_true (show 2 * nrR t b = nrB2 t b by omega), decide_eq_true (show nrQ t b % 2 = 1 by omega), Bool.and_self, Bool.or_true])]
                  simp
                · walk_at "go"
                  refine ⟨?_, rfl⟩
                  rw [up false (by unfold nrUp; rw [decide_eq_false (show ¬ nrB2 t b < 2 * nrR t b by omega), decide_eq_false (show ¬ nrQ t b % 2 = 1 by omega), Bool.and_false, Bool.or_false])]
                  simp
              · walk_at "go"
                refine ⟨?_, rfl⟩
                rw [up false (by unfold nrUp; rw [decide_eq_false (show ¬ nrB2 t b < 2 * nrR t b by omega), decide_eq_false (show ¬ 2 * nrR t b = nrB2 t b by omega), Bool.false_and, Bool.or_false])]
                simp
          · rintro σ' _ ⟨rfl, rfl⟩
            have q2 : RetF C H2 sg (redV (nearV t b).1 (nearV t b).2).1 (redV (nearV t b).1 (nearV t b).2).2 Q := fun H' x nx sx hx => q H' x (s2.free nx) (s2.trans sx) hx
            walk_at "go"
            rw [intBits_nat]
            refine g_ite (fun h1 => ?_) fun h1 => ?_
            · walk_at "go"
              have e : nearV t b = (.str "inf", 0) := by unfold nearV; rw [if_neg h0, if_pos h1]
              rw [e] at q2
              exact ⟨sg, rfl, hs, q2⟩
            · walk_at "go"
              have e : nearV t b = (.int (nrW t b : Int), nrP2 t b) := by unfold nearV; rw [if_neg h0, if_neg h1]
              rw [e] at q2 mk
              exact mkF mk q2
end
end Up

set_option Elab.async false
set_option linter.all false
set_option maxRecDepth 100000
set_option maxHeartbeats 4000000
namespace Up
open PySem PySem.Spec PyProof.Rows L2 PySem.SeqAt HN
/-! ### == of None and of instances of a class without an own one -/
structure IdC (K : PySem.W.Frag) (C : Addr) : Prop where
  hm : PySem.W.mroIn K C (.type "object") = some true
  he : PySem.W.findIn K (.ref C) "__eq__" = some (some (.builtin "object.__eq__"))
  hn : PySem.W.subIn K (.ref C) (.type "NoneType") = some false
section
variable {M : Model} {prog : Program} {w : World} {A : Around} {E : Value → Shared → Prop} {s : Shared} {K : PySem.W.Frag} {x y C : Addr} {ox oy : Obj} {od oe : Option Obj}
theorem inst_nt (I : PySem.W.InstAt s.heap x ox C od) : ox.cls ≠ .type "tuple" := by
  obtain ⟨_, hc, _, _⟩ := I
  rw [hc]; exact fun z => nomatch z
theorem obj_other {Q : Value → Shared → Prop} (X : K.In s.heap) (I : PySem.W.InstAt s.heap x ox C od) (J : PySem.W.InstAt s.heap y oy C oe) (T : IdC K C) (hxy : x ≠ y) (hq : Q .notImplemented s) :
    wpAny (model prog w) A (call (.builtin "object.__eq__") [.ref x, .ref y]) Q E s :=
  wpAny_call (codeAny_call_builtin PySem.F.cmp_object.eq.plain PySem.F.cmpEntry_eq (PySem.W.check_slot PySem.F.cmpKind_eq PySem.F.cmpSplit_eq (I.type.andThen (PySem.W.looks_mroIn X T.hm)) (PySem.F.cmpArgs_eq _ _) (objEq_entry_other hxy I.1 J.1 (inst_nt I) hq)))
theorem obj_same {Q : Value → Shared → Prop} (X : K.In s.heap) (I : PySem.W.InstAt s.heap x ox C od) (T : IdC K C) (hq : Q (.bool true) s) :
    wpAny (model prog w) A (call (.builtin "object.__eq__") [.ref x, .ref x]) Q E s :=
  wpAny_call (codeAny_call_builtin PySem.F.cmp_object.eq.plain PySem.F.cmpEntry_eq (PySem.W.check_slot PySem.F.cmpKind_eq PySem.F.cmpSplit_eq (I.type.andThen (PySem.W.looks_mroIn X T.hm)) (PySem.F.cmpArgs_eq _ _) (objEq_entry_same hq)))
theorem try_other {Q : Option Value → Shared → Prop} (X : K.In s.heap) (I : PySem.W.InstAt s.heap x ox C od) (J : PySem.W.InstAt s.heap y oy C oe) (T : IdC K C) (hxy : x ≠ y) (hq : Q none s) :
    wpAny (model prog w) A (tryCompare (.ref x) "__eq__" (.ref y)) Q E s := by
  unfold tryCompare
  exact wpAny_bind (ifBound_objEq X I T.he (obj_other X I J T hxy (wpAny_pure hq)))
theorem try_same {Q : Option Value → Shared → Prop} (X : K.In s.heap) (I : PySem.W.InstAt s.heap x ox C od) (T : IdC K C) (hq : Q (some (.bool true)) s) :
    wpAny (model prog w) A (tryCompare (.ref x) "__eq__" (.ref x)) Q E s := by
  unfold tryCompare
  exact wpAny_bind (ifBound_objEq X I T.he (obj_same X I T (wpAny_pure hq)))
theorem try_rn {Q : Option Value → Shared → Prop} (X : K.In s.heap) (I : PySem.W.InstAt s.heap x ox C od) (T : IdC K C) (hq : Q none s) :
    wpAny (model prog w) A (tryCompare (.ref x) "__eq__" .none) Q E s := by
  unfold tryCompare
  exact wpAny_bind (ifBound_objEq X I T.he (HN.call_objEq X I T.hm (wpAny_pure hq)))
theorem try_nr {Q : Option Value → Shared → Prop} (hq : Q none s) : wpAny (model prog w) A (tryCompare .none "__eq__" (.ref x)) Q E s :=
  wpAny_tryCompare_declines (show s.TypeIs .none "NoneType" from rfl) PySem.F.slot_NoneType_eq_refl (call_gives PySem.F.slot_NoneType_eq_refl rfl PySem.F.entry_NoneType_eq (PySem.F.args_NoneType_eq_2 _ _) (NoneType___eq___none_ref_0 x) ⟨rfl, hq⟩)
theorem rc_same {Q : Value → Shared → Prop} (hu : A.units < cLine) (X : K.In s.heap) (I : PySem.W.InstAt s.heap x ox C od) (T : IdC K C) (hq : Q (.bool true) s) : wpAny (model prog w) A (richCompare .Eq (.ref x) (.ref x)) Q E s := by
  simp only [richCompare, cmpInfo_Eq, oneThing_ref]
  refine wpAny_holding (wpAny_bind (wpAny_cRoomFor hu ?_))
  refine wpAny_bind (I.type.here (wpAny_bind (I.type.here ?_)))
  simp only [bne_self_eq_false, Bool.false_eq_true, if_false]
  refine wpAny_bind (wpAny_pure (wpAny_bind (m := tryCompare (.ref x) _ (.ref x)) (try_same X I T ?_)))
  exact wpAny_pure hq
theorem rc_other {Q : Value → Shared → Prop} (hu : A.units < cLine) (X : K.In s.heap) (I : PySem.W.InstAt s.heap x ox C od) (J : PySem.W.InstAt s.heap y oy C oe) (T : IdC K C) (hxy : x ≠ y) (hq : Q (.bool false) s) : wpAny (model prog w) A (richCompare .Eq (.ref x) (.ref y)) Q E s := by
  simp only [richCompare, cmpInfo_Eq, oneThing_ref]
  refine wpAny_holding (wpAny_bind (wpAny_cRoomFor hu ?_))
  refine wpAny_bind (I.type.here (wpAny_bind (J.type.here ?_)))
  simp only [bne_self_eq_false, Bool.false_eq_true, if_false]
  refine wpAny_bind (wpAny_pure (wpAny_bind (m := tryCompare (.ref x) _ (.ref y)) (try_other X I J T hxy ?_)))
  simp only [Bool.false_eq_true, if_false, Bool.not_false, if_true]
  refine wpAny_bind (m := tryCompare (.ref y) _ (.ref x)) (try_other X J I T hxy.symm ?_)
  exact wpAny_bind (wpAny_rule (wpAny_bind (wpAny_isSame_ref_other hxy I.1 J.1 (inst_nt I) (wpAny_pure hq))))
theorem rc_nr {Q : Value → Shared → Prop} (hu : A.units < cLine) (X : K.In s.heap) (I : PySem.W.InstAt s.heap x ox C od) (T : IdC K C) (hq : Q (.bool false) s) : wpAny (model prog w) A (richCompare .Eq .none (.ref x)) Q E s := by
  have h0 : oneThing? .Eq .none (.ref x) = none := rfl
  simp only [richCompare, cmpInfo_Eq, h0]
  refine wpAny_holding (wpAny_bind (wpAny_cRoomFor hu ?_))
  refine wpAny_bind (wpAny_typeOf (show s.TypeIs .none "NoneType" from rfl) (wpAny_bind (I.type.here ?_)))
  split
  · refine wpAny_bind ((PySem.W.looks_subIn X T.hn).here ?_)
    simp only [Bool.false_eq_true, if_false, Bool.not_false, if_true]
    refine wpAny_bind (m := tryCompare .none _ (.ref x)) (try_nr ?_)
    refine wpAny_bind (m := tryCompare (.ref x) _ .none) (try_rn X I T ?_)
    exact wpAny_bind (wpAny_rule (wpAny_bind (wpAny_of_eq (rfl : isSame .none (.ref x) = pure false) (wpAny_pure hq))))
  · rename_i q
    exact absurd (by simp) q
end
/-- None, or an instance of the class at C -/
def IdV (C : Addr) (H : Hp) (x : V) : Prop := x = .non ∨ ∃ a dx fs, x = .ref a ∧ H a = some (.ins C dx fs)
def rEqId (C : Addr) : R2 := fun x y H Q => IdV C H x ∧ IdV C H y ∧ Q (.bl (decide (x = y))) H
theorem op_eqId {X : Cx} {C : Addr} (T : IdC X.K C) (hu : X.A.units + 64 < cLine) : OpR X (compareOp .Eq) (rEqId C) := by
  intro pins s σ H x y v u Q I rx ry h
  obtain ⟨h1, h2, q⟩ := h
  have hu0 : X.A.units < cLine := by omega
  show wpAny (model X.prog X.w) X.A (richCompare .Eq v u) (EP X pins σ Q) X.xe s
  rcases h1 with rfl | ⟨a, dx, fs, rfl, ha⟩
  · rcases h2 with rfl | ⟨b, dy, gs, rfl, hb⟩
    · exact op_eq pins s σ H .non .non v u Q I rx ry ⟨rfl, q⟩
    · cases rx
      cases ry
      obtain ⟨mA, O, _⟩ := ins_get I.hok hb
      obtain ⟨od, J, _⟩ := O.look
      exact rc_nr hu0 I.kIn J T ⟨.bl false, H, I, rfl, q⟩
  · obtain ⟨mA, O, _⟩ := ins_get I.hok ha
    obtain ⟨od, J, _⟩ := O.look
    rcases h2 with rfl | ⟨b, dy, gs, rfl, hb⟩
    · cases rx
      cases ry
      exact rc_none hu0 I.kIn J T.hm T.he X.prog X.w X.xe _ ⟨.bl false, H, I, rfl, q⟩
    · cases rx
      cases ry
      obtain ⟨mB, O2, _⟩ := ins_get I.hok hb
      obtain ⟨oe, J2, _⟩ := O2.look
      by_cases hab : a = b
      · subst hab
        rw [decide_eq_true rfl] at q
        exact rc_same hu0 I.kIn J T ⟨.bl true, H, I, rfl, q⟩
      · rw [decide_eq_false (fun z => hab (by injection z))] at q
        exact rc_other hu0 I.kIn J J2 T hab ⟨.bl false, H, I, rfl, q⟩
def oEqI (K : PySem.W.Frag) (C : Addr) : R2 := fun x y H Q => oEq K x y H Q ∨ rEqId C x y H Q
theorem op_oEqI {X : Cx} {C : Addr} (T : IdC X.K C) (hu : X.A.units + 64 < cLine) : OpR X (compareOp .Eq) (oEqI X.K C) := op_or (op_oEq hu) (op_eqId T hu)
end Up

set_option Elab.async false
set_option linter.all false
set_option maxRecDepth 100000
set_option maxHeartbeats 4000000
set_option exponentiation.threshold 200000
namespace Up
open PySem PySem.Spec PyProof.Rows L2
local macro_rules | `(tactic| walk_at "u") => `(tactic| first
  | with_reducible refine g_seq ?_
  | with_reducible refine g_asg ?_
  | with_reducible refine g_op ?_
  | ((with_reducible show tVar _ _ _ _); apply g_var; exact rfl)
  | with_reducible refine g_c ?_
  | with_reducible refine g_name ?_
  | with_reducible refine g_ifs ?_
  | with_reducible refine g_tt ?_
  | with_reducible refine g_tB ?_
  | with_reducible refine g_bl ?_
  | with_reducible refine g_ret ?_
  | with_reducible refine g_cb ?_
  | with_reducible refine g_cons ?_
  | with_reducible refine g_nil ?_
  | with_reducible refine g_call ?_
  | with_reducible refine g_and ?_
  | with_reducible refine g_or ?_
  | with_reducible refine g_not ?_
  | with_reducible refine g_andV ?_
  | with_reducible refine g_orV ?_
  | with_reducible refine g_notV ?_
  | with_reducible refine g_if ?_
  | with_reducible refine g_un ?_
  | with_reducible refine g_neg ?_
  | with_reducible refine g_addI ?_
  | with_reducible refine g_subI ?_
  | with_reducible refine g_subB ?_
  | with_reducible refine g_I0 ?_
  | with_reducible refine g_cmpI ?_
  | with_reducible refine g_eqI ?_
  | with_reducible refine g_neI ?_
  | with_reducible refine g_eqS ?_
  | with_reducible refine g_neS ?_
  | with_reducible refine g_eqB ?_
  | with_reducible refine g_neB ?_
  | with_reducible refine g_bits ?_
  | with_reducible refine g_bitsI ?_
  | with_reducible refine g_fld ?_
  | with_reducible refine g_tup ?_
  | with_reducible refine g_lst ?_
  | with_reducible refine g_gtup ?_
  | with_reducible refine g_make ?_
  | with_reducible refine g_lc ?_
  | with_reducible refine g_yesT ?_
  | with_reducible refine g_intI ?_
  | with_reducible refine g_intB ?_
  | with_reducible refine g_max2 ?_
  | with_reducible refine g_abs1 ?_
  | with_reducible refine g_for ?_
  | with_reducible refine g_iList ?_
  | with_reducible refine g_iTup ?_
  | with_reducible refine g_iRng1 ?_
  | with_reducible refine g_iEnum ?_
  | with_reducible refine g_slice ?_
  | with_reducible refine g_po0 ?_
  | with_reducible refine g_po1 ?_
  | with_reducible refine g_gsub ?_
  | with_reducible refine g_par ?_
  | with_reducible refine g_par2 ?_
  | with_reducible refine g_rfl ?_
  | with_reducible refine g_meth ?_
  | with_reducible refine g_gcons ?_
  | with_reducible refine g_gnil ?_
  | with_reducible refine g_gfld ?_
  | with_reducible refine g_sfld ?_
  | with_reducible refine g_drop ?_
  | with_reducible refine g_next ?_
  | with_reducible refine iteT ?_
  | with_reducible refine iteF ?_)
local macro_rules | `(tactic| walk_at "go") => `(tactic| (repeat walk_at "u"))

section
variable {P : Program} {w : World} {K : PySem.W.Frag} {mg : Str → Option Value} {base : Heap} {C : Addr}
/-! ### kinds, Float asked too -/
structure KnF (K : PySem.W.Frag) (C : Addr) (H : Hp) (x : V) (t : Value) (b : Bool) : Prop where
  kn : Kn K H x t
  fl : PySem.W.kitOne K t (.ref C) = some b
theorem KnF.same {H H' : Hp} {x : V} {t : Value} {b : Bool} (h : KnF K C H x t b) (s : Same H H') : KnF K C H' x t b := ⟨h.kn.same s, h.fl⟩
theorem g_isiF {H : Hp} {Q : VK} {x : V} {t : Value} {b : Bool} (h : KnF K C H x t b) (q : Q (.bl b) H) : rIsi K [x, .ref C] H Q := g_isi h.kn.ty (.own _) h.fl q
theorem kf_int (T : FlC K mg C) {H : Hp} {i : Int} : KnF K C H (.int i) (.type "int") false := ⟨kn_int, T.fi⟩
theorem kf_bl (T : FlC K mg C) {H : Hp} {i : Bool} : KnF K C H (.bl i) (.type "bool") false := ⟨kn_bl, T.fb⟩
theorem kf_str (T : FlC K mg C) {H : Hp} {i : Str} : KnF K C H (.str i) (.type "str") false := ⟨kn_str, T.fs⟩
theorem kf_non (T : FlC K mg C) {H : Hp} : KnF K C H .non (.type "NoneType") false := ⟨kn_non, T.fn⟩
theorem kf_fl (T : FlC K mg C) {H : Hp} {a : Addr} {s : Int} {t : V} {p : Int} (h : FlAt C H a s t p) : KnF K C H (.ref a) (.ref C) true := by
  obtain ⟨dx, h⟩ := h
  exact ⟨kn_ins T.own h, T.yes⟩
def isF : Nm → Bool
  | .i _ => false
  | .f _ _ _ => true
theorem NumAt.kf (T : FlC K mg C) {H : Hp} {v : V} : ∀ {n : Nm}, NumAt C H v n → ∃ t, KnF K C H v t (isF n) ∧ isI v = !isF n ∧ isB v = false
  | .i n, h => by
    have h : v = .int n := h
    subst h
    exact ⟨_, kf_int T, rfl, rfl⟩
  | .f s t p, ⟨a, e, h, _⟩ => by
    subst e
    exact ⟨_, kf_fl T h, rfl, rfl⟩
/-! to_float -/
theorem sc_tofloat : FnScope ["number"] ["number"] (defScope s_tofloat) := ⟨rfl, rfl, rfl, by decide +kernel, rfl, by decide +kernel, by decide +kernel⟩
def bigOk (k : Int) : Prop := k.natAbs < 2 ^ 5000
/-- the float of an int: sign, top, power -/
def tfS (k : Int) : Int := if k < 0 then -1 else 1
def tfR (k : Int) : V × Int := redV (nearV k.natAbs 1).1 (nearV k.natAbs 1).2
def sp_tofloat (C : Addr) : Sp := fun vs H Q _ => ∃ v n, vs = [v] ∧ NumAt C H v n ∧ match n with
  | .f _ _ _ => Q v H
  | .i k => bigOk k ∧ RetF C H (tfS k) (tfR k).1 (tfR k).2 Q
theorem ok_tofloat {f : Addr} {fd : FuncData} (F : FunD K "to_float" "to_float" (defArgs s_tofloat) (defBody s_tofloat) (defScope s_tofloat) [] [] f fd) (B : Blt mg) (T : FlC K mg C) (c_nearest : Fn P w K mg base CX0 5 "nearest" ["sign", "top", "bottom"] [] (sp_nearest C)) (c_signof : Fn P w K mg base CX0 1 "sign_of" ["is_negative"] [] sp_signof) :
    FnOk P w K mg base CX0 6 f fd ["number"] (sp_tofloat C) := by
  have g_Float : mg "Float" = some (.ref C) := T.mg
  refine F.ok sc_tofloat (fun vs H Q E h => ?_) (fun cdv A outer s H vs Q E hr h => ?_)
  · obtain ⟨x, n, rfl, _⟩ := h; rfl
  · obtain ⟨x, n, rfl, hn, q⟩ := h
    refine ⟨_, PSs.nox (pss_cons (ps_if (pt_val (pe_callB call_isi (by rfl) B.isinstance (by decide +kernel) (pa_cons (pv 0) (pa_cons (pe_gref g_Float) pa_nil)))) (pss_one (ps_ret (pv 0))) pss_nil)
  (pss_one (ps_ret (pe_fn c_nearest (hr.mono (by first | decide | omega)) pass0 (pa_cons (pe_fn c_signof (hr.mono (by first | decide | omega)) pass0 (pa_cons (pe_cmpR op_oLt (pv 0) pe_int (nomark _)) pa_nil)) (pa_cons (pe_callB call_abs (by rfl) B.abs (by decide +kernel) (pa_cons (pv 0) pa_nil)) (pa_cons pe_int pa_nil))))))), ?_⟩
    obtain ⟨t, hk, _, _⟩ := hn.kf T
    walk_at "go"
    refine g_isiF hk ?_
    walk_at "go"
    cases n with
    | f sg tp p =>
      refine iteT ?_
      walk_at "go"
      exact q
    | i k =>
      have hn : x = .int k := hn
      subst hn
      obtain ⟨hb, q⟩ := q
      refine iteF ?_
      walk_at "go"
      refine ⟨_, rfl, ?_⟩
      walk_at "go"
      have e1 : sgnB (decide (k < 0)) = tfS k := by unfold sgnB tfS; by_cases h : k < 0 <;> simp [h]
      have e2 : (if k < 0 then -k else k) = (k.natAbs : Int) := by split <;> omega
      rw [e1, e2]
      refine ⟨tfS k, k.natAbs, 1, rfl, by unfold tfS; split <;> simp, by decide, Nat.le_trans (bits_le hb) (by decide), by decide, q⟩
theorem mul_small {i j : Int} (hi : i.natAbs < 2 ^ 100000) (hj : j.natAbs < 2 ^ 100000) : IntMulOk i j := (mulx_ok hi hj (by decide)).ok
theorem natAbs_mul_lt {x y : Int} {a b : Nat} (hx : x.natAbs < 2 ^ a) (hy : y.natAbs < 2 ^ b) : (x * y).natAbs < 2 ^ (a + b) := by
  rw [Int.natAbs_mul, Nat.pow_add]
  exact Nat.mul_lt_mul'' hx hy
theorem sgn_abs {s : Int} (hs : s = 1 ∨ s = -1) (x : Int) : (s * x).natAbs = x.natAbs := by
  rw [Int.natAbs_mul]; rcases hs with rfl | rfl <;> simp
theorem tf_mk (k : Int) : MkOk (tfS k) (nearV k.natAbs 1).1 (nearV k.natAbs 1).2 := near_mk (by unfold tfS; split <;> simp) (by decide)
/-- a float made again of its own parts -/
theorem mk_again {s : Int} {t : V} {p : Int} (h : FlOk s t p) : MkOk s t p := by
  obtain ⟨hs, h⟩ := h
  rcases h with ⟨rfl, h1, rfl⟩ | ⟨rfl, rfl⟩ | ⟨n, rfl, f1, f2, f3, f4, f5⟩
  · exact ⟨hs, .inl ⟨rfl, h1, rfl⟩⟩
  · exact ⟨hs, .inr (.inl ⟨rfl, rfl⟩)⟩
  · obtain ⟨k, rfl⟩ := Int.eq_ofNat_of_zero_le f1
    rw [intBits_nat] at f4
    exact mk_of_flok hs (by omega) f3 f4
theorem small64 {k : Int} (h1 : -(2 ^ 65) ≤ k) (h2 : k ≤ 2 ^ 65) : k.natAbs < 2 ^ 1000 := lt_pow_mono (a := 66) (by omega) (by decide)
theorem big64 {k : Int} (h1 : -(2 ^ 65) ≤ k) (h2 : k ≤ 2 ^ 65) : bigOk k := lt_pow_mono (a := 66) (by omega) (by decide)
end
end Up

set_option Elab.async false
set_option linter.all false
set_option maxRecDepth 100000
set_option maxHeartbeats 4000000
set_option exponentiation.threshold 200000
namespace Up
open PySem PySem.Spec PyProof.Rows L2
local macro_rules | `(tactic| walk_at "u") => `(tactic| first
  | with_reducible refine g_seq ?_
  | with_reducible refine g_asg ?_
  | with_reducible refine g_op ?_
  | ((with_reducible show tVar _ _ _ _); apply g_var; exact rfl)
  | with_reducible refine g_c ?_
  | with_reducible refine g_name ?_
  | with_reducible refine g_ifs ?_
  | with_reducible refine g_tt ?_
  | with_reducible refine g_tB ?_
  | with_reducible refine g_bl ?_
  | with_reducible refine g_ret ?_
  | with_reducible refine g_cb ?_
  | with_reducible refine g_cons ?_
  | with_reducible refine g_nil ?_
  | with_reducible refine g_call ?_
  | with_reducible refine g_and ?_
  | with_reducible refine g_or ?_
  | with_reducible refine g_not ?_
  | with_reducible refine g_andV ?_
  | with_reducible refine g_orV ?_
  | with_reducible refine g_notV ?_
  | with_reducible refine g_if ?_
  | with_reducible refine g_un ?_
  | with_reducible refine g_neg ?_
  | with_reducible refine g_addI ?_
  | with_reducible refine g_subI ?_
  | with_reducible refine g_subB ?_
  | with_reducible refine g_I0 ?_
  | with_reducible refine g_cmpI ?_
  | with_reducible refine g_eqI ?_
  | with_reducible refine g_neI ?_
  | with_reducible refine g_eqS ?_
  | with_reducible refine g_neS ?_
  | with_reducible refine g_eqB ?_
  | with_reducible refine g_neB ?_
  | with_reducible refine g_bits ?_
  | with_reducible refine g_bitsI ?_
  | with_reducible refine g_fld ?_
  | with_reducible refine g_tup ?_
  | with_reducible refine g_lst ?_
  | with_reducible refine g_gtup ?_
  | with_reducible refine g_make ?_
  | with_reducible refine g_lc ?_
  | with_reducible refine g_yesT ?_
  | with_reducible refine g_intI ?_
  | with_reducible refine g_intB ?_
  | with_reducible refine g_max2 ?_
  | with_reducible refine g_abs1 ?_
  | with_reducible refine g_for ?_
  | with_reducible refine g_iList ?_
  | with_reducible refine g_iTup ?_
  | with_reducible refine g_iRng1 ?_
  | with_reducible refine g_iEnum ?_
  | with_reducible refine g_slice ?_
  | with_reducible refine g_po0 ?_
  | with_reducible refine g_po1 ?_
  | with_reducible refine g_gsub ?_
  | with_reducible refine g_par ?_
  | with_reducible refine g_par2 ?_
  | with_reducible refine g_rfl ?_
  | with_reducible refine g_meth ?_
  | with_reducible refine g_gcons ?_
  | with_reducible refine g_gnil ?_
  | with_reducible refine g_gfld ?_
  | with_reducible refine g_sfld ?_
  | with_reducible refine g_drop ?_
  | with_reducible refine g_next ?_
  | with_reducible refine iteT ?_
  | with_reducible refine iteF ?_)
local macro_rules | `(tactic| walk_at "go") => `(tactic| (repeat walk_at "u"))

section
variable {P : Program} {w : World} {K : PySem.W.Frag} {mg : Str → Option Value} {base : Heap} {C : Addr}
/-! is_number -/
theorem sc_isnumber : FnScope ["thing"] ["thing"] (defScope s_isnumber) := ⟨rfl, rfl, rfl, by decide +kernel, rfl, by decide +kernel, by decide +kernel⟩
def sp_isnumber (K : PySem.W.Frag) (C : Addr) : Sp := fun vs H Q _ => ∃ x t b, vs = [x] ∧ KnF K C H x t b ∧ Q (.bl (b || isI x)) H
theorem ok_isnumber {f : Addr} {fd : FuncData} (F : FunD K "is_number" "is_number" (defArgs s_isnumber) (defBody s_isnumber) (defScope s_isnumber) [] [] f fd) (B : Blt mg) (T : FlC K mg C) (c_isplain : Fn P w K mg base CX0 1 "is_plain" ["number"] [] (sp_isplain K)) : FnOk P w K mg base CX0 2 f fd ["thing"] (sp_isnumber K C) := by
  have g_Float : mg "Float" = some (.ref C) := T.mg
  refine F.ok sc_isnumber (fun vs H Q E h => ?_) (fun cdv A outer s H vs Q E hr h => ?_)
  · obtain ⟨x, t, b, rfl, _⟩ := h; rfl
  · obtain ⟨x, t, b, rfl, hk, q⟩ := h
    refine ⟨_, PSs.nox (pss_one (ps_ret (pe_or (pe_callB call_isi (by rfl) B.isinstance (by decide +kernel) (pa_cons (pv 0) (pa_cons (pe_gref g_Float) pa_nil))) (pe_one (pe_fn c_isplain (hr.mono (by first | decide | omega)) pass0 (pa_cons (pv 0) pa_nil)))))), ?_⟩
    walk_at "go"
    refine g_isiF hk ?_
    walk_at "go"
    cases b
    · refine iteF ?_
      walk_at "go"
      exact ⟨x, t, rfl, hk.kn, q⟩
    · refine iteT ?_
      exact q
/-! place_of -/
theorem sc_placeof0 : FnScope ["number"] ["number"] (defScope s_placeof0) := ⟨rfl, rfl, rfl, by decide +kernel, rfl, by decide +kernel, by decide +kernel⟩
def plc : Nm → Option (Int × Int)
  | .i k => some (k, 1)
  | .f s (.int m) p => some (ratN s m p, ratD p)
  | .f s (.str x) _ => if x = "nan" then none else some (s * 2 ^ 1025, 1)
  | .f _ _ _ => none
def RetO (H : Hp) (o : Option (Int × Int)) (Q : VK) : Prop := match o with
  | none => ∀ H', Same H H' → Q .non H'
  | some (x, y) => RetT H [.int x, .int y] Q
def sp_placeof (C : Addr) : Sp := fun vs H Q _ => ∃ v n, vs = [v] ∧ NumAt C H v n ∧ RetO H (plc n) Q
theorem ok_placeof {f : Addr} {fd : FuncData} (F : FunD K "place_of" "place_of" (defArgs s_placeof0) (defBody s_placeof0) (defScope s_placeof0) [] [] f fd) (B : Blt mg) (T : FlC K mg C) (i_TOO_GREAT : ∃ t, mg "TOO_GREAT" = some (.int 1024 t)) (c_isfinite : Mt P w K mg base CX0 1 C "is_finite" ["self"] (sp_isfinite C)) (c_ratio : Mt P w K mg base CX0 1 C "ratio" ["self"] (sp_ratio C)) :
    FnOk P w K mg base CX0 2 f fd ["number"] (sp_placeof C) := by
  have g_Float : mg "Float" = some (.ref C) := T.mg
  refine F.ok sc_placeof0 (fun vs H Q E h => ?_) (fun cdv A outer s H vs Q E hr h => ?_)
  · obtain ⟨x, n, rfl, _⟩ := h; rfl
  · obtain ⟨x, n, rfl, hn, q⟩ := h
    refine ⟨_, PSs.nox (pss_cons (ps_if (pt_not (pt_val (pe_callB call_isi (by rfl) B.isinstance (by decide +kernel) (pa_cons (pv 0) (pa_cons (pe_gref g_Float) pa_nil))))) (pss_one (ps_ret (pe_tupN (pa_cons (pv 0) (pa_cons pe_int pa_nil))))) pss_nil)
  (pss_cons (ps_if (pt_val (pe_mt0 c_isfinite (hr.mono (by first | decide | omega)) pass0 (pv 0))) (pss_one (ps_ret (pe_mt0 c_ratio (hr.mono (by first | decide | omega)) pass0 (pv 0)))) pss_nil)
  (pss_one (ps_ret (pe_ifExp (pt_cmpR (op_oEq hr.units) (pe_fld (pv 0) rfl) pe_str (nomark _)) pe_non (pe_tupN (pa_cons (pe_op op_oShl (pe_fld (pv 0) rfl) (pe_op op_oAdd (pe_gint i_TOO_GREAT) pe_int)) (pa_cons pe_int pa_nil)))))))), ?_⟩
    obtain ⟨t, hk, _, _⟩ := hn.kf T
    walk_at "go"
    refine g_isiF hk ?_
    walk_at "go"
    cases n with
    | i k =>
      have hn : x = .int k := hn
      subst hn
      refine iteT ?_
      walk_at "go"
      exact g_new (sz rfl) fun a H1 na s1 ha _ => q _ _ na s1 ha
    | f sg tp p =>
      obtain ⟨a, rfl, hf, ho⟩ := hn
      refine iteF ?_
      walk_at "go"
      obtain ⟨dx, hd⟩ := id hf
      refine ⟨a, dx, _, rfl, hd, rfl, ?_⟩
      walk_at "go"
      refine ⟨a, sg, tp, p, rfl, hf, ho, ?_⟩
      walk_at "go"
      rcases id ho.2 with ⟨rfl, _, _⟩ | ⟨rfl, _⟩ | ⟨m, rfl, hfin⟩
      · refine iteF ?_
        walk_at "go"
        refine ⟨a, C, dx, _, _, rfl, hd, T.own.cl, T.nT, fl_top _ _ _, ?_⟩
        walk_at "go"
        refine g_yes rfl ?_
        walk_at "go"
        exact q H (Same.refl _)
      · refine iteF ?_
        walk_at "go"
        refine ⟨a, C, dx, _, _, rfl, hd, T.own.cl, T.nT, fl_top _ _ _, ?_⟩
        walk_at "go"
        refine g_no (by decide +kernel) ?_
        walk_at "go"
        refine ⟨a, C, dx, _, _, rfl, hd, T.own.cl, T.nS, fl_sign _ _ _, ?_⟩
        walk_at "go"
        refine g_II (shl_small (by decide) (by decide) (by rcases ho.1 with rfl | rfl <;> exact lt_pow_mono (a := 1) (by decide) (by decide))) ?_
        walk_at "go"
        have e : plc (.f sg (.str "inf") p) = some (sg * 2 ^ 1025, 1) := by
          show (if ("inf" : Str) = "nan" then none else some (sg * 2 ^ 1025, (1 : Int))) = _
          rw [if_neg (by decide +kernel)]
        rw [e] at q
        exact g_new (sz rfl) fun b H1 nb s1 hb _ => q _ _ nb s1 hb
      · refine iteT ?_
        walk_at "go"
        refine ⟨a, dx, _, rfl, hd, rfl, ?_⟩
        walk_at "go"
        exact ⟨a, sg, m, p, rfl, hf, ho, q⟩
/-! order_of -/
theorem sc_orderof : FnScope ["one", "other", "first", "second", "gap"] ["one", "other"] (defScope s_orderof) := ⟨rfl, rfl, rfl, by decide +kernel, rfl, by decide +kernel, by decide +kernel⟩
def gapO : Option (Int × Int) → Option (Int × Int) → Option Int
  | some (a, b), some (c, d) => some (a * d - c * b)
  | _, _ => none
def ordN (n m : Nm) : Option Int := (gapO (plc n) (plc m)).map fun g => b2i (decide (0 < g)) - b2i (decide (g < 0))
def oV : Option Int → V
  | none => .non
  | some i => .int i
def nOk : Nm → Prop
  | .i k => bigOk k
  | .f s t p => FlOk s t p
theorem plc_small {n : Nm} (h : nOk n) : ∀ x y, plc n = some (x, y) → x.natAbs < 2 ^ 5000 ∧ y.natAbs < 2 ^ 5000 ∧ 0 < y := by
  intro x y e
  cases n with
  | i k =>
    have e : some (k, (1 : Int)) = some (x, y) := e
    injection e with e
    injection e with e1 e2
    subst e1 e2
    exact ⟨h, lt_pow_mono (a := 1) (by decide) (by decide), by decide⟩
  | f s t p =>
    obtain ⟨hs, h2⟩ := id h
    rcases h2 with ⟨rfl, _, _⟩ | ⟨rfl, _⟩ | ⟨m, rfl, hf⟩
    · have e : (if ("nan" : Str) = "nan" then none else some (s * 2 ^ 1025, (1 : Int))) = some (x, y) := e
      rw [if_pos rfl] at e
      cases e
    · have e : (if ("inf" : Str) = "nan" then none else some (s * 2 ^ 1025, (1 : Int))) = some (x, y) := e
      rw [if_neg (by decide +kernel)] at e
      injection e with e
      injection e with e1 e2
      subst e1 e2
      refine ⟨?_, lt_pow_mono (a := 1) (by decide) (by decide), by decide⟩
      rw [sgn_abs hs, Int.natAbs_pow]
      exact Nat.pow_lt_pow_right (by decide) (by decide)
    · have e : some (ratN s m p, ratD p) = some (x, y) := e
      injection e with e
      injection e with e1 e2
      subst e1 e2
      have hhi := hf.hi
      obtain ⟨f1, f2, f3, f4, f5⟩ := hf
      have hm : m.natAbs < 2 ^ 53 := by omega
      unfold ratN ratD
      by_cases hp : p < 0
      · rw [if_pos hp, if_pos hp, sgn_abs hs]
        refine ⟨lt_pow_mono hm (by decide), ?_, Int.pow_pos (by decide)⟩
        rw [Int.natAbs_pow]
        exact Nat.pow_lt_pow_right (by decide) (by omega)
      · rw [if_neg hp, if_neg hp, sgn_abs hs]
        refine ⟨?_, lt_pow_mono (a := 1) (by decide) (by decide), by decide⟩
        rw [Int.natAbs_mul, Int.natAbs_pow]
        have h1 : m.natAbs * Int.natAbs 2 ^ p.toNat < 2 ^ 53 * 2 ^ p.toNat := Nat.mul_lt_mul_of_pos_right hm (Nat.two_pow_pos _)
        rw [← Nat.pow_add] at h1
        exact lt_pow_mono h1 (by omega)
def sp_orderof (C : Addr) : Sp := fun vs H Q _ => ∃ v u n m, vs = [v, u] ∧ NumAt C H v n ∧ NumAt C H u m ∧ nOk n ∧ nOk m ∧ ∀ H', Same H H' → Q (oV (ordN n m)) H'
theorem ok_orderof {f : Addr} {fd : FuncData} (F : FunD K "order_of" "order_of" (defArgs s_orderof) (defBody s_orderof) (defScope s_orderof) [] [] f fd) (B : Blt mg) (c_placeofnumbers : Fn P w K mg base CX0 2 "place_of_numbers" ["number"] [] (sp_placeof C)) : FnOk P w K mg base CX0 3 f fd ["one", "other"] (sp_orderof C) := by
  refine F.ok sc_orderof (fun vs H Q E h => ?_) (fun cdv A outer s H vs Q E hr h => ?_)
  · obtain ⟨_, _, _, _, rfl, _⟩ := h; rfl
  · obtain ⟨v, u, n, m, rfl, hn, hm, on, om, q⟩ := h
    refine ⟨_, PSs.nox (pss_cons (ps_par (i := 2) (j := 3) rfl sc_orderof.nd rfl rfl (by decide) rfl rfl (pa_cons (pe_fn c_placeofnumbers (hr.mono (by first | decide | omega)) pass0 (pa_cons (pv 0) pa_nil)) (pa_cons (pe_fn c_placeofnumbers (hr.mono (by first | decide | omega)) pass0 (pa_cons (pv 1) pa_nil)) pa_nil)) (by rfl))
  (pss_cons (ps_if (PW.pt (pw_or (pt_cmpR op_isN (pv 2) pe_non (nomark _)) (pw_or1 (pt_cmpR op_isN (pv 3) pe_non (nomark _))))) (pss_one (ps_ret pe_non)) pss_nil)
  (pss_cons (ps_set (i := 4) sc_orderof.nd rfl (Or.inl rfl) (pe_op op_oSub (pe_op op_oMul (pe_ix ix_seq (pv 2) pe_int (fun _ _ => rfl)) (pe_ix ix_seq (pv 3) pe_int (fun _ _ => rfl))) (pe_op op_oMul (pe_ix ix_seq (pv 3) pe_int (fun _ _ => rfl)) (pe_ix ix_seq (pv 2) pe_int (fun _ _ => rfl)))))
  (pss_one (ps_ret (pe_op op_oSub (pe_cmpR op_oGt (pv 4) pe_int (nomark _)) (pe_cmpR op_oLt (pv 4) pe_int (nomark _)))))))), ?_⟩
    walk_at "go"
    refine ⟨v, n, rfl, hn, ?_⟩
    unfold ordN at q
    have sn := plc_small on
    have sm := plc_small om
    cases en : plc n with
    | none =>
      rw [en] at q
      intro H1 s1
      walk_at "go"
      refine ⟨u, m, rfl, hm.same s1, ?_⟩
      cases em : plc m with
      | none =>
        intro H2 s2
        walk_at "go"
        refine g_yes rfl ?_
        walk_at "go"
        exact q _ (s1.trans s2)
      | some xy =>
        intro H2 a2 na2 s2 ha2
        walk_at "go"
        refine g_yes rfl ?_
        walk_at "go"
        exact q _ (s1.trans s2)
    | some xy =>
      rw [en] at q
      intro H1 a1 na1 s1 ha1
      walk_at "go"
      refine ⟨u, m, rfl, hm.same s1, ?_⟩
      cases em : plc m with
      | none =>
        rw [em] at q
        intro H2 s2
        walk_at "go"
        refine g_no (fun z => nomatch z) ?_
        walk_at "go"
        refine g_yes rfl ?_
        walk_at "go"
        exact q _ (s1.trans s2)
      | some zw =>
        rw [em] at q
        intro H2 a2 na2 s2 ha2
        obtain ⟨p1, p2, p3⟩ := sn _ _ en
        obtain ⟨r1, r2, r3⟩ := sm _ _ em
        have hb := s2 _ _ ha1
        walk_at "go"
        refine g_no (fun z => nomatch z) ?_
        walk_at "go"
        refine g_no (fun z => nomatch z) ?_
        walk_at "go"
        refine g_ixT hb rfl ?_
        walk_at "go"
        refine g_ixT ha2 rfl ?_
        refine g_mulI (mul_small (lt_pow_mono p1 (by decide)) (lt_pow_mono r2 (by decide))) ?_
        walk_at "go"
        refine g_ixT ha2 rfl ?_
        walk_at "go"
        refine g_ixT hb rfl ?_
        refine g_mulI (mul_small (lt_pow_mono r1 (by decide)) (lt_pow_mono p2 (by decide))) ?_
        walk_at "go"
        exact q _ (s1.trans s2)
/-! compare -/
theorem sc_compare : FnScope ["word", "one", "other", "order"] ["word", "one", "other"] (defScope s_compare) := ⟨rfl, rfl, rfl, by decide +kernel, rfl, by decide +kernel, by decide +kernel⟩
def cmpN (x : Str) (n m : Nm) : Bool := match ordN n m with
  | none => false
  | some o => if x = "lt" then decide (o < 0) else decide (o ≤ 0)
def sp_compare (C : Addr) : Sp := fun vs H Q _ => ∃ x v u n m, vs = [.str x, v, u] ∧ NumAt C H v n ∧ NumAt C H u m ∧ nOk n ∧ nOk m ∧ ∀ H', Same H H' → Q (.bl (cmpN x n m)) H'
theorem ok_compare {f : Addr} {fd : FuncData} (F : FunD K "compare" "compare" (defArgs s_compare) (defBody s_compare) (defScope s_compare) [] [] f fd) (B : Blt mg) (c_orderof : Fn P w K mg base CX0 3 "order_of" ["one", "other"] [] (sp_orderof C)) : FnOk P w K mg base CX0 4 f fd ["word", "one", "other"] (sp_compare C) := by
  refine F.ok sc_compare (fun vs H Q E h => ?_) (fun cdv A outer s H vs Q E hr h => ?_)
  · obtain ⟨_, _, _, _, _, rfl, _⟩ := h; rfl
  · obtain ⟨x, v, u, n, m, rfl, hn, hm, on, om, q⟩ := h
    refine ⟨_, PSs.nox (pss_cons (ps_set (i := 3) sc_compare.nd rfl (Or.inl rfl) (pe_fn c_orderof (hr.mono (by first | decide | omega)) pass0 (pa_cons (pv 1) (pa_cons (pv 2) pa_nil))))
  (pss_cons (ps_if (pt_cmpR op_isN (pv 3) pe_non (nomark _)) (pss_one (ps_ret pe_bl)) pss_nil)
  (pss_one (ps_ret (pe_ifExp (pt_cmpR (op_oEq hr.units) (pv 0) pe_str (nomark _)) (pe_cmpR op_oLt (pv 3) pe_int (nomark _)) (pe_cmpR op_oLe (pv 3) pe_int (nomark _))))))), ?_⟩
    walk_at "go"
    refine ⟨v, u, n, m, rfl, hn, hm, on, om, fun H1 s1 => ?_⟩
    walk_at "go"
    unfold cmpN at q
    cases eo : ordN n m with
    | none =>
      rw [eo] at q
      refine g_yes rfl ?_
      walk_at "go"
      exact q _ s1
    | some o =>
      rw [eo] at q
      refine g_no (fun z => nomatch z) ?_
      walk_at "go"
      refine g_ite (fun hx => ?_) fun hx => ?_
      · walk_at "go"
        have q' := q _ s1
        simp only [hx, if_true] at q'
        exact q'
      · walk_at "go"
        have q' := q _ s1
        simp only [hx, if_false] at q'
        exact q'
end
end Up

set_option Elab.async false
set_option linter.all false
set_option maxRecDepth 100000
set_option maxHeartbeats 4000000
set_option exponentiation.threshold 200000
namespace Up
open PySem PySem.Spec PyProof.Rows L2
local macro_rules | `(tactic| walk_at "u") => `(tactic| first
  | with_reducible refine g_seq ?_
  | with_reducible refine g_asg ?_
  | with_reducible refine g_op ?_
  | ((with_reducible show tVar _ _ _ _); apply g_var; exact rfl)
  | with_reducible refine g_c ?_
  | with_reducible refine g_name ?_
  | with_reducible refine g_ifs ?_
  | with_reducible refine g_tt ?_
  | with_reducible refine g_tB ?_
  | with_reducible refine g_bl ?_
  | with_reducible refine g_ret ?_
  | with_reducible refine g_cb ?_
  | with_reducible refine g_cons ?_
  | with_reducible refine g_nil ?_
  | with_reducible refine g_call ?_
  | with_reducible refine g_and ?_
  | with_reducible refine g_or ?_
  | with_reducible refine g_not ?_
  | with_reducible refine g_andV ?_
  | with_reducible refine g_orV ?_
  | with_reducible refine g_notV ?_
  | with_reducible refine g_if ?_
  | with_reducible refine g_un ?_
  | with_reducible refine g_neg ?_
  | with_reducible refine g_addI ?_
  | with_reducible refine g_subI ?_
  | with_reducible refine g_subB ?_
  | with_reducible refine g_I0 ?_
  | with_reducible refine g_cmpI ?_
  | with_reducible refine g_eqI ?_
  | with_reducible refine g_neI ?_
  | with_reducible refine g_eqS ?_
  | with_reducible refine g_neS ?_
  | with_reducible refine g_eqB ?_
  | with_reducible refine g_neB ?_
  | with_reducible refine g_bits ?_
  | with_reducible refine g_bitsI ?_
  | with_reducible refine g_fld ?_
  | with_reducible refine g_tup ?_
  | with_reducible refine g_lst ?_
  | with_reducible refine g_gtup ?_
  | with_reducible refine g_make ?_
  | with_reducible refine g_lc ?_
  | with_reducible refine g_yesT ?_
  | with_reducible refine g_intI ?_
  | with_reducible refine g_intB ?_
  | with_reducible refine g_max2 ?_
  | with_reducible refine g_abs1 ?_
  | with_reducible refine g_for ?_
  | with_reducible refine g_iList ?_
  | with_reducible refine g_iTup ?_
  | with_reducible refine g_iRng1 ?_
  | with_reducible refine g_iEnum ?_
  | with_reducible refine g_slice ?_
  | with_reducible refine g_po0 ?_
  | with_reducible refine g_po1 ?_
  | with_reducible refine g_gsub ?_
  | with_reducible refine g_par ?_
  | with_reducible refine g_par2 ?_
  | with_reducible refine g_rfl ?_
  | with_reducible refine g_meth ?_
  | with_reducible refine g_gcons ?_
  | with_reducible refine g_gnil ?_
  | with_reducible refine g_gfld ?_
  | with_reducible refine g_sfld ?_
  | with_reducible refine g_drop ?_
  | with_reducible refine g_next ?_
  | with_reducible refine iteT ?_
  | with_reducible refine iteF ?_)
local macro_rules | `(tactic| walk_at "go") => `(tactic| (repeat walk_at "u"))

section
variable {P : Program} {w : World} {K : PySem.W.Frag} {mg : Str → Option Value} {base : Heap} {C : Addr}
/-! same -/
theorem sc_same : FnScope ["one", "other"] ["one", "other"] (defScope s_same) := ⟨rfl, rfl, rfl, by decide +kernel, rfl, by decide +kernel, by decide +kernel⟩
/-- the values that same is asked of: a number, or another one of a known kind -/
inductive Any where
  | num (n : Nm)
  | non
  | bl (b : Bool)
  | str (x : Str)
  | obj (a : Addr)
def AnyAt (C D : Addr) (H : Hp) (v : V) : Any → Prop
  | .num n => NumAt C H v n ∧ nOk n
  | .non => v = .non
  | .bl b => v = .bl b
  | .str x => v = .str x
  | .obj a => v = .ref a ∧ ∃ dx fs, H a = some (.ins D dx fs)
theorem AnyAt.same {D : Addr} {H H' : Hp} {v : V} (s : Same H H') : ∀ {x : Any}, AnyAt C D H v x → AnyAt C D H' v x
  | .num _, ⟨h, o⟩ => ⟨h.same s, o⟩
  | .non, h => h
  | .bl _, h => h
  | .str _, h => h
  | .obj _, ⟨e, dx, fs, h⟩ => ⟨e, dx, fs, s _ _ h⟩
def sameA : Any → Any → Bool
  | .num n, .num m => decide (ordN n m = some 0)
  | .non, .non => true
  | .bl a, .bl b => decide (a = b)
  | .str a, .str b => decide (a = b)
  | .obj a, .obj b => decide (a = b)
  | _, _ => false
/-- the other class (tables), at D: no Float -/
structure ObC (K : PySem.W.Frag) (C D : Addr) : Prop where
  own : OwnC K D
  nf : PySem.W.kitOne K (.ref D) (.ref C) = some false
def isNumA : Any → Bool
  | .num _ => true
  | _ => false
theorem AnyAt.kf {D : Addr} (T : FlC K mg C) (O : ObC K C D) {H : Hp} {v : V} : ∀ {x : Any}, AnyAt C D H v x → ∃ t b, KnF K C H v t b ∧ (b || isI v) = isNumA x
  | .num n, ⟨h, _⟩ => by
    obtain ⟨t, hk, hi, _⟩ := h.kf T
    exact ⟨t, _, hk, by rw [hi]; cases n <;> rfl⟩
  | .non, h => by
    have h : v = .non := h
    subst h
    exact ⟨_, _, kf_non T, rfl⟩
  | .bl _, h => by
    have h : v = .bl _ := h
    subst h
    exact ⟨_, _, kf_bl T, rfl⟩
  | .str _, h => by
    have h : v = .str _ := h
    subst h
    exact ⟨_, _, kf_str T, rfl⟩
  | .obj _, ⟨e, dx, fs, h⟩ => by
    subst e
    exact ⟨_, _, ⟨kn_ins O.own h, O.nf⟩, rfl⟩
theorem same_no {D : Addr} {H : Hp} {v u : V} : ∀ {x y : Any}, AnyAt C D H v x → AnyAt C D H u y → isNumA x = false → isNumA y = false → (isB v ≠ isB u ∨ isS v ≠ isS u) → sameA x y = false := by
  intro x y hx hy nx ny h
  cases x with
  | num _ => cases nx
  | non => cases y <;> first | rfl | exact Bool.noConfusion ny | (cases (show v = _ from hx); cases (show u = _ from hy); rcases h with h | h <;> exact absurd rfl h)
  | bl _ => cases y <;> first | rfl | exact Bool.noConfusion ny | (cases (show v = _ from hx); cases (show u = _ from hy); rcases h with h | h <;> exact absurd rfl h)
  | str _ => cases y <;> first | rfl | exact Bool.noConfusion ny | (cases (show v = _ from hx); cases (show u = _ from hy); rcases h with h | h <;> exact absurd rfl h)
  | obj _ => cases y <;> first | rfl | exact Bool.noConfusion ny | (cases hx.1; cases hy.1; rcases h with h | h <;> exact absurd rfl h)
theorem same_eq {D : Addr} {H : Hp} {Q : VK} {v u : V} {x y : Any} (hx : AnyAt C D H v x) (hy : AnyAt C D H u y) (nx : isNumA x = false) (ny : isNumA y = false) (hb : isB v = isB u) (hs : isS v = isS u) (q : Q (.bl (sameA x y)) H) : oEqI K D v u H Q := by
  cases x with
  | num _ => cases nx
  | non =>
    cases (show v = _ from hx)
    cases y with
    | num _ => cases ny
    | non => cases (show u = _ from hy); exact .inr ⟨.inl rfl, .inl rfl, q⟩
    | bl _ => cases (show u = _ from hy); cases hb
    | str _ => cases (show u = _ from hy); cases hs
    | obj _ => obtain ⟨rfl, dx, fs, h⟩ := hy; exact .inr ⟨.inl rfl, .inr ⟨_, dx, fs, rfl, h⟩, q⟩
  | bl _ =>
    cases (show v = _ from hx)
    cases y with
    | num _ => cases ny
    | non => cases (show u = _ from hy); cases hb
    | bl _ => cases (show u = _ from hy); exact .inl (g_eqB q)
    | str _ => cases (show u = _ from hy); cases hs
    | obj _ => obtain ⟨rfl, dx, fs, h⟩ := hy; cases hb
  | str _ =>
    cases (show v = _ from hx)
    cases y with
    | num _ => cases ny
    | non => cases (show u = _ from hy); cases hs
    | bl _ => cases (show u = _ from hy); cases hb
    | str _ => cases (show u = _ from hy); exact .inl (g_eqS q)
    | obj _ => obtain ⟨rfl, dx, fs, h⟩ := hy; cases hs
  | obj a =>
    obtain ⟨rfl, dx, fs, h⟩ := hx
    cases y with
    | num _ => cases ny
    | non => cases (show u = _ from hy); exact .inr ⟨.inr ⟨_, dx, fs, rfl, h⟩, .inl rfl, q⟩
    | bl _ => cases (show u = _ from hy); cases hb
    | str _ => cases (show u = _ from hy); cases hs
    | obj b =>
      obtain ⟨rfl, dy, gs, h2⟩ := hy
      refine .inr ⟨.inr ⟨_, dx, fs, rfl, h⟩, .inr ⟨_, dy, gs, rfl, h2⟩, ?_⟩
      have e : decide (V.ref a = V.ref b) = decide (a = b) := by simp
      rw [e]; exact q
theorem same_mix {x y : Any} (h : isNumA x ≠ isNumA y) : sameA x y = false := by
  cases x <;> cases y <;> first | rfl | exact absurd rfl h
def sp_same (C D : Addr) : Sp := fun vs H Q _ => ∃ v u x y, vs = [v, u] ∧ AnyAt C D H v x ∧ AnyAt C D H u y ∧ ∀ H', Same H H' → Q (.bl (sameA x y)) H'
theorem ok_same {f D : Addr} {fd : FuncData} (F : FunD K "same" "same" (defArgs s_same) (defBody s_same) (defScope s_same) [] [] f fd) (B : Blt mg) (T : FlC K mg C) (O : ObC K C D) (TI : IdC K D) (c_isnumber : Fn P w K mg base CX0 2 "is_number" ["thing"] [] (sp_isnumber K C)) (c_orderof : Fn P w K mg base CX0 3 "order_of" ["one", "other"] [] (sp_orderof C)) :
    FnOk P w K mg base CX0 4 f fd ["one", "other"] (sp_same C D) := by
  refine F.ok sc_same (fun vs H Q E h => ?_) (fun cdv A outer s H vs Q E hr h => ?_)
  · obtain ⟨_, _, _, _, rfl, _⟩ := h; rfl
  · obtain ⟨v, u, x, y, rfl, hx, hy, q⟩ := h
    refine ⟨_, PSs.nox (pss_cons (ps_if (PW.pt (pw_and (pt_val (pe_fn c_isnumber (hr.mono (by first | decide | omega)) pass0 (pa_cons (pv 0) pa_nil))) (pw_and1 (pt_val (pe_fn c_isnumber (hr.mono (by first | decide | omega)) pass0 (pa_cons (pv 1) pa_nil)))))) (pss_one (ps_ret (pe_cmpR (op_oEq hr.units) (pe_fn c_orderof (hr.mono (by first | decide | omega)) pass0 (pa_cons (pv 0) (pa_cons (pv 1) pa_nil))) pe_int (nomark _)))) pss_nil)
  (pss_cons (ps_if (PW.pt (pw_or (pt_val (pe_fn c_isnumber (hr.mono (by first | decide | omega)) pass0 (pa_cons (pv 0) pa_nil))) (pw_or1 (pt_val (pe_fn c_isnumber (hr.mono (by first | decide | omega)) pass0 (pa_cons (pv 1) pa_nil)))))) (pss_one (ps_ret pe_bl)) pss_nil)
  (pss_cons (ps_if (PW.pt (pw_or (pt_cmpR (op_oNe hr.units) (pe_callB call_isi (by rfl) B.isinstance (by decide +kernel) (pa_cons (pv 0) (pa_cons (pe_tyBool B) pa_nil))) (pe_callB call_isi (by rfl) B.isinstance (by decide +kernel) (pa_cons (pv 1) (pa_cons (pe_tyBool B) pa_nil))) (nomark _)) (pw_or1 (pt_cmpR (op_oNe hr.units) (pe_callB call_isi (by rfl) B.isinstance (by decide +kernel) (pa_cons (pv 0) (pa_cons (pe_tyStr B) pa_nil))) (pe_callB call_isi (by rfl) B.isinstance (by decide +kernel) (pa_cons (pv 1) (pa_cons (pe_tyStr B) pa_nil))) (nomark _))))) (pss_one (ps_ret pe_bl)) pss_nil)
  (pss_one (ps_ret (pe_cmpR (op_oEqI TI hr.units) (pv 0) (pv 1) (nomark _))))))), ?_⟩
    obtain ⟨tx, bx, kx, ex⟩ := hx.kf T O
    obtain ⟨ty, bY, ky, ey⟩ := hy.kf T O
    have q0 := q H (Same.refl _)
    walk_at "go"
    refine ⟨v, tx, bx, rfl, kx, ?_⟩
    rw [ex]
    walk_at "go"
    by_cases nx : isNumA x = true
    · rw [nx] at ex ⊢
      walk_at "go"
      refine ⟨u, ty, bY, rfl, ky, ?_⟩
      rw [ey]
      walk_at "go"
      by_cases ny : isNumA y = true
      · rw [ny]
        walk_at "go"
        cases x with
        | num n =>
          cases y with
          | num m =>
            refine ⟨v, u, n, m, rfl, hx.1, hy.1, hx.2, hy.2, fun H1 s1 => ?_⟩
            have q1 := q H1 s1
            walk_at "go"
            have e : sameA (.num n) (.num m) = decide (ordN n m = some 0) := rfl
            rw [e] at q1
            cases eo : ordN n m with
            | none =>
              rw [eo] at q1
              exact g_eqx rfl (fun z => nomatch z) q1
            | some o =>
              rw [eo] at q1
              refine g_eqI ?_
              have e2 : decide (some o = some (0 : Int)) = decide (o = 0) := by simp
              rw [e2] at q1
              exact q1
          | _ => cases ny
        | _ => cases nx
      · have ny : isNumA y = false := by simpa using ny
        rw [same_mix (by rw [nx, ny]; decide)] at q0
        rw [ny]
        walk_at "go"
        refine ⟨v, tx, bx, rfl, kx, ?_⟩
        rw [ex]
        walk_at "go"
        exact q0
    · have nx : isNumA x = false := by simpa using nx
      rw [nx] at ex ⊢
      walk_at "go"
      refine ⟨v, tx, bx, rfl, kx, ?_⟩
      rw [ex]
      walk_at "go"
      refine ⟨u, ty, bY, rfl, ky, ?_⟩
      rw [ey]
      walk_at "go"
      by_cases ny : isNumA y = true
      · rw [same_mix (by rw [nx, ny]; decide)] at q0
        rw [ny]
        walk_at "go"
        exact q0
      · have ny : isNumA y = false := by simpa using ny
        rw [ny]
        walk_at "go"
        refine g_isiBool kx.kn ?_
        walk_at "go"
        refine g_isiBool ky.kn ?_
        walk_at "go"
        refine g_iten (fun hb => ?_) fun hb => ?_
        · rw [same_no hx hy nx ny (.inl hb)] at q0
          walk_at "go"
          exact q0
        · walk_at "go"
          refine g_isiStr kx.kn ?_
          walk_at "go"
          refine g_isiStr ky.kn ?_
          walk_at "go"
          refine g_iten (fun hs => ?_) fun hs => ?_
          · rw [same_no hx hy nx ny (.inr hs)] at q0
            walk_at "go"
            exact q0
          · walk_at "go"
            exact same_eq hx hy nx ny hb hs q0
end
end Up

set_option Elab.async false
set_option linter.all false
set_option maxRecDepth 100000
set_option maxHeartbeats 4000000
namespace Up
open PySem PySem.Spec PyProof.Rows L2 PySem.SeqAt HN
/-! ### == and != of two instances of a class with its own __eq__ -/
def EqC (P : Program) (w : World) (K : PySem.W.Frag) (mg : Str → Option Value) (base : Heap) (k : Nat) (C : Addr) (sp : Sp) : Prop :=
  ∃ f fd, FnOk P w K mg base CX0 k f fd ["self", "other"] sp ∧ PySem.W.findIn K (.ref C) "__eq__" = some (some (.ref f)) ∧ PySem.W.isFn K (.ref f) = true ∧ Binds K fd ["self", "other"] [] ∧
    PySem.W.findIn K (.ref C) "__ne__" = some (some (.builtin "object.__ne__")) ∧ PySem.W.mroIn K C (.type "object") = some true
def rEqO (C : Addr) (sp : Sp) : R2 := fun x y H Q => ∃ a b dx dy fs gs, x = .ref a ∧ y = .ref b ∧ H a = some (.ins C dx fs) ∧ H b = some (.ins C dy gs) ∧ sp [.ref a, .ref b] H (fun v H' => ∃ c, v = .bl c ∧ Q (.bl c) H') E0
def rNeO (C : Addr) (sp : Sp) : R2 := fun x y H Q => ∃ a b dx dy fs gs, x = .ref a ∧ y = .ref b ∧ H a = some (.ins C dx fs) ∧ H b = some (.ins C dy gs) ∧ sp [.ref a, .ref b] H (fun v H' => ∃ c, v = .bl c ∧ Q (.bl (!c)) H') E0
section
variable {X : Cx} {C : Addr} {k : Nat} {sp : Sp}
/-- the own __eq__ runs, wherever it is called from -/
theorem run_eq {pins : List (Addr × Obj)} {σ : L2.St} {H : Hp} {s : Shared} {A : Around} {f a b : Addr} {fd : FuncData} {Qv : VK} {R : Value → Shared → Prop} {E : Value → Shared → Prop} (F : FnOk X.prog X.w X.K X.mg X.base CX0 k f fd ["self", "other"] sp) (hb : Binds X.K fd ["self", "other"] [])
    (hr : Room k A) (hA : A.frames = X.A.frames) (I : L2.Inv X pins σ H s) (h : sp [.ref a, .ref b] H Qv E0) (q : ∀ v u H' s', L2.Inv X pins σ H' s' → L2.RelV v u → Qv v H' → R u s') : wpAny (model X.prog X.w) A (call (.ref f) [.ref a, .ref b]) R E s := by
  have e := I.env0
  have e0 : Env0 X.prog X.w X.K X.mg X.base A X.stack s H := ⟨by rw [hA]; exact e.frames, e.mod, e.bs, e.bsz, e.funs, e.frf, e.hok, e.bare⟩
  have r2 : Vals [V.ref a, V.ref b] [Value.ref a, Value.ref b] := .cons rfl (.cons rfl .nil)
  have bb := hb s [.ref a, .ref b] I.kIn rfl
  refine wpAny_call (codeAny_mono (F.run A X.stack s H ⟨[.ref a, .ref b], []⟩ [.ref a, .ref b] [.ref a, .ref b] Qv E0 hr e0 bb r2 h) fun r s' hq => ?_)
  cases r with
  | error e => exact hq.elim
  | ok fl =>
    cases fl with
    | ret u =>
      obtain ⟨v, H', I', rv, qv⟩ := I.after hq
      exact q v u H' s' I' rv qv
    | next => exact False.elim hq
    | brk => exact False.elim hq
    | cont => exact False.elim hq
theorem op_eqO (T : EqC X.prog X.w X.K X.mg X.base k C sp) (hr : Room k X.A) : OpR X (compareOp .Eq) (rEqO C sp) := by
  intro pins s σ H x y v u Q I rx ry h
  obtain ⟨f, fd, F, hs, hf, hb, hne, hm⟩ := T
  obtain ⟨a, b, dx, dy, fs, gs, rfl, rfl, ha, hb', h⟩ := h
  cases rx
  cases ry
  obtain ⟨mA, J, _⟩ := ins_get I.hok ha
  obtain ⟨mB, J', _⟩ := ins_get I.hok hb'
  obtain ⟨od, J, _⟩ := J.look
  obtain ⟨od', J', _⟩ := J'.look
  obtain ⟨m, hF⟩ := I.fr
  show wpAny (model X.prog X.w) X.A (richCompare .Eq (.ref a) (.ref b)) (EP X pins σ Q) X.xe s
  refine PySem.W.cmp_K (op := .Eq) (tb := .ref C) hr.units0 hF I.ok.mod.kin J J'.type (by simp [PySem.W.notFirst]) hs hf ?_
  refine run_eq F hb hr rfl I h fun v u H' s' I' rv qv => ?_
  obtain ⟨c, rfl, qv⟩ := qv
  cases rv
  exact ⟨.bl c, H', I', rfl, qv⟩
theorem ifBound_objNe {M : Model} {A : Around} {E : Value → Shared → Prop} {s : Shared} {K : PySem.W.Frag} {x C : Addr} {ox : Obj} {od : Option Obj} {args : List Value} {Q : Option Value → Shared → Prop} (Y : K.In s.heap) (I : PySem.W.InstAt s.heap x ox C od) (hs : PySem.W.findIn K (.ref C) "__ne__" = some (some (.builtin "object.__ne__")))
    (h : wpAny M A (call (.builtin "object.__ne__") (.ref x :: args)) (fun v => Q (some v)) E s) : wpAny M A (callSpecialIfBound? (.ref x) "__ne__" args) Q E s := by
  simp only [callSpecialIfBound?, bindSpecialIfBound?]
  refine wpAny_holding (wpAny_bind (wpAny_bind (wpAny_bind (I.type.here ((PySem.W.looks_findIn Y hs).here ?_)))))
  refine wpAny_bind (wpAny_askSetting (wpAny_ite ?_))
  have fin : wpAny M A (call (.builtin "object.__ne__") ([.ref x] ++ args) >>= fun v => pure (some v)) Q E s := wpAny_bind (wpAny_mono h (fun v s' z => wpAny_pure z) fun _ _ z => z)
  split
  · exact wpAny_bind (wpAny_of_eq (PySem.F.cmp_object.ne.bind _) (wpAny_pure (by exact fin)))
  · exact wpAny_tryCatch (wpAny_bind (wpAny_of_eq (PySem.F.cmp_object.ne.bind _) (wpAny_pure (by exact fin))))
theorem op_neO (T : EqC X.prog X.w X.K X.mg X.base k C sp) (hr : Room (k + 1) X.A) : OpR X (compareOp .NotEq) (rNeO C sp) := by
  intro pins s σ H x y v u Q I rx ry h
  obtain ⟨f, fd, F, hs, hf, hb, hne, hm⟩ := T
  obtain ⟨a, b, dx, dy, fs, gs, rfl, rfl, ha, hb', h⟩ := h
  cases rx
  cases ry
  obtain ⟨mA, J, _⟩ := ins_get I.hok ha
  obtain ⟨mB, J', _⟩ := ins_get I.hok hb'
  obtain ⟨od, J, _⟩ := J.look
  obtain ⟨od', J', _⟩ := J'.look
  show wpAny (model X.prog X.w) X.A (richCompare .NotEq (.ref a) (.ref b)) (EP X pins σ Q) X.xe s
  have hu := hr.un
  have one : wpAny (model X.prog X.w) X.A (tryCompare (.ref a) "__ne__" (.ref b)) (fun r s' => ∃ v, r = some v ∧ EP X pins σ Q v s') X.xe s := by
    unfold tryCompare
    refine wpAny_bind (ifBound_objNe I.kIn J hne ?_)
    refine wpAny_call (codeAny_call_builtin PySem.F.cmp_object.ne.plain PySem.F.cmpEntry_ne (PySem.W.check_slot PySem.F.cmpKind_ne PySem.F.cmpSplit_ne (J.type.andThen (PySem.W.looks_mroIn I.kIn hm)) (PySem.F.cmpArgs_ne _ _) ?_))
    unfold Builtin.«object.__ne__»
    refine wpAny_bind (wpAny_of_eq (a := ((Value.ref a : Value), [Value.ref b])) (by first | rfl | (simp only [slotArgs]; rfl)) ?_)
    refine wpAny_bind (wpAny_cRoomFor (by show X.A.units + 1 < cLine; omega) ?_)
    refine wpAny_bind (PySem.W.ifBound_K I.kIn J hs hf ?_)
    refine run_eq F hb hr.in1 rfl I h fun v u H' s' I' rv qv => ?_
    obtain ⟨c, rfl, qv⟩ := qv
    cases rv
    refine wpAny_bind (wpAny_truthy_bool (wpAny_pure ?_))
    exact wpAny_pure ⟨_, rfl, .bl (!c), H', I', rfl, qv⟩
  unfold richCompare
  simp only [oneThing_ref, cmpInfo_NotEq]
  refine wpAny_holding (wpAny_bind (wpAny_cRoomFor (by omega) ?_))
  refine wpAny_bind (J.type.here (wpAny_bind (J'.type.here ?_)))
  simp only [bne_self_eq_false, Bool.false_eq_true, if_false]
  refine wpAny_bind (wpAny_pure (wpAny_bind (m := tryCompare (.ref a) _ (.ref b)) (wpAny_mono one (fun r s' z => ?_) fun _ _ e => e)))
  obtain ⟨v, rfl, z⟩ := z
  exact wpAny_pure z
end
end Up

set_option Elab.async false
set_option linter.all false
set_option maxRecDepth 100000
set_option maxHeartbeats 4000000
namespace Up
open PySem PySem.Spec PyProof.Rows L2
/-- an expression that the proof never comes to -/
def tNevE : TE := fun _ _ _ => False
theorem pe_never {X : Cx} {e : Expr} : PE X e tNevE := ⟨fun _ _ _ _ _ _ h => h.elim⟩
/-- a test, a value read once with a middle term -/
def tCutT (t : TT) : TT := fun σ H R => ∃ P : Bool → Hp → Prop, t σ H P ∧ ∀ b H', P b H' → R b H'
theorem pt_cut {X : Cx} {e : Expr} {t : TT} (h : PT X e t) : PT X e (tCutT t) := ⟨fun pins s σ H Q I ⟨P, h1, h2⟩ => wpAny_mono (h.run pins s σ H P I h1) (fun b s' ⟨H', I', p⟩ => ⟨H', I', h2 _ _ p⟩) fun _ _ e => e⟩
def tCutE (t : TE) : TE := fun σ H R => ∃ P : VK, t σ H P ∧ ∀ b H', P b H' → R b H'
theorem pe_cut {X : Cx} {e : Expr} {t : TE} (h : PE X e t) : PE X e (tCutE t) := ⟨fun pins s σ H Q I ⟨P, h1, h2⟩ => wpAny_mono (h.run pins s σ H P I h1) (fun b s' ⟨v, H', I', r, p⟩ => ⟨v, H', I', r, h2 _ _ p⟩) fun _ _ e => e⟩
theorem g_cutT {t : TT} {σ : L2.St} {H : Hp} {R : Bool → Hp → Prop} (P : Bool → Hp → Prop) (h1 : t σ H P) (h2 : ∀ b H', P b H' → R b H') : tCutT t σ H R := ⟨P, h1, h2⟩
theorem g_cutE {t : TE} {σ : L2.St} {H : Hp} {R : VK} (P : VK) (h1 : t σ H P) (h2 : ∀ b H', P b H' → R b H') : tCutE t σ H R := ⟨P, h1, h2⟩
theorem g_chain {r r' : R2} {ta tb tc : TE} {σ : L2.St} {H : Hp} {Q : VK} (h : ta σ H fun x H1 => tb σ H1 fun y H2 => r x y H2 fun z H3 => ∃ k, z = .bl k ∧ (if k = true then tc σ H3 fun w' H4 => r' y w' H4 Q else Q (.bl false) H3)) : tChain r r' ta tb tc σ H Q := h
theorem g_par3 {i j l : Nat} {ta : TA} {D : Ends} {σ : L2.St} {H : Hp} (h : ta σ H fun vs H1 => ∃ u v w, vs = [u, v, w] ∧ D.nx (((σ.set i (some u)).set j (some v)).set l (some w)) H1) : tPar3 i j l ta D σ H := h
theorem g_par3' {a b c : V} {T : V → V → V → Prop} (h : T a b c) : ∃ u v w, [a, b, c] = [u, v, w] ∧ T u v w := ⟨a, b, c, rfl, h⟩
theorem g_while {c : TT} {tb : TS} {D : Ends} {σ : L2.St} {H : Hp} (W : Nat → L2.St → Hp → Prop) (m0 : Nat) (h0 : W m0 σ H) (hs : ∀ m σ H, W m σ H →
    c σ H fun b H1 => if b = true then ∃ N : L2.St → Hp → Prop, (∀ σ' H', N σ' H' → ∃ m', m' < m ∧ W m' σ' H') ∧ tb { D with nx := N, ct := N, bk := D.nx } σ H1 else D.nx σ H1) : tWhile c tb D σ H := ⟨W, ⟨m0, h0⟩, hs⟩
theorem g_wbody {tb : TS} {D : Ends} {σ : L2.St} {H : Hp} {W : Nat → L2.St → Hp → Prop} {m : Nat} (h : tb { D with nx := fun σ' H' => ∃ m', m' < m ∧ W m' σ' H', ct := fun σ' H' => ∃ m', m' < m ∧ W m' σ' H', bk := D.nx } σ H) :
    ∃ N : L2.St → Hp → Prop, (∀ σ' H', N σ' H' → ∃ m', m' < m ∧ W m' σ' H') ∧ tb { D with nx := N, ct := N, bk := D.nx } σ H := ⟨_, fun _ _ z => z, h⟩
section
variable {K : PySem.W.Frag} {H : Hp} {Q : VK} {x y : V}
theorem g_eqV (hs : scal x y = true) (h : Q (.bl (decide (x = y))) H) : oEq K x y H Q := .inl ⟨hs, h⟩
theorem g_neV (hs : scal x y = true) (h : Q (.bl (!decide (x = y))) H) : oNe K x y H Q := .inl ⟨hs, h⟩
end
/-- an int or a text -/
def IS (t : V) : Prop := (∃ n, t = .int n) ∨ ∃ x, t = .str x
theorem IS.int (n : Int) : IS (.int n) := .inl ⟨n, rfl⟩
theorem IS.str (n : Str) : IS (.str n) := .inr ⟨n, rfl⟩
theorem IS.scal {t u : V} (ht : IS t) (hu : IS u) : scal t u = true := by
  rcases ht with ⟨n, rfl⟩ | ⟨n, rfl⟩ <;> rcases hu with ⟨m, rfl⟩ | ⟨m, rfl⟩ <;> rfl
theorem IS.flat {t : V} (ht : IS t) : flatV t = true := by
  rcases ht with ⟨n, rfl⟩ | ⟨n, rfl⟩ <;> rfl
theorem IS.eqV {t u : V} (ht : IS t) (hu : IS u) : eqV t u = decide (t = u) := by
  rcases ht with ⟨n, rfl⟩ | ⟨n, rfl⟩ <;> rcases hu with ⟨m, rfl⟩ | ⟨m, rfl⟩
  · show (n == m) = _
    by_cases h : n = m
    · subst h; simp
    · have : (n == m) = false := beq_eq_false_iff_ne.mpr h
      rw [this]; simp [h]
  · show false = _
    simp
  · show false = _
    simp
  · show (n == m) = _
    by_cases h : n = m
    · subst h; simp
    · have : (n == m) = false := beq_eq_false_iff_ne.mpr h
      rw [this]; simp [h]
/-- x in (a, b) -/
theorem IS.in2 {x a b : V} (hx : IS x) (ha : IS a) (hb : IS b) : inV x [a, b] = decide (a = x ∨ b = x) := by
  unfold inV
  simp only [List.any_cons, List.any_nil, Bool.or_false]
  rw [ha.eqV hx, hb.eqV hx]
  by_cases h1 : a = x <;> by_cases h2 : b = x <;> simp [h1, h2]
theorem g_in2 {K : PySem.W.Frag} {H : Hp} {Q : VK} {x a b : V} {p : Addr} (hp : H p = some (.tup [a, b])) (hx : IS x) (ha : IS a) (hb : IS b) (q : Q (.bl (decide (a = x ∨ b = x))) H) : rIn K false x (.ref p) H Q :=
  ⟨p, _, rfl, .inr (SqT.of hp), hx.flat, by simp [ha.flat, hb.flat], by rw [hx.in2 ha hb]; exact q⟩
def dV : V → PyData
  | .int n => .int n
  | .str x => .str x
  | _ => .none
theorem IS.dp {K : PySem.W.Frag} {H : Hp} {t : V} (ht : IS t) : Dp K H t (dV t) := by
  rcases ht with ⟨n, rfl⟩ | ⟨n, rfl⟩
  · exact .int n
  · exact .str n
theorem IS.eqv {t u : V} (ht : IS t) (hu : IS u) : PyData.eqv (dV t) (dV u) = decide (t = u) := by
  rw [← ht.eqV hu]
  rcases ht with ⟨n, rfl⟩ | ⟨n, rfl⟩ <;> rcases hu with ⟨m, rfl⟩ | ⟨m, rfl⟩ <;> simp [dV, PyData.eqv, L2.eqV]
end Up

set_option Elab.async false
set_option linter.all false
set_option maxRecDepth 100000
set_option maxHeartbeats 4000000
namespace Up
open PySem PySem.Spec PyProof.Rows L2
/-! ### a list beside an empty one -/
def oEqE (K : PySem.W.Frag) : R2 := fun x y H Q => ∃ a b xs, x = .ref a ∧ y = .ref b ∧ SqL K H a xs ∧ SqL K H b [] ∧ Q (.bl xs.isEmpty) H
def oNeE (K : PySem.W.Frag) : R2 := fun x y H Q => ∃ a b xs, x = .ref a ∧ y = .ref b ∧ SqL K H a xs ∧ SqL K H b [] ∧ Q (.bl (!xs.isEmpty)) H
theorem op_eqE {X : Cx} (hu : X.A.units + 64 < cLine) : OpR X (compareOp .Eq) (oEqE X.K) := by
  intro pins s σ H x y v u Q I rx ry h
  obtain ⟨a, b, xs, rfl, rfl, ha, hb, q⟩ := h
  cases rx
  cases ry
  obtain ⟨its, r1, p1, _⟩ := I.list ha
  obtain ⟨jts, r2, p2, _⟩ := I.list hb
  have l1 := r1.length
  have l2 := r2.length
  by_cases e : xs = []
  · subst e
    have z1 : its.toArray.size = 0 := by rw [List.size_toArray, ← l1]; rfl
    refine SeqAt.eq_listAt (e := fun _ => true) p1.isList p2.isList (by rw [z1, List.size_toArray, ← l2]; rfl) (by omega) (fun j h1 => absurd h1 (by omega)) ?_
    rw [z1]
    exact ⟨.bl true, H, I, rfl, q⟩
  · refine SeqAt.eq_list_lengthsAt p1.isList p2.isList ?_ (by omega) ?_
    · rw [List.size_toArray, List.size_toArray, ← l1, ← l2]
      cases xs with
      | nil => exact absurd rfl e
      | cons _ _ => rfl
    · cases xs with
      | nil => exact absurd rfl e
      | cons _ _ => exact ⟨.bl false, H, I, rfl, q⟩
theorem op_neE {X : Cx} (hu : X.A.units + 64 < cLine) : OpR X (compareOp .NotEq) (oNeE X.K) := by
  intro pins s σ H x y v u Q I rx ry h
  obtain ⟨a, b, xs, rfl, rfl, ha, hb, q⟩ := h
  cases rx
  cases ry
  obtain ⟨its, r1, p1, _⟩ := I.list ha
  obtain ⟨jts, r2, p2, _⟩ := I.list hb
  have l1 := r1.length
  have l2 := r2.length
  by_cases e : xs = []
  · subst e
    have z1 : its.toArray.size = 0 := by rw [List.size_toArray, ← l1]; rfl
    refine SeqAt.RcNeAt.lists (e := fun _ => true) p1.isList p2.isList (by rw [z1, List.size_toArray, ← l2]; rfl) (by omega) (fun j h1 => absurd h1 (by omega)) _ _ _ _ ?_
    rw [z1]
    exact ⟨.bl false, H, I, rfl, q⟩
  · refine SeqAt.RcNeAt.lists_lengths p1.isList p2.isList ?_ (by omega) _ _ _ _ ?_
    · rw [List.size_toArray, List.size_toArray, ← l1, ← l2]
      cases xs with
      | nil => exact absurd rfl e
      | cons _ _ => rfl
    · cases xs with
      | nil => exact absurd rfl e
      | cons _ _ => exact ⟨.bl true, H, I, rfl, q⟩
theorem g_eqE {K : PySem.W.Frag} {H : Hp} {Q : VK} {a b : Addr} {xs : List V} (ha : H a = some (.lst xs)) (hb : H b = some (.lst [])) (q : Q (.bl xs.isEmpty) H) : oEqE K (.ref a) (.ref b) H Q := ⟨a, b, xs, rfl, rfl, SqL.of ha, SqL.of hb, q⟩
theorem g_neE {K : PySem.W.Frag} {H : Hp} {Q : VK} {a b : Addr} {xs : List V} (ha : H a = some (.lst xs)) (hb : H b = some (.lst [])) (q : Q (.bl (!xs.isEmpty)) H) : oNeE K (.ref a) (.ref b) H Q := ⟨a, b, xs, rfl, rfl, SqL.of ha, SqL.of hb, q⟩
/-! ### xs[i] op= e -/
def rGetL (K : PySem.W.Frag) : V → V → Hp → VK → Prop := fun x y H Q => ∃ p xs i z, x = .ref p ∧ y = .int i ∧ SqL K H p xs ∧ 0 ≤ i ∧ atI xs i = some z ∧ Q z H
theorem pget_list {X : Cx} : PGet X (rGetL X.K) := by
  intro pins s σ H x y v u Q I rx ry h
  obtain ⟨p, xs, i, z, rfl, rfl, hq, h0, he, q⟩ := h
  cases rx
  obtain ⟨t, rfl⟩ := ry
  obtain ⟨its, r, pl, hz⟩ := I.list hq
  obtain ⟨j, h1, h2, h3, h4, h5⟩ := atI_get he
  obtain ⟨w, ew, rw'⟩ := r.get h2
  have hl := r.length
  have hn := line63
  have hj : i.toNat = j := by
    rw [seqIndex_of h0 h5] at h1
    exact Option.some.inj h1
  exact wpAny_getItem_list pl.isList h0 (by omega) (by rw [hj]; simpa using ew) ⟨z, H, I, rw', q⟩
theorem g_augS {to ti te : TE} {tget : V → V → Hp → VK → Prop} {tip : TIp} {tset : TSet} {D : Ends} {σ : L2.St} {H : Hp} (h : to σ H fun o H1 => ti σ H1 fun i H2 => tget o i H2 fun x H3 => te σ H3 fun y H4 => tip x y H4 fun z H5 => tset o i z H5 fun H6 => D.nx σ H6) : tAugS to ti te tget tip tset D σ H := h
theorem g_getL {K : PySem.W.Frag} {H : Hp} {Q : VK} {p : Addr} {xs : List V} {i : Int} {z : V} (h : H p = some (.lst xs)) (h0 : 0 ≤ i) (e : atI xs i = some z) (q : Q z H) : rGetL K (.ref p) (.int i) H Q := ⟨p, xs, i, z, rfl, rfl, SqL.of h, h0, e, q⟩
theorem g_ipI {f : Int → Int → Int} {i j : Int} {H : Hp} {Q : VK} (q : Q (.int (f i j)) H) : ipI f (.int i) (.int j) H Q := ⟨i, j, rfl, rfl, q⟩
def ipM : TIp := fun x y H Q => ∃ i j, x = .int i ∧ y = .int j ∧ IntMulOk i j ∧ Q (.int (i * j)) H
theorem ip_mul {X : Cx} : PIp X .Mult ipM := by
  intro pins s σ H x y v u Q I r1 r2 h
  obtain ⟨i, j, e1, e2, hm, q⟩ := h
  subst e1; subst e2
  obtain ⟨t, rfl⟩ := r1
  obtain ⟨t', rfl⟩ := r2
  exact imul_int ⟨.int _, H, I.tok _, ⟨_, rfl⟩, q⟩ hm
theorem g_ipM {i j : Int} {H : Hp} {Q : VK} (hm : IntMulOk i j) (q : Q (.int (i * j)) H) : ipM (.int i) (.int j) H Q := ⟨i, j, rfl, rfl, hm, q⟩
theorem g_ord {c : Nat} {H : Hp} {Q : VK} (q : Q (.int (c : Nat)) H) : (fun xs H Q => ∃ x, xs = [V.str x] ∧ x.length = 1 ∧ Q (.int (x.cps.getD 0 0 : Nat)) H : List V → Hp → VK → Prop) [.str ⟨#[c]⟩] H Q := ⟨_, rfl, rfl, q⟩
/-! ### other readings -/
theorem g_nt {A B : Prop} (h : B) : if (!true) = true then A else B := h
theorem g_nf {A B : Prop} (h : A) : if (!false) = true then A else B := h

theorem g_bm {K : PySem.W.Frag} {T : String} {r : V → List V → Hp → VK → Prop} {to : TE} {t : TA} {σ : L2.St} {H : Hp} {Q : VK} (h : to σ H fun x H1 => tyV K T x H1 ∧ t σ H1 fun vs H2 => r x vs H2 Q) : tBM K T r to t σ H Q := h
theorem g_app {H : Hp} {Q : VK} {l : Addr} {xs : List V} {y : V} (h : H l = some (.lst xs)) (hz : xs.length < sizeLine) (q : ∀ H', H' l = some (.lst (xs ++ [y])) → (∀ b, b ≠ l → H' b = H b) → Q .non H') : rAppend (.ref l) [y] H Q := ⟨l, xs, y, rfl, rfl, h, hz, q _ upd_same fun b hb => upd_ne hb⟩
theorem g_ext {H : Hp} {Q : VK} {l b : Addr} {xs zs : List V} (h : H l = some (.lst xs)) (hb : H b = some (.lst zs)) (hz : xs.length + zs.length ≤ sizeLine) (q : ∀ H', H' l = some (.lst (xs ++ zs)) → (∀ b, b ≠ l → H' b = H b) → Q .non H') : rExtend (.ref l) [.ref b] H Q := ⟨l, b, xs, zs, rfl, rfl, h, hb, hz, q _ upd_same fun b hb => upd_ne hb⟩
theorem tyL {K : PySem.W.Frag} {H : Hp} {p : Addr} {xs : List V} (h : H p = some (.lst xs)) : tyV K "list" (.ref p) H := .inl ⟨rfl, _, SqL.of h⟩
theorem g_iStr {te : TE} {σ : L2.St} {H : Hp} {R : It → Hp → Prop} (h : te σ H fun v H1 => ∃ x, v = .str x ∧ R (Its x) H1) : iStr te σ H R := h
theorem atI_of {xs : List V} {i : Int} {v : V} (h0 : 0 ≤ i) (h : xs[i.toNat]? = some v) : atI xs i = some v := by
  have hl : i.toNat < xs.length := by
    by_cases e : i.toNat < xs.length
    · exact e
    · rw [List.getElem?_eq_none (by omega)] at h; cases h
  unfold atI
  have e : ixN xs.length i = some i.toNat := by unfold ixN; rw [if_pos h0, if_pos (by omega)]
  rw [e]
  exact h
theorem ixN_of {n : Nat} {i : Int} (h0 : 0 ≤ i) (h : i < n) : ixN n i = some i.toNat := by unfold ixN; rw [if_pos h0, if_pos (by omega)]
theorem g_aug {i : Nat} {te : TE} {tip : TIp} {D : Ends} {σ : L2.St} {H : Hp} (h : ∃ v, σ[i]? = some (some v) ∧ te σ H fun y H1 => tip v y H1 fun z H2 => D.nx (σ.set i (some z)) H2) : tAug i te tip D σ H := h
theorem g_fldaug {K : PySem.W.Frag} {ta tv : TE} {rd : R2} {f : Str} {D : Ends} {σ : L2.St} {H : Hp} (h : ta σ H fun x H1 => ∃ a C dx fs v, x = .ref a ∧ H1 a = some (.ins C dx fs) ∧ Cls K C ∧ NoAttr K C f ∧ fs.lookup f = some v ∧ tv σ H1 fun y H2 => rd v y H2 fun z H3 => ∃ dx' fs', H3 a = some (.ins C dx' fs') ∧ fs'.length < 1000 ∧ D.nx σ (upd H3 a (.ins C dx' (putF f z fs')))) : sFldAug K ta tv rd f D σ H := h
theorem pg_tupE {X : Cx} (K : PySem.W.Frag) {es : List Expr} {k : Nat} {t : TGs} {n : Nat} {pos : Pos} (hK : X.K = K) (hc : X.calm = true) (h : PGs X es t)
    (hn : (assignEach es X.env).length = n := by rfl) (hst : (assignEach es X.env).findIdx? (·.1) = none := by rfl) : PG X (.Tuple es k pos) (gTup K n t) := hK ▸ pg_tup hc h hn hst
/-! ### loops over enumerate, over a text -/
theorem for_enum {K : PySem.W.Frag} {a : Addr} {xs : List V} {g : TG} {tb : TS} {D : Ends} {σ : L2.St} {H : Hp} (Pv : Nat → L2.St → Hp → Prop) (h0 : Pv 0 σ H) (hl : ∀ i σ H, i ≤ xs.length → Pv i σ H → SqL K H a xs)
    (hs : ∀ i x σ H T, xs[i]? = some x → Pv i σ H → H T = none → g (.ref T) σ (upd H T (.tup [.int (i : Nat), x])) fun σ2 H2 => tb { D with nx := Pv (i + 1), ct := Pv (i + 1), bk := D.nx } σ2 H2) (hd : ∀ σ H, Pv xs.length σ H → D.nx σ H) :
    ∃ W : Nat → Nat → L2.St → Hp → Prop, (∃ m, W 0 m σ H) ∧ ∀ i m σ H, W i m σ H →
      ((Ite K a).stop i H ∧ D.nx σ H) ∨ ((Ite K a).go i H ∧ ∃ N : L2.St → Hp → Prop, (∀ σ' H', N σ' H' → ∃ m', m' < m ∧ W (i + 1) m' σ' H') ∧ ∀ x H', (Ite K a).yld i H x H' → g x σ H' fun σ2 H2 => tb { D with nx := N, ct := N, bk := D.nx } σ2 H2) := by
  refine ⟨fun i m σ H => m = xs.length - i ∧ i ≤ xs.length ∧ Pv i σ H, ⟨xs.length, by simp, Nat.zero_le _, h0⟩, ?_⟩
  rintro i m σ H ⟨rfl, hi, p⟩
  have q := hl i σ H hi p
  by_cases hlt : i < xs.length
  · refine .inr ⟨⟨xs, xs[i], q, by simp [hlt]⟩, Pv (i + 1), fun σ' H' p' => ⟨xs.length - (i + 1), by omega, rfl, hlt, p'⟩, fun x H' y => ?_⟩
    obtain ⟨T, y, rfl, hT, rfl, hy⟩ := y
    exact hs i y σ _ T (hy xs q) p hT
  · have e : i = xs.length := by omega
    subst e
    exact .inl ⟨⟨xs, q, Nat.le_refl _⟩, hd σ H p⟩
theorem lc_enum {K : PySem.W.Frag} {a : Addr} {xs : List V} {g : TG} {tt : TT} {te : TE} {vs : List Nat} {σ : L2.St} {H1 : Hp} {D : Addr} {Qd : Hp → Prop} (Pv : Nat → Hp → Prop) (h0 : Pv 0 (upd H1 D (.lst []))) (hl : ∀ i H, i ≤ xs.length → Pv i H → SqL K H a xs)
    (hs : ∀ i x H T, xs[i]? = some x → Pv i H → H T = none → g (.ref T) (wipe σ vs) (upd H T (.tup [.int (i : Nat), x])) fun σ2 H2 => wipe σ2 vs = wipe σ vs ∧ tt σ2 H2 fun b H3 =>
      if b = true then te σ2 H3 fun y H4 => ∃ acc, H4 D = some (.lst acc) ∧ acc.length < sizeLine ∧ Pv (i + 1) (upd H4 D (.lst (acc ++ [y]))) else Pv (i + 1) H3) (hd : ∀ H, Pv xs.length H → Qd H) :
    ∃ W : Nat → Nat → Hp → Prop, (∃ m, W 0 m (upd H1 D (.lst []))) ∧ ∀ i m H, W i m H →
      ((Ite K a).stop i H ∧ Qd H) ∨ ((Ite K a).go i H ∧ ∃ Nx : Hp → Prop, (∀ H', Nx H' → ∃ m', m' < m ∧ W (i + 1) m' H') ∧ ∀ x H', (Ite K a).yld i H x H' → g x (wipe σ vs) H' fun σ2 H2 => wipe σ2 vs = wipe σ vs ∧ tt σ2 H2 fun b H3 =>
        if b = true then te σ2 H3 fun y H4 => ∃ acc, H4 D = some (.lst acc) ∧ acc.length < sizeLine ∧ Nx (upd H4 D (.lst (acc ++ [y]))) else Nx H3) := by
  refine ⟨fun i m H => m = xs.length - i ∧ i ≤ xs.length ∧ Pv i H, ⟨xs.length, by simp, Nat.zero_le _, h0⟩, ?_⟩
  rintro i m H ⟨rfl, hi, p⟩
  have q := hl i H hi p
  by_cases hlt : i < xs.length
  · refine .inr ⟨⟨xs, xs[i], q, by simp [hlt]⟩, Pv (i + 1), fun H' p' => ⟨xs.length - (i + 1), by omega, rfl, hlt, p'⟩, fun x H' y => ?_⟩
    obtain ⟨T, y, rfl, hT, rfl, hy⟩ := y
    exact hs i y _ T (hy xs q) p hT
  · have e : i = xs.length := by omega
    subst e
    exact .inl ⟨⟨xs, q, Nat.le_refl _⟩, hd H p⟩
theorem for_str {x : Str} {g : TG} {tb : TS} {D : Ends} {σ : L2.St} {H : Hp} (Pv : Nat → L2.St → Hp → Prop) (h0 : Pv 0 σ H)
    (hs : ∀ i c σ H, x.cps[i]? = some c → Pv i σ H → g (.str ⟨#[c]⟩) σ H fun σ2 H2 => tb { D with nx := Pv (i + 1), ct := Pv (i + 1), bk := D.nx } σ2 H2) (hd : ∀ σ H, Pv x.cps.size σ H → D.nx σ H) :
    ∃ W : Nat → Nat → L2.St → Hp → Prop, (∃ m, W 0 m σ H) ∧ ∀ i m σ H, W i m σ H →
      ((Its x).stop i H ∧ D.nx σ H) ∨ ((Its x).go i H ∧ ∃ N : L2.St → Hp → Prop, (∀ σ' H', N σ' H' → ∃ m', m' < m ∧ W (i + 1) m' σ' H') ∧ ∀ x' H', (Its x).yld i H x' H' → g x' σ H' fun σ2 H2 => tb { D with nx := N, ct := N, bk := D.nx } σ2 H2) := by
  refine ⟨fun i m σ H => m = x.cps.size - i ∧ i ≤ x.cps.size ∧ Pv i σ H, ⟨x.cps.size, by simp, Nat.zero_le _, h0⟩, ?_⟩
  rintro i m σ H ⟨rfl, hi, p⟩
  by_cases hlt : i < x.cps.size
  · refine .inr ⟨hlt, Pv (i + 1), fun σ' H' p' => ⟨x.cps.size - (i + 1), by omega, rfl, hlt, p'⟩, fun x' H' y => ?_⟩
    obtain ⟨rfl, c, hc, rfl⟩ := y
    exact hs i c σ _ hc p
  · have e : i = x.cps.size := by omega
    subst e
    exact .inl ⟨Nat.le_refl _, hd σ H p⟩
end Up

set_option Elab.async false
set_option linter.all false
set_option maxRecDepth 100000
set_option maxHeartbeats 4000000
namespace Up
open PySem PySem.Spec PyProof.Rows L2
/-! ### calls with keywords: o.m(e, k = v), C(k = v) -/
def tMethK (C : Addr) (m : Str) (n l : Nat) (sp : Sp) (gV : List V → List V → List V) (E : XK) (ta : TE) (t tk : TA) : TE := fun σ H Q => ta σ H fun x H1 => ∃ a dx fs, x = .ref a ∧ H1 a = some (.ins C dx fs) ∧ fs.lookup m = none ∧
  t σ H1 fun vs H2 => tk σ H2 fun zs H3 => vs.length + 1 = n ∧ zs.length = l ∧ sp (gV (x :: vs) zs) H3 Q E
def MakeRK (C : Addr) (sp : Sp) (gV : List V → List V → List V) (vs zs : List V) (H : Hp) (Q : VK) (E : XK) : Prop := ∀ x dx H', H x = none → H dx = none → dx ≠ x → Same H H' → H' x = some (.ins C dx []) → (∀ b, b ≠ x → b ≠ dx → H' b = H b) →
  sp (gV (.ref x :: vs) zs) H' (fun v H2 => v = .non ∧ Q (.ref x) H2) E
def tMakeKN (C : Addr) (n l : Nat) (sp : Sp) (gV : List V → List V → List V) (E : XK) (t tk : TA) : TE := fun σ H Q => t σ H fun vs H1 => tk σ H1 fun zs H2 => vs.length = n ∧ zs.length = l ∧ MakeRK C sp gV vs zs H2 Q E
section
variable (P : Program) (w : World) (K : PySem.W.Frag) (mg : Str → Option Value) (base : Heap)
def MtK (CX : CXT) (k : Nat) (C : Addr) (m : Str) (ps : List Str) (n : Nat) (ks : List Str) (gV : List V → List V → List V) (sp : Sp) : Prop :=
  ∃ f fd g, FnOk P w K mg base CX k f fd ps sp ∧ Meth K C m f ∧ KBn K fd ps n ks g gV ∧ Cls K C
def CnK (CX : CXT) (k : Nat) (x : Str) (C : Addr) (ps : List Str) (n : Nat) (ks : List Str) (gV : List V → List V → List V) (sp : Sp) : Prop :=
  ∃ f fd g, FnOk P w K mg base CX k f fd ps sp ∧ Mk K C f ∧ mg x = some (.ref C) ∧ KBn K fd ps (n + 1) ks g gV
end
section
variable {X : Cx} {CX : CXT} {k n : Nat} {C : Addr} {x m : Str} {ps ks : List Str} {sp : Sp} {E : XK} {p pos apos : Pos} {e o : Expr} {es : List Expr} {kws : List Keyword} {ta : TE} {t tk : TA} {gV : List V → List V → List V}
theorem pe_mtK {pl : Sem Bool} (F : MtK X.prog X.w X.K X.mg X.base CX k C m ps n ks gV sp) (hr : Room k X.A) (hx : Passes CX X E) (he : PE X o ta) (ha : PA X (e :: es) t) (hkw : PK X kws tk)
    (hall : (backToKw pos (keywordEach kws X.env)).all (·.1.isSome) = true := by rfl) (hks : (backToKw pos (keywordEach kws X.env)).filterMap (·.1) = ks := by rfl)
    (hst : starEach (e :: es) X.env = (false, eval e X.env) :: starEach es X.env := by rfl) (hpl : ((backTo pos (starEach (e :: es) X.env)).any (·.1) || (backToKw pos (keywordEach kws X.env)).any (·.1.isNone)) = false := by rfl)
    (ht : eval (.Call (.Attribute o m apos) (e :: es) kws pos) X.env = (do
      let ov ← eval o X.env
      standAt apos.atName
      let (f, first) ← holding [ov] (getMethod ov m pl)
      callWith pos f first (backTo pos (starEach (e :: es) X.env)) (backToKw pos (keywordEach kws X.env))) := by rfl) :
    PE X (.Call (.Attribute o m apos) (e :: es) kws pos) (tMethK C m n ks.length sp gV E ta t tk) := by
  obtain ⟨f, fd, g, F, hm, hb, c⟩ := F
  refine ⟨fun pins s σ H Q I h => ?_⟩
  refine PySem.W.methodCall_KW (pl := pl) (thn (he.run pins s σ H _ I h) fun u s1 ⟨x, H1, I1, rx, a, dx, fs, ex, ea, l, q⟩ => ?_) ht
  subst ex
  obtain rfl : u = Value.ref a := rx
  refine getmeth_ok I1 ea c hm l ?_
  refine PySem.W.callWith_KW (first := [.ref a]) (h₀ := X.base) I.ok.mod.kin hm.kp hall (thn (ha.run pos pins s1 σ H1 _ I1 q) fun us s2 ⟨vs, H2, I2, r, q2⟩ => ?_) hpl hst
  refine thn (hkw.run pos pins s2 σ H2 _ I2 q2) fun ws s3 ⟨zs, H3, I3, rz, l1, l2, q3⟩ => ⟨I3.kIn, ?_⟩
  rw [hks]
  exact run_fnN (us := .ref a :: us) (vs := .ref a :: vs) F hr hb hx I3 (.cons rfl r) rz l1 l2 q3
theorem pe_mtK0 {pl : Sem Bool} (F : MtK X.prog X.w X.K X.mg X.base CX k C m ps n ks gV sp) (hr : Room k X.A) (hx : Passes CX X E) (he : PE X o ta) (hkw : PK X kws tk)
    (hall : (backToKw pos (keywordEach kws X.env)).all (·.1.isSome) = true := by rfl) (hks : (backToKw pos (keywordEach kws X.env)).filterMap (·.1) = ks := by rfl)
    (hpl : ((backTo pos (starEach [] X.env)).any (·.1) || (backToKw pos (keywordEach kws X.env)).any (·.1.isNone)) = false := by rfl)
    (ht : eval (.Call (.Attribute o m apos) [] kws pos) X.env = (do
      let ov ← eval o X.env
      standAt apos.atName
      let (f, first) ← holding [ov] (getMethod ov m pl)
      callWith pos f first (backTo pos (starEach [] X.env)) (backToKw pos (keywordEach kws X.env))) := by rfl) :
    PE X (.Call (.Attribute o m apos) [] kws pos) (tMethK C m n ks.length sp gV E ta tNil tk) := by
  obtain ⟨f, fd, g, F, hm, hb, c⟩ := F
  refine ⟨fun pins s σ H Q I h => ?_⟩
  refine PySem.W.methodCall_KW (pl := pl) (thn (he.run pins s σ H _ I h) fun u s1 ⟨x, H1, I1, rx, a, dx, fs, ex, ea, l, q⟩ => ?_) ht
  subst ex
  obtain rfl : u = Value.ref a := rx
  refine getmeth_ok I1 ea c hm l ?_
  refine PySem.W.callWith_KW0 (first := [.ref a]) (h₀ := X.base) I.ok.mod.kin hm.kp hall ?_ hpl
  refine thn (hkw.run pos pins s1 σ H1 _ I1 q) fun ws s3 ⟨zs, H3, I3, rz, l1, l2, q3⟩ => ⟨I3.kIn, ?_⟩
  rw [hks]
  exact run_fnN (us := [.ref a]) (vs := [.ref a]) F hr hb hx I3 (.cons rfl .nil) rz l1 l2 q3
theorem pe_cnK0 (F : CnK X.prog X.w X.K X.mg X.base CX k x C ps 0 ks gV sp) (hr : Room (k + 1) X.A) (hx : Passes CX X E) (hkw : PK X kws tk) (hg : Gl X x := by rfl)
    (hall : (backToKw pos (keywordEach kws X.env)).all (·.1.isSome) = true := by rfl) (hks : (backToKw pos (keywordEach kws X.env)).filterMap (·.1) = ks := by rfl) (hdb : (x == ("__debug__" : Str)) = false := by decide)
    (hpl : ((backTo pos (starEach [] X.env)).any (·.1) || (backToKw pos (keywordEach kws X.env)).any (·.1.isNone)) = false := by rfl) :
    PE X (.Call (.Name x p) [] kws pos) (tMakeKN C 0 ks.length sp gV E tNil tk) := by
  obtain ⟨f, fd, g, F, M, hm, hb⟩ := F
  refine ⟨fun pins s σ H Q I h => ?_⟩
  refine wpAny_Call_Name_kw (ld_glob I hg hm ?_ hdb)
  refine PySem.W.callWith_KW0 (h₀ := X.base) I.ok.mod.kin M.kp hall ?_ hpl
  refine thn (hkw.run pos pins s σ H _ I h) fun ws s2 ⟨zs, H2, I2, rz, l1, l2, q2⟩ => ⟨I2.kIn, ?_⟩
  rw [hks]
  refine run_makeK (us := []) (vs := []) M F hr hb hx I2 .nil rz rfl l2 fun y dy n1 n2 ne => q2 y dy _ n1 n2 ne (fun b u z => ?_) upd_same fun b hb1 hb2 => ?_
  · rw [upd_ne (ne_of_none z n1), upd_ne (ne_of_none z n2)]; exact z
  · rw [upd_ne hb1, upd_ne hb2]
end
/-- no defaults -/
theorem kbnN {K : PySem.W.Frag} {x qual : Str} {params : Arguments} {body : List Stmt} {scope : Scope} {f : Addr} {fd : FuncData} {ps : List Str} {n : Nat} {ks : List Str} {g : {α : Type} → List α → List α → List α} (F : FunD K x qual params body scope [] [] f fd)
    (hrel : ∀ {vs zs : List V} {us ws : List Value}, Vals vs us → Vals zs ws → Vals (g vs zs) (g us ws))
    (h : ∀ (kV doc pm : Value) (an : Option Addr) (cdv ct : Value) (us ws : List Value), us.length = n → ws.length = ks.length → bindArgs (PySem.W.fnOf x qual params body scope .none kV doc pm an cdv ct) ⟨us, ks.zip ws⟩ = pure (ps.zip (g us ws))) : KBn K fd ps n ks (fun us ws => g us ws) (fun vs zs => g vs zs) := by
  obtain ⟨oc, od, dV, kV, doc, pm, an, cdv, ct, osl, rfl, lk, hcd, hD, hK⟩ := F.ex
  rcases hD with ⟨_, rfl⟩ | ⟨e, _⟩
  · exact ⟨fun s us ws X l1 l2 => .of_eq (h kV doc pm an cdv ct us ws l1 l2), fun r1 r2 => hrel r1 r2⟩
  · exact absurd rfl e
theorem g_iRng2 {ta : TA} {σ : L2.St} {H : Hp} {R : It → Hp → Prop} (h : ta σ H fun vs H1 => ∃ i j : Int, vs = [.int i, .int j] ∧ (-(2 ^ 62) ≤ i ∧ i < 2 ^ 62 ∧ -(2 ^ 62) ≤ j ∧ j < 2 ^ 62) ∧ R (Itr i (j - i).toNat) H1) : iRng2 ta σ H R := h
section
variable {σ : L2.St} {H : Hp} {Q : VK} {C : Addr} {m : Str} {n l : Nat} {sp : Sp} {gV : List V → List V → List V} {E : XK} {ta : TE} {t tk : TA}
theorem g_methK (h : ta σ H fun x H1 => ∃ a dx fs, x = .ref a ∧ H1 a = some (.ins C dx fs) ∧ fs.lookup m = none ∧ t σ H1 fun vs H2 => tk σ H2 fun zs H3 => vs.length + 1 = n ∧ zs.length = l ∧ sp (gV (x :: vs) zs) H3 Q E) : tMethK C m n l sp gV E ta t tk σ H Q := h
theorem g_makeK (h : t σ H fun vs H1 => tk σ H1 fun zs H2 => vs.length = n ∧ zs.length = l ∧ MakeRK C sp gV vs zs H2 Q E) : tMakeKN C n l sp gV E t tk σ H Q := h
end
end Up

set_option Elab.async false
set_option linter.all false
set_option maxRecDepth 100000
set_option maxHeartbeats 4000000
namespace Up
open PySem PySem.Spec PyProof.Rows L2
/-! ### nodes that are linked, in plain Lean -/
structure Nd (κ : Type) where
  key : κ
  kv : V
  val : V
  link : Option Nat
  dead : Bool
abbrev Nds (κ : Type) := List (Option (Nd κ))
section
variable {κ : Type}
/-- the node at a place -/
def nd (l : Nds κ) (i : Nat) : Option (Nd κ) := (l[i]?).join
def fu {α : Type} (g : Nat → α) (i : Nat) (x : α) : Nat → α := fun j => if j = i then x else g j
theorem fu_same {α : Type} {g : Nat → α} {i : Nat} {x : α} : fu g i x i = x := if_pos rfl
theorem fu_ne {α : Type} {g : Nat → α} {i j : Nat} {x : α} (h : j ≠ i) : fu g i x j = g j := if_neg h
theorem nd_set {l : Nds κ} {i : Nat} {x : Option (Nd κ)} (h : i < l.length) : nd (l.set i x) = fu (nd l) i x := by
  funext j
  unfold nd fu
  rw [List.getElem?_set]
  by_cases e : j = i
  · subst e
    rw [if_pos rfl, if_pos h, if_pos rfl]
    rfl
  · rw [if_neg (fun z => e z.symm), if_neg e]
theorem nd_lt {l : Nds κ} {i : Nat} {x : Nd κ} (h : nd l i = some x) : i < l.length := by
  unfold nd at h
  by_cases e : i < l.length
  · exact e
  · rw [List.getElem?_eq_none (by omega)] at h; cases h
theorem nd_at {l : Nds κ} {i : Nat} (h : i < l.length) : l[i]? = some (nd l i) := by
  unfold nd
  rw [List.getElem?_eq_getElem h]
  rfl
def lk (g : Nat → Option (Nd κ)) (i j : Nat) : Prop := ∃ x, g i = some x ∧ x.link = some j
inductive Rch (g : Nat → Option (Nd κ)) : Nat → Nat → Prop
  | refl (i : Nat) : Rch g i i
  | step {i j l : Nat} : lk g i j → Rch g j l → Rch g i l
theorem Rch.end {g : Nat → Option (Nd κ)} {i j l : Nat} (h : Rch g i j) (h2 : lk g j l) : Rch g i l := by
  induction h with
  | refl i => exact .step h2 (.refl _)
  | step a _ ih => exact .step a (ih h2)
theorem lk_fun {g : Nat → Option (Nd κ)} {i j l : Nat} (h : lk g i j) (h2 : lk g i l) : j = l := by
  obtain ⟨x, e, hx⟩ := h
  obtain ⟨y, f, hy⟩ := h2
  rw [e] at f
  cases f
  rw [hx] at hy
  exact Option.some.inj hy
/-- nodes, n of them, main positions by mp, the free pointer at fr -/
structure WF (mp : κ → Nat) (g : Nat → Option (Nd κ)) (n fr : Nat) : Prop where
  lt : ∀ i x, g i = some x → i < n
  val : ∀ i j, lk g i j → ∃ y, g j = some y
  inj : ∀ i i' j, lk g i j → lk g i' j → i = i'
  rnk : ∃ rk : Nat → Nat, ∀ i j, lk g i j → rk j < rk i
  rch : ∀ i x, g i = some x → Rch g (mp x.key) i
  own : ∀ i x, g i = some x → ∃ y, g (mp x.key) = some y ∧ mp y.key = mp x.key
  frn : fr ≤ n
  fre : ∀ i, fr ≤ i → i < n → ∃ y, g i = some y
theorem WF.new {mp : κ → Nat} {n : Nat} : WF mp (fun _ => none) n n :=
  ⟨fun _ _ h => (nomatch h), fun _ _ ⟨_, h, _⟩ => (nomatch h), fun _ _ _ ⟨_, h, _⟩ => (nomatch h), ⟨fun _ => 0, fun _ _ ⟨_, h, _⟩ => (nomatch h)⟩, fun _ _ h => (nomatch h), fun _ _ h => (nomatch h), Nat.le_refl _, fun _ h h2 => absurd h2 (by omega)⟩
variable {mp : κ → Nat} {g : Nat → Option (Nd κ)} {n fr : Nat}
/-- the same keys and links -/
theorem WF.like (W : WF mp g n fr) {g' : Nat → Option (Nd κ)} {fr' : Nat} (h : ∀ i, (g' i).map (fun x => (x.key, x.link)) = (g i).map (fun x => (x.key, x.link))) (h1 : fr' ≤ fr) (h2 : ∀ i, fr' ≤ i → i < fr → ∃ y, g i = some y) : WF mp g' n fr' := by
  have to : ∀ {i x}, g' i = some x → ∃ y, g i = some y ∧ y.key = x.key ∧ y.link = x.link := by
    intro i x e
    have := h i
    rw [e] at this
    cases e2 : g i with
    | none => rw [e2] at this; cases this
    | some y =>
      rw [e2] at this
      simp only [Option.map_some] at this
      injection this with this
      injection this with a b
      exact ⟨y, rfl, a.symm, b.symm⟩
  have bk : ∀ {i x}, g i = some x → ∃ y, g' i = some y ∧ y.key = x.key ∧ y.link = x.link := by
    intro i x e
    have := h i
    rw [e] at this
    cases e2 : g' i with
    | none => rw [e2] at this; cases this
    | some y =>
      rw [e2] at this
      simp only [Option.map_some] at this
      injection this with this
      injection this with a b
      exact ⟨y, rfl, a, b⟩
  have l1 : ∀ {i j}, lk g' i j → lk g i j := fun ⟨x, e, hx⟩ => by
    obtain ⟨y, e2, _, b⟩ := to e
    exact ⟨y, e2, b.trans hx⟩
  have l2 : ∀ {i j}, lk g i j → lk g' i j := fun ⟨x, e, hx⟩ => by
    obtain ⟨y, e2, _, b⟩ := bk e
    exact ⟨y, e2, b.trans hx⟩
  have r2 : ∀ {i j}, Rch g i j → Rch g' i j := fun r => by
    induction r with
    | refl i => exact .refl i
    | step a _ ih => exact .step (l2 a) ih
  refine ⟨fun i x e => ?_, fun i j e => ?_, fun i i' j a b => W.inj _ _ _ (l1 a) (l1 b), ?_, fun i x e => ?_, fun i x e => ?_, Nat.le_trans h1 W.frn, fun i a b => ?_⟩
  · obtain ⟨y, e2, _⟩ := to e
    exact W.lt _ _ e2
  · obtain ⟨y, e2⟩ := W.val _ _ (l1 e)
    obtain ⟨z, e3, _⟩ := bk e2
    exact ⟨z, e3⟩
  · obtain ⟨rk, h⟩ := W.rnk
    exact ⟨rk, fun i j a => h _ _ (l1 a)⟩
  · obtain ⟨y, e2, a, _⟩ := to e
    rw [← a]
    exact r2 (W.rch _ _ e2)
  · obtain ⟨y, e2, a, _⟩ := to e
    obtain ⟨z, e3, b⟩ := W.own _ _ e2
    obtain ⟨u, e4, c, _⟩ := bk e3
    rw [← a]
    exact ⟨u, e4, by rw [c]; exact b⟩
  · by_cases hi : i < fr
    · obtain ⟨y, e⟩ := h2 i a hi
      obtain ⟨z, e3, _⟩ := bk e
      exact ⟨z, e3⟩
    · obtain ⟨y, e⟩ := W.fre i (by omega) b
      obtain ⟨z, e3, _⟩ := bk e
      exact ⟨z, e3⟩
/-- the node at the main position is unused or has no value -/
theorem WF.repl (W : WF mp g n fr) {a : Nat} {x : Nd κ} (ha : a < n) (hm : mp x.key = a) (hl : x.link = (g a).bind (·.link)) : WF mp (fu g a (some x)) n fr := by
  have l1 : ∀ {i j}, lk (fu g a (some x)) i j → lk g i j := fun {i j} ⟨y, e, hy⟩ => by
    by_cases h : i = a
    · subst h
      rw [fu_same] at e
      cases e
      rw [hl] at hy
      cases e2 : g i with
      | none => rw [e2] at hy; cases hy
      | some z => rw [e2] at hy; exact ⟨z, e2, hy⟩
    · rw [fu_ne h] at e
      exact ⟨y, e, hy⟩
  have l2 : ∀ {i j}, lk g i j → lk (fu g a (some x)) i j := fun {i j} ⟨y, e, hy⟩ => by
    by_cases h : i = a
    · subst h
      refine ⟨x, fu_same, ?_⟩
      rw [hl, e]
      exact hy
    · exact ⟨y, by rw [fu_ne h]; exact e, hy⟩
  have r2 : ∀ {i j}, Rch g i j → Rch (fu g a (some x)) i j := fun r => by
    induction r with
    | refl i => exact .refl i
    | step a _ ih => exact .step (l2 a) ih
  have ex : ∀ i y, g i = some y → ∃ z, fu g a (some x) i = some z := fun i y e => by
    by_cases h : i = a
    · subst h; exact ⟨x, fu_same⟩
    · exact ⟨y, by rw [fu_ne h]; exact e⟩
  refine ⟨fun i y e => ?_, fun i j e => ?_, fun i i' j a b => W.inj _ _ _ (l1 a) (l1 b), ?_, fun i y e => ?_, fun i y e => ?_, W.frn, fun i h1 h2 => ?_⟩
  · by_cases h : i = a
    · subst h; exact ha
    · rw [fu_ne h] at e; exact W.lt _ _ e
  · obtain ⟨y, e2⟩ := W.val _ _ (l1 e)
    exact ex _ _ e2
  · obtain ⟨rk, h⟩ := W.rnk
    exact ⟨rk, fun i j a => h _ _ (l1 a)⟩
  · by_cases h : i = a
    · subst h
      rw [fu_same] at e
      cases e
      rw [hm]
      exact .refl _
    · rw [fu_ne h] at e
      exact r2 (W.rch _ _ e)
  · by_cases h : i = a
    · subst h
      rw [fu_same] at e
      cases e
      rw [hm, fu_same]
      exact ⟨x, rfl, hm⟩
    · rw [fu_ne h] at e
      obtain ⟨z, e2, b⟩ := W.own _ _ e
      by_cases h2 : mp y.key = a
      · rw [h2, fu_same]
        exact ⟨x, rfl, hm⟩
      · exact ⟨z, by rw [fu_ne h2]; exact e2, b⟩
  · obtain ⟨y, e⟩ := W.fre i h1 h2
    exact ex _ _ e
/-- the free place: the pointer goes down to the first unused one -/
structure FreeAt (g : Nat → Option (Nd κ)) (n fr f : Nat) : Prop where
  lt : f < fr
  none : g f = Option.none
  up : ∀ i, f < i → i < fr → ∃ y, g i = some y
theorem WF.no_to (W : WF mp g n fr) {f i : Nat} (h : g f = none) : ¬ lk g i f := fun z => by
  obtain ⟨y, e⟩ := W.val _ _ z
  rw [h] at e; cases e
theorem WF.no_from {f j : Nat} (h : g f = none) : ¬ lk g f j := fun ⟨y, e, _⟩ => by rw [h] at e; cases e
/-- a key with the same main position as the node that is there -/
theorem WF.coll (W : WF mp g n fr) {a f : Nat} {h : Nd κ} {x : Nd κ} (F : FreeAt g n fr f) (ha : g a = some h) (hh : mp h.key = a) (hx : mp x.key = a) (hl : x.link = h.link) : WF mp (fu (fu g f (some x)) a (some { h with link := some f })) n f := by
  have hfa : f ≠ a := fun z => by rw [← z, F.none] at ha; cases ha
  have ga : fu (fu g f (some x)) a (some { h with link := some f }) a = some { h with link := some f } := fu_same
  have gf : fu (fu g f (some x)) a (some { h with link := some f }) f = some x := by rw [fu_ne hfa, fu_same]
  have go : ∀ {i}, i ≠ a → i ≠ f → fu (fu g f (some x)) a (some { h with link := some f }) i = g i := fun h1 h2 => by rw [fu_ne h1, fu_ne h2]
  generalize fu (fu g f (some x)) a (some { h with link := some f }) = g' at *
  have l1 : ∀ {i j}, lk g' i j → (i = a ∧ j = f) ∨ (i = f ∧ lk g a j) ∨ (i ≠ a ∧ i ≠ f ∧ lk g i j) := fun {i j} ⟨y, e, hy⟩ => by
    by_cases h1 : i = a
    · subst h1
      rw [ga] at e
      cases e
      exact .inl ⟨rfl, (Option.some.inj hy).symm⟩
    · by_cases h2 : i = f
      · subst h2
        rw [gf] at e
        cases e
        exact .inr (.inl ⟨rfl, h, ha, by rw [← hl]; exact hy⟩)
      · rw [go h1 h2] at e
        exact .inr (.inr ⟨h1, h2, y, e, hy⟩)
  have laf : lk g' a f := ⟨_, ga, rfl⟩
  have lf : ∀ {j}, lk g a j → lk g' f j := fun {j} ⟨y, e, hy⟩ => by
    rw [ha] at e; cases e
    exact ⟨x, gf, by rw [hl]; exact hy⟩
  have lo : ∀ {i j}, i ≠ a → lk g i j → lk g' i j := fun {i j} h1 ⟨y, e, hy⟩ => by
    have h2 : i ≠ f := fun z => by rw [z, F.none] at e; cases e
    exact ⟨y, by rw [go h1 h2]; exact e, hy⟩
  have r2 : ∀ {i j}, Rch g i j → Rch g' i j := fun r => by
    induction r with
    | refl i => exact .refl i
    | @step i j l b _ ih =>
      by_cases h1 : i = a
      · subst h1
        exact .step laf (.step (lf b) ih)
      · exact .step (lo h1 b) ih
  have ex : ∀ i y, g i = some y → ∃ z, g' i = some z ∧ z.key = y.key := fun i y e => by
    by_cases h1 : i = a
    · subst h1; rw [ha] at e; cases e; exact ⟨_, ga, rfl⟩
    · by_cases h2 : i = f
      · rw [h2, F.none] at e; cases e
      · exact ⟨y, by rw [go h1 h2]; exact e, rfl⟩
  have hfn : f < n := Nat.lt_of_lt_of_le F.lt W.frn
  refine ⟨fun i y e => ?_, fun i j e => ?_, fun i i' j b c => ?_, ?_, fun i y e => ?_, fun i y e => ?_, Nat.le_of_lt hfn, fun i h1 h2 => ?_⟩
  · by_cases h1 : i = a
    · subst h1; exact W.lt _ _ ha
    · by_cases h2 : i = f
      · subst h2; exact hfn
      · rw [go h1 h2] at e; exact W.lt _ _ e
  · rcases l1 e with ⟨_, rfl⟩ | ⟨_, e⟩ | ⟨_, _, e⟩
    · exact ⟨x, gf⟩
    · obtain ⟨y, e2⟩ := W.val _ _ e
      obtain ⟨z, e3, _⟩ := ex _ _ e2
      exact ⟨z, e3⟩
    · obtain ⟨y, e2⟩ := W.val _ _ e
      obtain ⟨z, e3, _⟩ := ex _ _ e2
      exact ⟨z, e3⟩
  · rcases l1 b with ⟨b1, b2⟩ | ⟨b1, b⟩ | ⟨b1, b2, b⟩ <;> rcases l1 c with ⟨c1, c2⟩ | ⟨c1, c⟩ | ⟨c1, c2, c⟩
    · exact b1.trans c1.symm
    · rw [b2] at c; exact absurd c (W.no_to F.none)
    · rw [b2] at c; exact absurd c (W.no_to F.none)
    · rw [c2] at b; exact absurd b (W.no_to F.none)
    · exact b1.trans c1.symm
    · exact absurd (W.inj _ _ _ b c).symm c1
    · rw [c2] at b; exact absurd b (W.no_to F.none)
    · exact absurd (W.inj _ _ _ b c) b1
    · exact W.inj _ _ _ b c
  · obtain ⟨rk, hr⟩ := W.rnk
    refine ⟨fun i => if i = f then 2 * rk a else 2 * rk i + 1, fun i j e => ?_⟩
    show (if j = f then 2 * rk a else 2 * rk j + 1) < (if i = f then 2 * rk a else 2 * rk i + 1)
    rcases l1 e with ⟨rfl, rfl⟩ | ⟨rfl, e⟩ | ⟨e1, e2, e⟩
    · rw [if_pos rfl, if_neg (fun z => hfa z.symm)]; omega
    · rw [if_pos rfl, if_neg (fun z => by rw [z] at e; exact W.no_to F.none e)]
      have := hr _ _ e
      omega
    · rw [if_neg e2, if_neg (fun z => by rw [z] at e; exact W.no_to F.none e)]
      have := hr _ _ e
      omega
  · by_cases h1 : i = a
    · subst h1
      rw [ga] at e
      cases e
      show Rch g' (mp h.key) i
      rw [hh]
      exact .refl _
    · by_cases h2 : i = f
      · subst h2
        rw [gf] at e
        cases e
        rw [hx]
        exact .step laf (.refl _)
      · rw [go h1 h2] at e
        exact r2 (W.rch _ _ e)
  · by_cases h1 : i = a
    · subst h1
      rw [ga] at e
      cases e
      show ∃ y, g' (mp h.key) = some y ∧ mp y.key = mp h.key
      rw [hh]
      exact ⟨_, ga, hh⟩
    · by_cases h2 : i = f
      · subst h2
        rw [gf] at e
        cases e
        rw [hx]
        exact ⟨_, ga, hh⟩
      · rw [go h1 h2] at e
        obtain ⟨z, e2, b⟩ := W.own _ _ e
        obtain ⟨z2, e3, c⟩ := ex _ _ e2
        exact ⟨z2, e3, by rw [c]; exact b⟩
  · by_cases h3 : i = f
    · subst h3; exact ⟨x, gf⟩
    · obtain ⟨y, e⟩ : ∃ y, g i = some y := by
        by_cases h4 : i < fr
        · exact F.up i (by omega) h4
        · exact W.fre i (by omega) h2
      obtain ⟨z, e2, _⟩ := ex _ _ e
      exact ⟨z, e2⟩
/-- the node that is there belongs elsewhere: it moves to the free place -/
theorem WF.move (W : WF mp g n fr) {a f p : Nat} {h q x : Nd κ} (F : FreeAt g n fr f) (ha : g a = some h) (hh : mp h.key ≠ a) (hp : g p = some q) (hq : q.link = some a) (hx : mp x.key = a) (hl : x.link = none) :
    WF mp (fu (fu (fu g p (some { q with link := some f })) f (some h)) a (some x)) n f := by
  obtain ⟨rk, hr⟩ := id W.rnk
  have lpa : lk g p a := ⟨q, hp, hq⟩
  have hpa : p ≠ a := fun z => by have := hr _ _ lpa; rw [z] at this; omega
  have hfa : f ≠ a := fun z => by rw [← z, F.none] at ha; cases ha
  have hfp : f ≠ p := fun z => by rw [← z, F.none] at hp; cases hp
  have ga : fu (fu (fu g p (some { q with link := some f })) f (some h)) a (some x) a = some x := fu_same
  have gf : fu (fu (fu g p (some { q with link := some f })) f (some h)) a (some x) f = some h := by rw [fu_ne hfa, fu_same]
  have gp : fu (fu (fu g p (some { q with link := some f })) f (some h)) a (some x) p = some { q with link := some f } := by rw [fu_ne hpa, fu_ne (fun z => hfp z.symm), fu_same]
  have go : ∀ {i}, i ≠ a → i ≠ f → i ≠ p → fu (fu (fu g p (some { q with link := some f })) f (some h)) a (some x) i = g i := fun h1 h2 h3 => by rw [fu_ne h1, fu_ne h2, fu_ne h3]
  generalize fu (fu (fu g p (some { q with link := some f })) f (some h)) a (some x) = g' at *
  have l1 : ∀ {i j}, lk g' i j → (i = p ∧ j = f) ∨ (i = f ∧ lk g a j) ∨ (i ≠ a ∧ i ≠ f ∧ i ≠ p ∧ lk g i j) := fun {i j} ⟨y, e, hy⟩ => by
    by_cases h1 : i = a
    · subst h1
      rw [ga] at e
      cases e
      rw [hl] at hy; cases hy
    · by_cases h2 : i = f
      · subst h2
        rw [gf] at e
        cases e
        exact .inr (.inl ⟨rfl, h, ha, hy⟩)
      · by_cases h3 : i = p
        · subst h3
          rw [gp] at e
          cases e
          exact .inl ⟨rfl, (Option.some.inj hy).symm⟩
        · rw [go h1 h2 h3] at e
          exact .inr (.inr ⟨h1, h2, h3, y, e, hy⟩)
  have lpf : lk g' p f := ⟨_, gp, rfl⟩
  have lf : ∀ {j}, lk g a j → lk g' f j := fun {j} ⟨y, e, hy⟩ => by
    rw [ha] at e; cases e
    exact ⟨h, gf, hy⟩
  have lo : ∀ {i j}, i ≠ a → i ≠ p → lk g i j → lk g' i j := fun {i j} h1 h3 ⟨y, e, hy⟩ => by
    have h2 : i ≠ f := fun z => by rw [z, F.none] at e; cases e
    exact ⟨y, by rw [go h1 h2 h3]; exact e, hy⟩
  have nta : ∀ {i}, i ≠ p → ¬ lk g i a := fun h1 z => h1 (W.inj _ _ _ z lpa)
  have r2 : ∀ {i j}, Rch g i j → Rch g' (if i = a then f else i) (if j = a then f else j) := fun r => by
    induction r with
    | refl i => exact .refl _
    | @step i j l b _ ih =>
      by_cases h1 : i = a
      · subst h1
        rw [if_pos rfl]
        have hj : j ≠ i := fun z => by have := hr _ _ b; rw [z] at this; omega
        rw [if_neg hj] at ih
        exact .step (lf b) ih
      · rw [if_neg h1]
        by_cases h2 : i = p
        · subst h2
          have := lk_fun b lpa
          subst this
          rw [if_pos rfl] at ih
          exact .step lpf ih
        · have hj : j ≠ a := fun z => nta h2 (by rw [z] at b; exact b)
          rw [if_neg hj] at ih
          exact .step (lo h1 h2 b) ih
  have ex : ∀ i y, i ≠ a → g i = some y → ∃ z, g' i = some z ∧ z.key = y.key := fun i y h1 e => by
    by_cases h2 : i = f
    · rw [h2, F.none] at e; cases e
    · by_cases h3 : i = p
      · subst h3; rw [hp] at e; cases e; exact ⟨_, gp, rfl⟩
      · exact ⟨y, by rw [go h1 h2 h3]; exact e, rfl⟩
  have hfn : f < n := Nat.lt_of_lt_of_le F.lt W.frn
  have noa : ∀ i y, g i = some y → mp y.key ≠ a := fun i y e z => by
    obtain ⟨u, e2, b⟩ := W.own _ _ e
    rw [z, ha] at e2
    cases e2
    exact hh (b.trans z)
  have alln : ∀ i, i ≠ a → i ≠ f → ∀ y, g' i = some y → ∃ z, g i = some z ∧ z.key = y.key := fun i h1 h2 y e => by
    by_cases h3 : i = p
    · subst h3; rw [gp] at e; cases e; exact ⟨q, hp, rfl⟩
    · rw [go h1 h2 h3] at e; exact ⟨y, e, rfl⟩
  refine ⟨fun i y e => ?_, fun i j e => ?_, fun i i' j b c => ?_, ?_, fun i y e => ?_, fun i y e => ?_, Nat.le_of_lt hfn, fun i h1 h2 => ?_⟩
  · by_cases h1 : i = a
    · subst h1; exact W.lt _ _ ha
    · by_cases h2 : i = f
      · subst h2; exact hfn
      · obtain ⟨z, e2, _⟩ := alln i h1 h2 y e
        exact W.lt _ _ e2
  · rcases l1 e with ⟨_, rfl⟩ | ⟨_, e⟩ | ⟨e1, _, e3, e⟩
    · exact ⟨h, gf⟩
    · obtain ⟨y, e2⟩ := W.val _ _ e
      have hj : j ≠ a := fun z => by have := hr _ _ e; rw [z] at this; omega
      obtain ⟨z, e3, _⟩ := ex _ _ hj e2
      exact ⟨z, e3⟩
    · obtain ⟨y, e2⟩ := W.val _ _ e
      have hj : j ≠ a := fun z => nta e3 (by rw [z] at e; exact e)
      obtain ⟨z, e3, _⟩ := ex _ _ hj e2
      exact ⟨z, e3⟩
  · rcases l1 b with ⟨b1, b2⟩ | ⟨b1, b⟩ | ⟨b1, b2, b3, b⟩ <;> rcases l1 c with ⟨c1, c2⟩ | ⟨c1, c⟩ | ⟨c1, c2, c3, c⟩
    · exact b1.trans c1.symm
    · rw [b2] at c; exact absurd c (W.no_to F.none)
    · rw [b2] at c; exact absurd c (W.no_to F.none)
    · rw [c2] at b; exact absurd b (W.no_to F.none)
    · exact b1.trans c1.symm
    · exact absurd (W.inj _ _ _ b c).symm c1
    · rw [c2] at b; exact absurd b (W.no_to F.none)
    · exact absurd (W.inj _ _ _ b c) b1
    · exact W.inj _ _ _ b c
  · refine ⟨fun i => if i = f then rk a else rk i, fun i j e => ?_⟩
    show (if j = f then rk a else rk j) < (if i = f then rk a else rk i)
    rcases l1 e with ⟨rfl, rfl⟩ | ⟨rfl, e⟩ | ⟨e1, e2, e3, e⟩
    · rw [if_pos rfl, if_neg (fun z => hfp z.symm)]; exact hr _ _ lpa
    · rw [if_pos rfl, if_neg (fun z => by rw [z] at e; exact W.no_to F.none e)]
      exact hr _ _ e
    · rw [if_neg e2, if_neg (fun z => by rw [z] at e; exact W.no_to F.none e)]
      exact hr _ _ e
  · by_cases h1 : i = a
    · subst h1
      rw [ga] at e
      cases e
      rw [hx]
      exact .refl _
    · by_cases h2 : i = f
      · subst h2
        rw [gf] at e
        cases e
        have := r2 (W.rch _ _ ha)
        rw [if_pos rfl, if_neg hh] at this
        exact this
      · obtain ⟨z, e2, b⟩ := alln i h1 h2 y e
        rw [← b]
        have := r2 (W.rch _ _ e2)
        rw [if_neg h1, if_neg (noa _ _ e2)] at this
        exact this
  · by_cases h1 : i = a
    · subst h1
      rw [ga] at e
      cases e
      rw [hx]
      exact ⟨x, ga, hx⟩
    · by_cases h2 : i = f
      · subst h2
        rw [gf] at e
        cases e
        obtain ⟨z, e2, b⟩ := W.own _ _ ha
        obtain ⟨z2, e3, c⟩ := ex _ _ hh e2
        exact ⟨z2, e3, by rw [c]; exact b⟩
      · obtain ⟨z, e2, b⟩ := alln i h1 h2 y e
        rw [← b]
        obtain ⟨z2, e3, c⟩ := W.own _ _ e2
        obtain ⟨z3, e4, d⟩ := ex _ _ (noa _ _ e2) e3
        exact ⟨z3, e4, by rw [d]; exact c⟩
  · by_cases h3 : i = f
    · subst h3; exact ⟨h, gf⟩
    · by_cases h5 : i = a
      · subst h5; exact ⟨x, ga⟩
      · obtain ⟨y, e⟩ : ∃ y, g i = some y := by
          by_cases h4 : i < fr
          · exact F.up i (by omega) h4
          · exact W.fre i (by omega) h2
        obtain ⟨z, e2, _⟩ := ex _ _ h5 e
        exact ⟨z, e2⟩
/-- from the main position of a node to the one ahead of it -/
theorem WF.ahead (W : WF mp g n fr) {i j : Nat} (h : Rch g i j) (hne : i ≠ j) : ∃ p, Rch g i p ∧ lk g p j := by
  induction h with
  | refl i => exact absurd rfl hne
  | @step i k l b r ih =>
    by_cases h : k = l
    · subst h; exact ⟨i, .refl _, b⟩
    · obtain ⟨p, r2, b2⟩ := ih h
      exact ⟨p, .step b r2, b2⟩
end
end Up

set_option Elab.async false
set_option linter.all false
set_option maxRecDepth 100000
set_option maxHeartbeats 4000000
namespace Up
open PySem PySem.Spec PyProof.Rows L2
/-! ### tables, in plain Lean: what find and put come to -/
structure Tb (κ : Type) where
  arr : List V
  nds : Nds κ
  free : Nat
/-- what is asked of keys: same, the main position, the int that a key is, the key of an int -/
structure KO (κ : Type) where
  sm : κ → κ → Bool
  mp : κ → Nat → Nat
  wh : κ → Option Int
  ki : Int → κ
  lt : ∀ k n, 0 < n → mp k n < n
  wk : ∀ i, wh (ki i) = some i
section
variable {κ : Type} (O : KO κ)
inductive Fd (g : Nat → Option (Nd κ)) (k : κ) (wd : Bool) : Option Nat → Option Nat → Prop
  | non : Fd g k wd none none
  | emp {i : Nat} : g i = none → Fd g k wd (some i) none
  | hit {i : Nat} {x : Nd κ} : g i = some x → (O.sm x.key k && (wd || !x.dead)) = true → Fd g k wd (some i) (some i)
  | go {i : Nat} {x : Nd κ} {r : Option Nat} : g i = some x → (O.sm x.key k && (wd || !x.dead)) = false → Fd g k wd x.link r → Fd g k wd (some i) r
def st0 (k : κ) (n : Nat) : Option Nat := if n = 0 then none else some (O.mp k n)
theorem Fd.det {g : Nat → Option (Nd κ)} {k : κ} {wd : Bool} {a r r' : Option Nat} (h : Fd O g k wd a r) (h' : Fd O g k wd a r') : r = r' := by
  induction h with
  | non => cases h'; rfl
  | emp e =>
    cases h' with
    | emp _ => rfl
    | hit e2 _ => rw [e] at e2; cases e2
    | go e2 _ _ => rw [e] at e2; cases e2
  | hit e b =>
    cases h' with
    | emp e2 => rw [e] at e2; cases e2
    | hit e2 _ => rfl
    | go e2 b2 _ => rw [e] at e2; cases e2; rw [b] at b2; cases b2
  | go e b _ ih =>
    cases h' with
    | emp e2 => rw [e] at e2; cases e2
    | hit e2 b2 => rw [e] at e2; cases e2; rw [b] at b2; cases b2
    | go e2 b2 f => rw [e] at e2; cases e2; exact ih f
theorem Fd.at {g : Nat → Option (Nd κ)} {k : κ} {wd : Bool} {a : Option Nat} {i : Nat} (h : Fd O g k wd a (some i)) : ∃ x, g i = some x ∧ O.sm x.key k = true ∧ (wd = true ∨ x.dead = false) := by
  generalize hr : some i = r at h
  induction h with
  | non => cases hr
  | emp _ => cases hr
  | hit e b =>
    cases hr
    simp only [Bool.and_eq_true, Bool.or_eq_true, Bool.not_eq_true'] at b
    exact ⟨_, e, b.1, b.2⟩
  | go _ _ _ ih => exact ih hr
/-- the table's nodes are in order -/
def TW (t : Tb κ) : Prop := WF (fun k => O.mp k t.nds.length) (nd t.nds) t.nds.length t.free
def inside (t : Tb κ) (k : κ) : Prop := ∃ i, O.wh k = some i ∧ 1 ≤ i ∧ i ≤ t.arr.length
/-- put_new where nothing has to grow -/
inductive PutN (t : Tb κ) (k : κ) (kv u : V) : Tb κ → Prop
  | repl (a : Nat) : a = O.mp k t.nds.length → a < t.nds.length → (∀ x, nd t.nds a = some x → x.val = .non) → PutN t k kv u { t with nds := t.nds.set a (some ⟨k, kv, u, (nd t.nds a).bind (·.link), false⟩) }
  | coll (a f : Nat) (h : Nd κ) : a = O.mp k t.nds.length → FreeAt (nd t.nds) t.nds.length t.free f → nd t.nds a = some h → h.val ≠ .non → O.mp h.key t.nds.length = a →
      PutN t k kv u { t with nds := (t.nds.set f (some ⟨k, kv, u, h.link, false⟩)).set a (some { h with link := some f }), free := f }
  | move (a f p : Nat) (h q : Nd κ) : a = O.mp k t.nds.length → FreeAt (nd t.nds) t.nds.length t.free f → nd t.nds a = some h → h.val ≠ .non → O.mp h.key t.nds.length ≠ a → nd t.nds p = some q → q.link = some a →
      PutN t k kv u { t with nds := ((t.nds.set p (some { q with link := some f })).set f (some h)).set a (some ⟨k, kv, u, none, false⟩), free := f }
inductive PutS (t : Tb κ) (k : κ) (kv u : V) : Tb κ → Prop
  | ins (i : Int) : O.wh k = some i → 1 ≤ i → i ≤ t.arr.length → PutS t k kv u { t with arr := t.arr.set (i - 1).toNat u }
  | fnd (r : Nat) (x : Nd κ) : ¬ inside O t k → Fd O (nd t.nds) k false (st0 O k t.nds.length) (some r) → nd t.nds r = some x → PutS t k kv u { t with nds := t.nds.set r (some { x with val := u }) }
  | skip : ¬ inside O t k → Fd O (nd t.nds) k false (st0 O k t.nds.length) none → u = .non → PutS t k kv u t
  | new {t' : Tb κ} : ¬ inside O t k → Fd O (nd t.nds) k false (st0 O k t.nds.length) none → u ≠ .non → PutN O t k kv u t' → PutS t k kv u t'
def nn (l : Nds κ) : Nat := l.countP (·.isNone)
theorem cnt_set {p : Option (Nd κ) → Bool} : ∀ {l : Nds κ} {i : Nat} {x : Option (Nd κ)}, l.countP p ≤ (l.set i x).countP p + 1
  | [], _, _ => by simp
  | a :: l, 0, x => by simp only [List.set_cons_zero, List.countP_cons]; split <;> split <;> omega
  | a :: l, i + 1, x => by
    have := cnt_set (p := p) (l := l) (i := i) (x := x)
    simp only [List.set_cons_succ, List.countP_cons]
    omega
theorem cnt_same {p : Option (Nd κ) → Bool} : ∀ {l : Nds κ} {i : Nat} {x y : Option (Nd κ)}, l[i]? = some y → p y = p x → (l.set i x).countP p = l.countP p
  | [], _, _, _, h, _ => by simp at h
  | a :: l, 0, x, y, h, e => by
    simp only [List.getElem?_cons_zero, Option.some.injEq] at h
    subst h
    simp only [List.set_cons_zero, List.countP_cons, e]
  | a :: l, i + 1, x, y, h, e => by
    simp only [List.getElem?_cons_succ] at h
    have := cnt_same (p := p) (l := l) (i := i) h e
    simp only [List.set_cons_succ, List.countP_cons, this]
theorem nn_some {l : Nds κ} {i : Nat} {x y : Nd κ} (h : nd l i = some y) : nn (l.set i (some x)) = nn l :=
  cnt_same (y := some y) (by rw [nd_at (nd_lt h), h]) rfl
theorem nn_ex {l : Nds κ} (h : 0 < nn l) : ∃ i, i < l.length ∧ nd l i = none := by
  obtain ⟨a, ha, hp⟩ := List.countP_pos_iff.mp h
  obtain ⟨i, hi, e⟩ := List.getElem_of_mem ha
  refine ⟨i, hi, ?_⟩
  unfold nd
  rw [List.getElem?_eq_getElem hi, e]
  cases a with
  | none => rfl
  | some _ => cases hp
theorem nn_new (n : Nat) : nn (List.replicate n (none : Option (Nd κ))) = n := by
  unfold nn
  rw [List.countP_eq_length_filter, List.filter_replicate]
  simp
theorem nd_new (n : Nat) : nd (List.replicate n (none : Option (Nd κ))) = fun _ => none := by
  funext i
  unfold nd
  rw [List.getElem?_replicate]
  split <;> rfl
theorem TW.new (arr : List V) (n : Nat) : TW O (κ := κ) ⟨arr, List.replicate n none, n⟩ := by
  unfold TW
  simp only [nd_new, List.length_replicate]
  exact WF.new
theorem PutN.ok {t t' : Tb κ} {k : κ} {kv u : V} (W : TW O t) (h : PutN O t k kv u t') : TW O t' ∧ t'.nds.length = t.nds.length ∧ t'.arr = t.arr ∧ nn t.nds ≤ nn t'.nds + 1 := by
  unfold TW at *
  cases h with
  | repl a ha hlt hv =>
    refine ⟨?_, by simp, rfl, cnt_set⟩
    simp only [List.length_set]
    rw [nd_set hlt]
    exact WF.repl W hlt ha.symm rfl
  | coll a f h ha F e hv hh =>
    have hf : f < t.nds.length := Nat.lt_of_lt_of_le F.lt W.frn
    have hal := nd_lt e
    refine ⟨?_, by simp, rfl, ?_⟩
    · simp only [List.length_set]
      rw [nd_set (by rw [List.length_set]; exact hal), nd_set hf]
      exact WF.coll W F e hh ha.symm rfl
    · show nn t.nds ≤ nn ((t.nds.set f _).set a _) + 1
      have hfa : a ≠ f := fun z => by rw [z, F.none] at e; cases e
      rw [nn_some (y := h) (by rw [nd_set hf, fu_ne hfa]; exact e)]
      exact cnt_set
  | move a f p h q ha F e hv hh hp hq =>
    have hf : f < t.nds.length := Nat.lt_of_lt_of_le F.lt W.frn
    have hal := nd_lt e
    have hpl := nd_lt hp
    refine ⟨?_, by simp, rfl, ?_⟩
    · simp only [List.length_set]
      rw [nd_set (by rw [List.length_set, List.length_set]; exact hal), nd_set (by rw [List.length_set]; exact hf), nd_set hpl]
      exact WF.move W F e hh hp hq ha.symm rfl
    · show nn t.nds ≤ nn (((t.nds.set p _).set f _).set a _) + 1
      have hfa : a ≠ f := fun z => by rw [z, F.none] at e; cases e
      obtain ⟨rk, hr⟩ := W.rnk
      have hpa : a ≠ p := fun z => by have := hr _ _ ⟨q, hp, hq⟩; rw [z] at this; omega
      have e1 : nn (((t.nds.set p (some { q with link := some f })).set f (some h)).set a (some ⟨k, kv, u, none, false⟩)) = nn ((t.nds.set p (some { q with link := some f })).set f (some h)) :=
        nn_some (y := h) (by rw [nd_set (by rw [List.length_set]; exact hf), fu_ne hfa, nd_set hpl, fu_ne hpa]; exact e)
      have e2 : nn (t.nds.set p (some { q with link := some f })) = nn t.nds := nn_some hp
      rw [e1, ← e2]
      exact cnt_set
theorem PutS.ok {t t' : Tb κ} {k : κ} {kv u : V} (W : TW O t) (h : PutS O t k kv u t') : TW O t' ∧ t'.nds.length = t.nds.length ∧ t'.arr.length = t.arr.length ∧ nn t.nds ≤ nn t'.nds + 1 ∧ (inside O t k → nn t'.nds = nn t.nds) := by
  cases h with
  | ins i e h1 h2 => exact ⟨W, rfl, by simp, by simp, fun _ => rfl⟩
  | fnd r x ni f e =>
    refine ⟨?_, by simp, rfl, ?_, fun z => absurd z ni⟩
    · unfold TW at *
      simp only [List.length_set]
      refine WF.like W (fun i => ?_) (Nat.le_refl _) (fun i h1 h2 => absurd h1 (by omega))
      rw [nd_set (nd_lt e)]
      by_cases h : i = r
      · subst h; rw [fu_same, e]; rfl
      · rw [fu_ne h]
    · show nn t.nds ≤ nn (t.nds.set r _) + 1
      exact cnt_set
  | skip ni f e => exact ⟨W, rfl, rfl, by simp, fun z => absurd z ni⟩
  | new ni f e h =>
    obtain ⟨a, b, c, d⟩ := h.ok O W
    exact ⟨a, b, by rw [c], d, fun z => absurd z ni⟩
inductive PutA : Tb κ → List (κ × V × V) → Tb κ → Prop
  | nil {t : Tb κ} : PutA t [] t
  | cons {t t1 t' : Tb κ} {k : κ} {kv u : V} {l : List (κ × V × V)} : PutS O t k kv u t1 → PutA t1 l t' → PutA t ((k, kv, u) :: l) t'
theorem PutA.snoc {t t1 t2 : Tb κ} {k : κ} {kv u : V} {l : List (κ × V × V)} (h : PutA O t l t1) (h2 : PutS O t1 k kv u t2) : PutA O t (l ++ [(k, kv, u)]) t2 := by
  induction h with
  | nil => exact .cons h2 .nil
  | cons a _ ih => exact .cons a (ih h2)
/-- how many of some keys want a node where there are n places -/
def inB (n : Nat) (k : κ) : Bool := match O.wh k with
  | some i => decide (1 ≤ i) && decide (i ≤ n)
  | none => false
theorem inB_iff {t : Tb κ} {k : κ} : inside O t k ↔ inB O t.arr.length k = true := by
  unfold inside inB
  cases h : O.wh k with
  | none => simp
  | some i => simp
def outs (n : Nat) (l : List (κ × V × V)) : Nat := l.countP fun p => !inB O n p.1
theorem PutA.ok {t t' : Tb κ} {l : List (κ × V × V)} (h : PutA O t l t') (W : TW O t) : TW O t' ∧ t'.nds.length = t.nds.length ∧ t'.arr.length = t.arr.length ∧ nn t.nds ≤ nn t'.nds + outs O t.arr.length l := by
  induction h with
  | nil => exact ⟨W, rfl, rfl, by simp⟩
  | @cons t t1 t' k kv u l a _ ih =>
    obtain ⟨w1, e1, e2, e3, e4⟩ := a.ok O W
    obtain ⟨w2, f1, f2, f3⟩ := ih w1
    refine ⟨w2, f1.trans e1, f2.trans e2, ?_⟩
    rw [e2] at f3
    unfold outs at *
    rw [List.countP_cons]
    by_cases hi : inB O t.arr.length k = true
    · have := e4 ((inB_iff O).mpr hi)
      simp only [hi]
      simp only [Bool.not_true, Bool.false_eq_true, if_false]
      omega
    · simp only [Bool.not_eq_true] at hi
      simp only [hi, Bool.not_false, if_true]
      omega
/-! growing -/
def liveN (l : Nds κ) : List (κ × V × V) := l.filterMap fun o => match o with
  | some x => if x.val = .non then none else some (x.key, x.kv, x.val)
  | none => none
def liveA (a : Nat) : List V → List (κ × V × V)
  | [] => []
  | v :: l => if v = .non then liveA (a + 1) l else (O.ki (a + 1 : Nat), .int (a + 1 : Nat), v) :: liveA (a + 1) l
def padA (l : List V) (n : Nat) : List V := l ++ List.replicate (n - l.length) .non
inductive Rsz (t : Tb κ) (n m : Nat) : Tb κ → Prop
  | mk {t1 t' : Tb κ} : PutA O ⟨t.arr.take n, List.replicate m none, m⟩ (liveA O n (t.arr.drop n)) t1 → PutA O { t1 with arr := padA t1.arr n } (liveN t.nds) t' → Rsz t n m t'
theorem outs_liveA (a n : Nat) (h : n ≤ a) : ∀ l : List V, outs O n (liveA O a l) = (liveA O a l).length := by
  intro l
  induction l generalizing a with
  | nil => rfl
  | cons v l ih =>
    unfold liveA
    split
    · exact ih _ (by omega)
    · unfold outs at *
      rw [List.countP_cons, ih _ (by omega)]
      have : inB O n (O.ki ((a + 1 : Nat) : Int)) = false := by
        unfold inB
        rw [O.wk]
        simp
        omega
      simp only [this]
      rfl
/-- the keys with a value, by the array, then a key, then the nodes -/
def arrK (a : Nat) : List V → List κ
  | [] => []
  | v :: l => if v = .non then arrK (a + 1) l else O.ki (a + 1 : Nat) :: arrK (a + 1) l
theorem arrK_live (a : Nat) : ∀ l : List V, arrK O a l = (liveA O a l).map (·.1) := by
  intro l
  induction l generalizing a with
  | nil => rfl
  | cons v l ih =>
    unfold arrK liveA
    split
    · exact ih _
    · rw [ih]; rfl
def ndK (l : Nds κ) : List κ := (liveN l).map (·.1)
def keysK (t : Tb κ) (k : κ) : List κ := arrK O 0 t.arr ++ [k] ++ ndK t.nds
def cntIn (n : Nat) (l : List κ) : Nat := l.countP (inB O n)
/-- the best size by powers below p, and how many are inside -/
def bestK (l : List κ) : Nat → Nat × Nat
  | 0 => (0, 0)
  | p + 1 => if 2 ^ p < 2 * cntIn O (2 ^ p) l then (2 ^ p, cntIn O (2 ^ p) l) else bestK l p
theorem bestK_in (l : List κ) (p : Nat) : (bestK O l p).2 = cntIn O (bestK O l p).1 l := by
  induction p with
  | zero =>
    show 0 = cntIn O 0 l
    unfold cntIn
    symm
    rw [List.countP_eq_zero]
    intro k _
    unfold inB
    cases O.wh k with
    | none => simp
    | some i => simp; omega
  | succ p ih =>
    unfold bestK
    split
    · rfl
    · exact ih
def p2 (n : Nat) : Nat := if n = 0 then 0 else 2 ^ bitsN (n - 1)
end
end Up

set_option Elab.async false
set_option linter.all false
set_option pp.maxSteps 600
set_option maxRecDepth 100000
set_option maxHeartbeats 4000000
set_option exponentiation.threshold 200000
namespace Up
open PySem PySem.Spec PyProof.Rows L2
/-! ### objects of the module of tables -/
def tbF (n m : V) (la ln : Addr) (k : Nat) : List (Str × V) := [("number", n), ("meta", m), ("array", .ref la), ("nodes", .ref ln), ("free", .int k)]
structure TbC (K : PySem.W.Frag) (mg : Str → Option Value) (D : Addr) : Prop where
  own : OwnC K D
  n1 : NoAttr K D "number"
  n2 : NoAttr K D "meta"
  n3 : NoAttr K D "array"
  n4 : NoAttr K D "nodes"
  n5 : NoAttr K D "free"
  mg : mg "Table" = some (.ref D)
def ndV (kv v l : V) (d : Bool) : List (Str × V) := [("key", kv), ("value", v), ("link", l), ("is_dead", .bl d)]
structure NdC (K : PySem.W.Frag) (mg : Str → Option Value) (N : Addr) : Prop where
  cl : Cls K N
  n1 : NoAttr K N "key"
  n2 : NoAttr K N "value"
  n3 : NoAttr K N "link"
  n4 : NoAttr K N "is_dead"
  mg : mg "Node" = some (.ref N)
theorem show_exT {p : Addr → Prop} (h : ∃ a, p a) : ∃ a, p a := h
section
variable {K : PySem.W.Frag} {mg : Str → Option Value} {H : Hp} {D N a dx la ln : Addr} {n m kv v l : V} {k : Nat} {d : Bool} {T : V → Prop}
theorem rdT1 (O : TbC K mg D) (h : H a = some (.ins D dx (tbF n m la ln k))) (q : T n) : ∃ a' C' dx fs v, V.ref a = .ref a' ∧ H a' = some (.ins C' dx fs) ∧ Cls K C' ∧ NoAttr K C' "number" ∧ fs.lookup ("number" : Str) = some v ∧ T v := ⟨a, D, dx, _, _, rfl, h, O.own.cl, O.n1, rfl, q⟩
theorem rdT2 (O : TbC K mg D) (h : H a = some (.ins D dx (tbF n m la ln k))) (q : T m) : ∃ a' C' dx fs v, V.ref a = .ref a' ∧ H a' = some (.ins C' dx fs) ∧ Cls K C' ∧ NoAttr K C' "meta" ∧ fs.lookup ("meta" : Str) = some v ∧ T v := ⟨a, D, dx, _, _, rfl, h, O.own.cl, O.n2, rfl, q⟩
theorem rdT3 (O : TbC K mg D) (h : H a = some (.ins D dx (tbF n m la ln k))) (q : T (.ref la)) : ∃ a' C' dx fs v, V.ref a = .ref a' ∧ H a' = some (.ins C' dx fs) ∧ Cls K C' ∧ NoAttr K C' "array" ∧ fs.lookup ("array" : Str) = some v ∧ T v := ⟨a, D, dx, _, _, rfl, h, O.own.cl, O.n3, rfl, q⟩
theorem rdT4 (O : TbC K mg D) (h : H a = some (.ins D dx (tbF n m la ln k))) (q : T (.ref ln)) : ∃ a' C' dx fs v, V.ref a = .ref a' ∧ H a' = some (.ins C' dx fs) ∧ Cls K C' ∧ NoAttr K C' "nodes" ∧ fs.lookup ("nodes" : Str) = some v ∧ T v := ⟨a, D, dx, _, _, rfl, h, O.own.cl, O.n4, rfl, q⟩
theorem rdT5 (O : TbC K mg D) (h : H a = some (.ins D dx (tbF n m la ln k))) (q : T (.int k)) : ∃ a' C' dx fs v, V.ref a = .ref a' ∧ H a' = some (.ins C' dx fs) ∧ Cls K C' ∧ NoAttr K C' "free" ∧ fs.lookup ("free" : Str) = some v ∧ T v := ⟨a, D, dx, _, _, rfl, h, O.own.cl, O.n5, rfl, q⟩
theorem rdN1 (O : NdC K mg N) (h : H a = some (.ins N dx (ndV kv v l d))) (q : T kv) : ∃ a' C' dx fs v, V.ref a = .ref a' ∧ H a' = some (.ins C' dx fs) ∧ Cls K C' ∧ NoAttr K C' "key" ∧ fs.lookup ("key" : Str) = some v ∧ T v := ⟨a, N, dx, _, _, rfl, h, O.cl, O.n1, rfl, q⟩
theorem rdN2 (O : NdC K mg N) (h : H a = some (.ins N dx (ndV kv v l d))) (q : T v) : ∃ a' C' dx fs v, V.ref a = .ref a' ∧ H a' = some (.ins C' dx fs) ∧ Cls K C' ∧ NoAttr K C' "value" ∧ fs.lookup ("value" : Str) = some v ∧ T v := ⟨a, N, dx, _, _, rfl, h, O.cl, O.n2, rfl, q⟩
theorem rdN3 (O : NdC K mg N) (h : H a = some (.ins N dx (ndV kv v l d))) (q : T l) : ∃ a' C' dx fs v, V.ref a = .ref a' ∧ H a' = some (.ins C' dx fs) ∧ Cls K C' ∧ NoAttr K C' "link" ∧ fs.lookup ("link" : Str) = some v ∧ T v := ⟨a, N, dx, _, _, rfl, h, O.cl, O.n3, rfl, q⟩
theorem rdN4 (O : NdC K mg N) (h : H a = some (.ins N dx (ndV kv v l d))) (q : T (.bl d)) : ∃ a' C' dx fs v, V.ref a = .ref a' ∧ H a' = some (.ins C' dx fs) ∧ Cls K C' ∧ NoAttr K C' "is_dead" ∧ fs.lookup ("is_dead" : Str) = some v ∧ T v := ⟨a, N, dx, _, _, rfl, h, O.cl, O.n4, rfl, q⟩
end
/-! ### keys -/
structure Ky where
  x : Any
  no : Int
def isFA : Any → Bool
  | .num n => isF n
  | _ => false
def isNanA : Any → Bool
  | .num (.f _ t _) => decide (t = .str "nan")
  | _ => false
def KyAt (C D : Addr) (H : Hp) (v : V) (k : Ky) : Prop := AnyAt C D H v k.x ∧ ∀ a, k.x = .obj a → ∃ dx fs, H a = some (.ins D dx fs) ∧ fs.lookup ("number" : Str) = some (V.int k.no)
theorem KyAt.same {C D : Addr} {H H' : Hp} {v : V} {k : Ky} (h : KyAt C D H v k) (s : Same H H') : KyAt C D H' v k := ⟨h.1.same s, fun a e => by
  obtain ⟨dx, fs, h1, h2⟩ := h.2 a e
  exact ⟨dx, fs, s _ _ h1, h2⟩⟩
def sumS (x : Str) : Int := x.cps.toList.foldl (fun a c => (31 * a + ((c : Nat) : Int)).fmod 4294967296) 0
def fsumN (s : Int) : V → Int → Int
  | .int m, p => let u := (p + ((Builtin.Int.intBits m : Nat) : Int) + s * (m * 2 ^ 31 / 2 ^ Builtin.Int.intBits m)).fmod 4294967296; if u ≤ 2147483647 then u else 4294967295 - u
  | _, _ => 0
def oddI (n : Nat) : Int := Builtin.bitOr ((n : Int) - 1) 1
def posI (k : Ky) (n : Nat) : Int := match k.x with
  | .bl b => Builtin.bitAnd (b2i b) ((n : Int) - 1)
  | .str s => Builtin.bitAnd (sumS s) ((n : Int) - 1)
  | .num (.i i) => (i.fmod 18446744073709551616).fmod (oddI n)
  | .num (.f s t p) => (fsumN s t p).fmod (oddI n)
  | .obj _ => k.no.fmod (oddI n)
  | .non => 0
theorem sumS_nn (x : Str) : 0 ≤ sumS x ∧ sumS x < 4294967296 := by
  unfold sumS
  suffices ∀ (l : List Nat) (a : Int), 0 ≤ a ∧ a < 4294967296 → 0 ≤ l.foldl (fun a c => (31 * a + ((c : Nat) : Int)).fmod 4294967296) a ∧ l.foldl (fun a c => (31 * a + ((c : Nat) : Int)).fmod 4294967296) a < 4294967296 from this _ 0 (by decide)
  intro l
  induction l with
  | nil => exact fun a h => h
  | cons c l ih =>
    intro a h
    refine ih _ ?_
    show 0 ≤ (31 * a + (c : Int)).fmod 4294967296 ∧ (31 * a + (c : Int)).fmod 4294967296 < 4294967296
    rw [Int.fmod_eq_emod_of_nonneg _ (by decide)]
    exact ⟨Int.emod_nonneg _ (by decide), Int.emod_lt_of_pos _ (by decide)⟩
theorem or_one (m : Nat) : m ||| 1 = 2 * (m / 2) + 1 := by
  apply Nat.eq_of_testBit_eq
  intro i
  cases i with
  | zero => simp [Nat.testBit_zero, Nat.or_mod_two_eq_one]
  | succ i =>
    rw [Nat.testBit_or, Nat.testBit_succ, Nat.testBit_succ, Nat.testBit_succ]
    have e1 : (1 : Nat) / 2 = 0 := by decide
    have e2 : (2 * (m / 2) + 1) / 2 = m / 2 := by omega
    rw [e1, e2, Nat.zero_testBit, Bool.or_false]
theorem oddI_eq {n : Nat} (h : 0 < n) : oddI n = ((2 * ((n - 1) / 2) + 1 : Nat) : Int) := by
  unfold oddI
  have e : ((n : Int) - 1) = ((n - 1 : Nat) : Int) := by omega
  rw [e, L2.bitOr_nn (by omega) (by decide), Int.toNat_natCast]
  show ((n - 1 ||| 1 : Nat) : Int) = _
  rw [or_one]
theorem fmod_in {x m : Int} (h : 0 < m) : 0 ≤ x.fmod m ∧ x.fmod m < m := by
  rw [Int.fmod_eq_emod_of_nonneg _ (by omega)]
  exact ⟨Int.emod_nonneg _ (by omega), Int.emod_lt_of_pos _ h⟩
theorem posI_lt (k : Ky) {n : Nat} (h : 0 < n) : 0 ≤ posI k n ∧ posI k n < n := by
  have ho : 0 < oddI n ∧ oddI n ≤ n := by rw [oddI_eq h]; omega
  have hm : ∀ x : Int, 0 ≤ x.fmod (oddI n) ∧ x.fmod (oddI n) < n := fun x => by
    have := fmod_in (x := x) ho.1
    omega
  have ha : ∀ x : Int, 0 ≤ x → 0 ≤ Builtin.bitAnd x ((n : Int) - 1) ∧ Builtin.bitAnd x ((n : Int) - 1) < n := fun x hx => by
    rw [PyProof.Rows.bitAnd_pp hx (by omega)]
    have h1 : x.toNat &&& ((n : Int) - 1).toNat ≤ ((n : Int) - 1).toNat := Nat.and_le_right
    omega
  unfold posI
  split
  · rename_i b _
    exact ha _ (by cases b <;> decide)
  · exact ha _ (sumS_nn _).1
  · exact hm _
  · exact hm _
  · exact hm _
  · omega
def whA : Any → Option Int
  | .num (.i n) => some n
  | _ => none
def KK : KO Ky where
  sm := fun k k' => sameA k.x k'.x
  mp := fun k n => (posI k n).toNat
  wh := fun k => whA k.x
  ki := fun i => ⟨.num (.i i), 0⟩
  lt := fun k n h => by have := posI_lt k h; omega
  wk := fun _ => rfl
theorem mp_int (k : Ky) {n : Nat} (h : 0 < n) : ((KK.mp k n : Nat) : Int) = posI k n := by
  have := posI_lt k h
  show (((posI k n).toNat : Nat) : Int) = _
  omega
section
variable {P : Program} {w : World} {K : PySem.W.Frag} {mg : Str → Option Value} {base : Heap} {C D : Addr}
theorem AnyAt.kf2 (T : FlC K mg C) (O : ObC K C D) {H : Hp} {v : V} : ∀ {x : Any}, AnyAt C D H v x → ∃ t, KnF K C H v t (isFA x)
  | .num n, ⟨h, _⟩ => by
    obtain ⟨t, hk, _, _⟩ := h.kf T
    exact ⟨t, hk⟩
  | .non, h => by
    have h : v = .non := h
    subst h
    exact ⟨_, kf_non T⟩
  | .bl _, h => by
    have h : v = .bl _ := h
    subst h
    exact ⟨_, kf_bl T⟩
  | .str _, h => by
    have h : v = .str _ := h
    subst h
    exact ⟨_, kf_str T⟩
  | .obj _, ⟨e, dx, fs, h⟩ => by
    subst e
    exact ⟨_, ⟨kn_ins O.own h, O.nf⟩⟩
theorem AnyAt.isI {H : Hp} {v : V} : ∀ {x : Any}, AnyAt C D H v x → isI v = (whA x).isSome
  | .num (.i _), ⟨h, _⟩ => by have h : v = .int _ := h; subst h; rfl
  | .num (.f _ _ _), ⟨h, _⟩ => by obtain ⟨a, e, _⟩ := h; subst e; rfl
  | .non, h => by have h : v = .non := h; subst h; rfl
  | .bl _, h => by have h : v = .bl _ := h; subst h; rfl
  | .str _, h => by have h : v = .str _ := h; subst h; rfl
  | .obj _, ⟨e, _⟩ => by subst e; rfl
end
end Up

set_option Elab.async false
set_option linter.all false
set_option pp.maxSteps 600
set_option maxRecDepth 100000
set_option maxHeartbeats 4000000
set_option exponentiation.threshold 200000
namespace Up
open PySem PySem.Spec PyProof.Rows L2
local macro_rules | `(tactic| walk_at "u") => `(tactic| first
  | with_reducible refine g_seq ?_
  | with_reducible refine g_asg ?_
  | with_reducible refine g_op ?_
  | ((with_reducible show tVar _ _ _ _); apply g_var; exact rfl)
  | with_reducible refine g_c ?_
  | with_reducible refine g_name ?_
  | with_reducible refine g_ifs ?_
  | with_reducible refine g_tt ?_
  | with_reducible refine g_tB ?_
  | with_reducible refine g_bl ?_
  | with_reducible refine g_ret ?_
  | with_reducible refine g_cb ?_
  | with_reducible refine g_cons ?_
  | with_reducible refine g_nil ?_
  | with_reducible refine g_call ?_
  | with_reducible refine g_and ?_
  | with_reducible refine g_or ?_
  | with_reducible refine g_not ?_
  | with_reducible refine g_andV ?_
  | with_reducible refine g_orV ?_
  | with_reducible refine g_notV ?_
  | with_reducible refine g_if ?_
  | with_reducible refine g_un ?_
  | with_reducible refine g_neg ?_
  | with_reducible refine g_addI ?_
  | with_reducible refine g_subI ?_
  | with_reducible refine g_subB ?_
  | with_reducible refine g_I0 ?_
  | with_reducible refine g_cmpI ?_
  | with_reducible refine g_eqI ?_
  | with_reducible refine g_neI ?_
  | with_reducible refine g_eqS ?_
  | with_reducible refine g_neS ?_
  | with_reducible refine g_eqB ?_
  | with_reducible refine g_neB ?_
  | with_reducible refine g_bits ?_
  | with_reducible refine g_bitsI ?_
  | with_reducible refine g_fld ?_
  | with_reducible refine g_tup ?_
  | with_reducible refine g_lst ?_
  | with_reducible refine g_gtup ?_
  | with_reducible refine g_make ?_
  | with_reducible refine g_lc ?_
  | with_reducible refine g_yesT ?_
  | with_reducible refine g_intI ?_
  | with_reducible refine g_intB ?_
  | with_reducible refine g_max2 ?_
  | with_reducible refine g_abs1 ?_
  | with_reducible refine g_for ?_
  | with_reducible refine g_iList ?_
  | with_reducible refine g_iTup ?_
  | with_reducible refine g_iRng1 ?_
  | with_reducible refine g_iEnum ?_
  | with_reducible refine g_slice ?_
  | with_reducible refine g_po0 ?_
  | with_reducible refine g_po1 ?_
  | with_reducible refine g_gsub ?_
  | with_reducible refine g_par ?_
  | with_reducible refine g_par2 ?_
  | with_reducible refine g_rfl ?_
  | with_reducible refine g_meth ?_
  | with_reducible refine g_gcons ?_
  | with_reducible refine g_gnil ?_
  | with_reducible refine g_gfld ?_
  | with_reducible refine g_sfld ?_
  | with_reducible refine g_drop ?_
  | with_reducible refine g_next ?_
  | with_reducible refine iteT ?_
  | with_reducible refine iteF ?_)
local macro_rules | `(tactic| walk_at "go") => `(tactic| (repeat walk_at "u"))
local macro_rules | `(tactic| walk_at "t1") => `(tactic| (first
  | walk_at "u"
  | with_reducible refine g_chain ?_
  | with_reducible refine g_par3 ?_
  | with_reducible refine g_par3' ?_
  | with_reducible refine g_augS ?_
  | with_reducible refine g_nt ?_
  | with_reducible refine g_nf ?_
  | with_reducible refine g_methK ?_
  | with_reducible refine g_makeK ?_
  | with_reducible refine g_iRng2 ?_
  | with_reducible refine g_bm ?_
  | with_reducible refine g_fldaug ?_
  | with_reducible refine g_iStr ?_
  | with_reducible refine g_ipI ?_
  | ((with_reducible show tAug _ _ _ _ _ _); refine ⟨_, rfl, ?_⟩)
  | ((with_reducible refine show_exT ?_); first
    | refine rdT3 (by assumption) (by assumption) ?_
    | refine rdT4 (by assumption) (by assumption) ?_
    | refine rdT5 (by assumption) (by assumption) ?_
    | refine rdT1 (by assumption) (by assumption) ?_
    | refine rdT2 (by assumption) (by assumption) ?_
    | refine rdN1 (by assumption) (by assumption) ?_
    | refine rdN2 (by assumption) (by assumption) ?_
    | refine rdN3 (by assumption) (by assumption) ?_
    | refine rdN4 (by assumption) (by assumption) ?_)))
local macro_rules | `(tactic| walk_at "t") => `(tactic| (repeat walk_at "t1"))
local macro_rules | `(tactic| walk_at "v") => `(tactic| (repeat (first
  | walk_at "t1"
  | with_reducible refine g_js ?_
  | with_reducible refine g_js0 ?_
  | with_reducible refine g_fmt ?_
  | with_reducible refine g_joined ?_
  | with_reducible refine g_isBool ?_
  | with_reducible refine g_notBool ?_
  | with_reducible refine g_revL ?_
  | with_reducible refine g_self ?_
  | with_reducible refine g_selfN ?_
  | with_reducible refine g_rN ?_
  | with_reducible refine g_rNN ?_
  | with_reducible refine g_iN ?_
  | with_reducible refine g_iNN ?_
  | with_reducible refine g_sN ?_
  | with_reducible refine g_sNN ?_
  | with_reducible refine g_bN ?_
  | with_reducible refine g_bNN ?_)))

section
variable {P : Program} {w : World} {K : PySem.W.Frag} {mg : Str → Option Value} {base : Heap} {C D N : Addr}
/-! is_whole -/
theorem sc_iswhole : FnScope ["key"] ["key"] (defScope s_iswhole) := ⟨rfl, rfl, rfl, by decide +kernel, rfl, by decide +kernel, by decide +kernel⟩
def sp_iswhole (K : PySem.W.Frag) : Sp := fun vs H Q _ => ∃ x t, vs = [x] ∧ Kn K H x t ∧ Q (.bl (isI x)) H
theorem ok_iswhole {f : Addr} {fd : FuncData} (F : FunD K "is_whole" "is_whole" (defArgs s_iswhole) (defBody s_iswhole) (defScope s_iswhole) [] [] f fd) (B : Blt mg) : FnOk P w K mg base CX0 1 f fd ["key"] (sp_iswhole K) := by
  refine F.ok sc_iswhole (fun vs H Q E h => ?_) (fun cdv A outer s H vs Q E hr h => ?_)
  · obtain ⟨x, t, rfl, _⟩ := h; rfl
  · obtain ⟨x, t, rfl, hk, q⟩ := h
    refine ⟨_, PSs.nox (pss_one (ps_ret (pe_and (pe_callB call_isi (by rfl) B.isinstance (by decide +kernel) (pa_cons (pv 0) (pa_cons (pe_tyInt B) pa_nil))) (pe_one (pe_not (pe_callB call_isi (by rfl) B.isinstance (by decide +kernel) (pa_cons (pv 0) (pa_cons (pe_tyBool B) pa_nil)))))))), ?_⟩
    walk_at "t"
    refine g_isiInt hk ?_
    walk_at "t"
    cases x <;> first | (refine iteF ?_; exact q) | skip
    · refine iteT ?_; walk_at "t"; refine g_isiBool hk ?_; walk_at "t"; exact q
    · refine iteT ?_; walk_at "t"; refine g_isiBool hk ?_; walk_at "t"; exact q
/-! is_nan -/
theorem sc_isnan : FnScope ["key"] ["key"] (defScope s_isnan) := ⟨rfl, rfl, rfl, by decide +kernel, rfl, by decide +kernel, by decide +kernel⟩
def sp_isnan (C D : Addr) : Sp := fun vs H Q _ => ∃ v x, vs = [v] ∧ AnyAt C D H v x ∧ Q (.bl (isNanA x)) H
theorem ok_isnan {f : Addr} {fd : FuncData} (F : FunD K "is_nan" "is_nan" (defArgs s_isnan) (defBody s_isnan) (defScope s_isnan) [] [] f fd) (B : Blt mg) (T : FlC K mg C) (O : ObC K C D) : FnOk P w K mg base CX0 1 f fd ["key"] (sp_isnan C D) := by
  have g_Float : mg "Float" = some (.ref C) := T.mg
  refine F.ok sc_isnan (fun vs H Q E h => ?_) (fun cdv A outer s H vs Q E hr h => ?_)
  · obtain ⟨x, t, rfl, _⟩ := h; rfl
  · obtain ⟨v, x, rfl, hx, q⟩ := h
    obtain ⟨t, hk⟩ := hx.kf2 T O
    refine ⟨_, PSs.nox (pss_one (ps_ret (pe_and (pe_callB call_isi (by rfl) B.isinstance (by decide +kernel) (pa_cons (pv 0) (pa_cons (pe_gref g_Float) pa_nil))) (pe_one (pe_cmpR (op_oEq hr.units) (pe_fld (pv 0) rfl) pe_str (nomark _)))))), ?_⟩
    walk_at "t"
    refine g_isiF hk ?_
    walk_at "t"
    cases x with
    | num n =>
      cases n with
      | i k => refine iteF ?_; exact q
      | f sg tp p =>
        obtain ⟨⟨a, rfl, hf, ho⟩, _⟩ := hx
        obtain ⟨dx, hd⟩ := id hf
        refine iteT ?_
        walk_at "t"
        refine ⟨a, C, dx, _, _, rfl, hd, T.own.cl, T.nT, fl_top _ _ _, ?_⟩
        walk_at "t"
        have hs : scal tp (.str "nan") = true := by
          rcases ho.2 with ⟨rfl, _, _⟩ | ⟨rfl, _⟩ | ⟨m, rfl, _⟩ <;> rfl
        exact g_eqV hs q
    | non => refine iteF ?_; exact q
    | bl _ => refine iteF ?_; exact q
    | str _ => refine iteF ?_; exact q
    | obj _ => refine iteF ?_; exact q
/-! whole_of -/
def wholeF (s : Int) : V → Int → Option Int
  | .int m, p => if p < 0 ∨ 64 < ((Builtin.Int.intBits m : Nat) : Int) + p then none else if -9223372036854775808 ≤ s * (m * 2 ^ p.toNat) ∧ s * (m * 2 ^ p.toNat) ≤ 9223372036854775807 then some (s * (m * 2 ^ p.toNat)) else none
  | _, _ => none
def wholeN : Nm → Option Int
  | .i n => some n
  | .f s t p => wholeF s t p
theorem sc_wholeof : FnScope ["number", "whole"] ["number"] (defScope s_wholeof) := ⟨rfl, rfl, rfl, by decide +kernel, rfl, by decide +kernel, by decide +kernel⟩
def sp_wholeof (C : Addr) : Sp := fun vs H Q _ => ∃ v n, vs = [v] ∧ NumAt C H v n ∧ ∀ H', Same H H' → Q (oV (wholeN n)) H'
theorem ok_wholeof {f : Addr} {fd : FuncData} (F : FunD K "whole_of" "whole_of" (defArgs s_wholeof) (defBody s_wholeof) (defScope s_wholeof) [] [] f fd) (B : Blt mg) (T : FlC K mg C) (i_LEAST : ∃ t, mg "LEAST" = some (.int (-9223372036854775808) t)) (i_MOST : ∃ t, mg "MOST" = some (.int 9223372036854775807 t))
    (c_isfinite : Mt P w K mg base CX0 1 C "is_finite" ["self"] (sp_isfinite C)) (c_ratio : Mt P w K mg base CX0 1 C "ratio" ["self"] (sp_ratio C)) : FnOk P w K mg base CX0 2 f fd ["number"] (sp_wholeof C) := by
  have g_Float : mg "Float" = some (.ref C) := T.mg
  refine F.ok sc_wholeof (fun vs H Q E h => ?_) (fun cdv A outer s H vs Q E hr h => ?_)
  · obtain ⟨x, t, rfl, _⟩ := h; rfl
  · obtain ⟨v, n, rfl, hn, q⟩ := h
    obtain ⟨t, hk, _, _⟩ := hn.kf T
    refine ⟨_, PSs.nox (pss_cons (ps_if (pt_not (pt_val (pe_callB call_isi (by rfl) B.isinstance (by decide +kernel) (pa_cons (pv 0) (pa_cons (pe_gref g_Float) pa_nil))))) (pss_one (ps_ret (pv 0))) pss_nil)
  (pss_cons (ps_if (PW.pt (pw_or (pt_not (pt_val (pe_mt0 c_isfinite (hr.mono (by first | decide | omega)) pass0 (pv 0)))) (pw_or (pt_cmpR op_oLt (pe_fld (pv 0) rfl) pe_int (nomark _)) (pw_or1 (pt_cmpR op_oGt (pe_op op_oAdd (pe_bits (pe_fld (pv 0) rfl)) (pe_fld (pv 0) rfl)) pe_int (nomark _)))))) (pss_one (ps_ret pe_non)) pss_nil)
  (pss_cons (ps_set (i := 1) sc_wholeof.nd rfl (Or.inl rfl) (pe_ix ix_seq (pe_mt0 c_ratio (hr.mono (by first | decide | omega)) pass0 (pv 0)) pe_int (fun _ _ => rfl)))
  (pss_one (ps_ret (pe_ifExp (pt_chain op_oLe op_oLe (pe_gint i_LEAST) (pv 1) (pe_gint i_MOST)) (pv 1) pe_non)))))), ?_⟩
    walk_at "t"
    refine g_isiF hk ?_
    walk_at "t"
    cases n with
    | i k =>
      have hn : v = .int k := hn
      subst hn
      refine iteT ?_
      walk_at "t"
      exact q H (Same.refl _)
    | f sg tp p =>
      obtain ⟨a, rfl, hf, ho⟩ := hn
      obtain ⟨dx, hd⟩ := id hf
      refine iteF ?_
      walk_at "t"
      refine ⟨a, dx, _, rfl, hd, rfl, ?_⟩
      walk_at "t"
      refine ⟨a, sg, tp, p, rfl, hf, ho, ?_⟩
      walk_at "t"
      rcases id ho.2 with ⟨rfl, _, _⟩ | ⟨rfl, _⟩ | ⟨m, rfl, hfin⟩
      · refine iteT ?_
        refine iteT ?_
        walk_at "t"
        exact q H (Same.refl _)
      · refine iteT ?_
        refine iteT ?_
        walk_at "t"
        exact q H (Same.refl _)
      · refine iteF ?_
        walk_at "t"
        refine ⟨a, C, dx, _, _, rfl, hd, T.own.cl, T.nP, fl_power _ _ _, ?_⟩
        walk_at "t"
        refine g_ite (fun h1 => ?_) fun h1 => ?_
        · refine iteT ?_
          walk_at "t"
          have e : wholeN (.f sg (.int m) p) = none := if_pos (.inl h1)
          rw [e] at q
          exact q H (Same.refl _)
        · walk_at "t"
          refine ⟨a, C, dx, _, _, rfl, hd, T.own.cl, T.nT, fl_top _ _ _, ?_⟩
          walk_at "t"
          refine ⟨a, C, dx, _, _, rfl, hd, T.own.cl, T.nP, fl_power _ _ _, ?_⟩
          walk_at "t"
          refine g_ite (fun h2 => ?_) fun h2 => ?_
          · have e : wholeN (.f sg (.int m) p) = none := if_pos (.inr h2)
            rw [e] at q
            walk_at "t"
            exact q H (Same.refl _)
          · walk_at "t"
            refine ⟨a, dx, _, rfl, hd, rfl, ?_⟩
            walk_at "t"
            refine ⟨a, sg, m, p, rfl, hf, ho, fun H1 b nb s1 hb => ?_⟩
            walk_at "t"
            refine g_ixT hb rfl ?_
            have er : ratN sg m p = sg * (m * 2 ^ p.toNat) := if_neg h1
            rw [er]
            have e : wholeN (.f sg (.int m) p) = if -9223372036854775808 ≤ sg * (m * 2 ^ p.toNat) ∧ sg * (m * 2 ^ p.toNat) ≤ 9223372036854775807 then some (sg * (m * 2 ^ p.toNat)) else none := if_neg (fun z => z.elim h1 h2)
            rw [e] at q
            generalize sg * (m * 2 ^ p.toNat) = y at q ⊢
            walk_at "t"
            refine g_ite (fun h3 => ?_) fun h3 => ?_
            · walk_at "t"
              refine g_ite (fun h4 => ?_) fun h4 => ?_
              · rw [if_pos ⟨h3, h4⟩] at q
                walk_at "t"
                exact q _ s1
              · rw [if_neg (fun z => h4 z.2)] at q
                walk_at "t"
                exact q _ s1
            · rw [if_neg (fun z => h3 z.1)] at q
              walk_at "t"
              exact q _ s1
/-! plain_key -/
def plNm (n : Nm) : Option Int → Any
  | some i => .num (.i i)
  | none => .num n
def plNv (v : V) : Option Int → V
  | some i => .int i
  | none => v
def plA : Any → Any
  | .num n => plNm n (wholeN n)
  | x => x
def plV (v : V) : Any → V
  | .num n => plNv v (wholeN n)
  | _ => v
theorem wholeF_small {s : Int} {t : V} {p i : Int} (h : wholeF s t p = some i) : -9223372036854775808 ≤ i ∧ i ≤ 9223372036854775807 := by
  unfold wholeF at h
  split at h
  · split at h
    · cases h
    · split at h
      · rename_i h2
        cases h
        exact h2
      · cases h
  · cases h
theorem AnyAt.pl {H : Hp} {v : V} : ∀ {x : Any}, AnyAt C D H v x → AnyAt C D H (plV v x) (plA x)
  | .num (.i i), h => by
    obtain ⟨h1, h2⟩ := h
    have h1 : v = .int i := h1
    subst h1
    exact ⟨rfl, h2⟩
  | .num (.f s t p), h => by
    show AnyAt C D H (plNv v (wholeN (.f s t p))) (plNm (.f s t p) (wholeN (.f s t p)))
    cases e : wholeN (.f s t p) with
    | none => exact h
    | some i =>
      have := wholeF_small e
      exact ⟨rfl, big64 (by omega) (by omega)⟩
  | .non, h => h
  | .bl _, h => h
  | .str _, h => h
  | .obj _, h => h
def plK (k : Ky) : Ky := ⟨plA k.x, k.no⟩
theorem plA_obj {x : Any} {a : Addr} (h : plA x = .obj a) : x = .obj a := by
  cases x with
  | num n =>
    have h : plNm n (wholeN n) = .obj a := h
    cases e : wholeN n with
    | none => rw [e] at h; cases h
    | some i => rw [e] at h; cases h
  | _ => exact h
theorem KyAt.pl {H : Hp} {v : V} {k : Ky} (h : KyAt C D H v k) : KyAt C D H (plV v k.x) (plK k) := ⟨h.1.pl, fun a e => h.2 a (plA_obj e)⟩
theorem sc_plainkey : FnScope ["key", "whole"] ["key"] (defScope s_plainkey) := ⟨rfl, rfl, rfl, by decide +kernel, rfl, by decide +kernel, by decide +kernel⟩
def sp_plainkey (C D : Addr) : Sp := fun vs H Q _ => ∃ v x, vs = [v] ∧ AnyAt C D H v x ∧ ∀ H', Same H H' → Q (plV v x) H'
theorem ok_plainkey {f : Addr} {fd : FuncData} (F : FunD K "plain_key" "plain_key" (defArgs s_plainkey) (defBody s_plainkey) (defScope s_plainkey) [] [] f fd) (B : Blt mg) (T : FlC K mg C) (O : ObC K C D) (c_wholeof : Fn P w K mg base CX0 2 "whole_of" ["number"] [] (sp_wholeof C)) : FnOk P w K mg base CX0 3 f fd ["key"] (sp_plainkey C D) := by
  have g_Float : mg "Float" = some (.ref C) := T.mg
  refine F.ok sc_plainkey (fun vs H Q E h => ?_) (fun cdv A outer s H vs Q E hr h => ?_)
  · obtain ⟨x, t, rfl, _⟩ := h; rfl
  · obtain ⟨v, x, rfl, hx, q⟩ := h
    obtain ⟨t, hk⟩ := hx.kf2 T O
    refine ⟨_, PSs.nox (pss_cons (ps_if (pt_val (pe_callB call_isi (by rfl) B.isinstance (by decide +kernel) (pa_cons (pv 0) (pa_cons (pe_gref g_Float) pa_nil)))) (pss_cons (ps_set (i := 1) sc_plainkey.nd rfl (Or.inl rfl) (pe_fn c_wholeof (hr.mono (by first | decide | omega)) pass0 (pa_cons (pv 0) pa_nil)))
  (pss_one (ps_ret (pe_ifExp (pt_cmpR op_isN (pv 1) pe_non (nomark _)) (pv 0) (pv 1))))) pss_nil)
  (pss_one (ps_ret (pv 0)))), ?_⟩
    walk_at "t"
    refine g_isiF hk ?_
    walk_at "t"
    cases x with
    | num n =>
      cases n with
      | i k =>
        have h : v = .int k := hx.1
        subst h
        refine iteF ?_
        walk_at "t"
        exact q H (Same.refl _)
      | f sg tp p =>
        refine iteT ?_
        walk_at "t"
        refine ⟨v, _, rfl, hx.1, fun H1 s1 => ?_⟩
        walk_at "t"
        have q : Q (plNv v (wholeN (.f sg tp p))) H1 := q _ s1
        cases e : wholeN (.f sg tp p) with
        | none =>
          rw [e] at q
          refine iteT ?_
          walk_at "t"
          exact q
        | some i =>
          rw [e] at q
          refine iteF ?_
          walk_at "t"
          exact q
    | non => refine iteF ?_; walk_at "t"; exact q H (Same.refl _)
    | bl _ => refine iteF ?_; walk_at "t"; exact q H (Same.refl _)
    | str _ => refine iteF ?_; walk_at "t"; exact q H (Same.refl _)
    | obj _ => refine iteF ?_; walk_at "t"; exact q H (Same.refl _)
/-! sum_of -/
theorem sc_sumof : FnScope ["text", "found", "sign"] ["text"] (defScope s_sumof) := ⟨rfl, rfl, rfl, by decide +kernel, rfl, by decide +kernel, by decide +kernel⟩
def sp_sumof : Sp := fun vs H Q _ => ∃ x, vs = [.str x] ∧ Q (.int (sumS x)) H
theorem ok_sumof {f : Addr} {fd : FuncData} (F : FunD K "sum_of" "sum_of" (defArgs s_sumof) (defBody s_sumof) (defScope s_sumof) [] [] f fd) (B : Blt mg) : FnOk P w K mg base CX0 1 f fd ["text"] sp_sumof := by
  refine F.ok sc_sumof (fun vs H Q E h => ?_) (fun cdv A outer s H vs Q E hr h => ?_)
  · obtain ⟨x, rfl, _⟩ := h; rfl
  · obtain ⟨x, rfl, q⟩ := h
    refine ⟨_, PSs.nox (pss_cons (ps_set (i := 1) sc_sumof.nd rfl (Or.inl rfl) pe_int)
  (pss_cons (ps_for PassesOwn.never rfl (pi_str (pv 0)) (pg_name (i := 2) sc_sumof.nd rfl (Or.inl rfl))
    (pss_one (ps_set (i := 1) sc_sumof.nd rfl (Or.inl rfl) (pe_op op_oMod (pe_op op_oAdd (pe_op op_oMul pe_int (pv 1)) (pe_callB call_ord (by rfl) B.ord (by decide +kernel) (pa_cons (pv 2) pa_nil))) (pe_op op_oPow pe_int pe_int)))))
  (pss_one (ps_ret (pv 1))))), ?_⟩
    walk_at "t"
    refine ⟨x, rfl, ?_⟩
    have pre : ∀ i, i ≤ x.cps.size → 0 ≤ (x.cps.toList.take i).foldl (fun a c => (31 * a + ((c : Nat) : Int)).fmod 4294967296) (0 : Int) ∧ (x.cps.toList.take i).foldl (fun a c => (31 * a + ((c : Nat) : Int)).fmod 4294967296) (0 : Int) < 4294967296 := fun i _ => sumS_nn ⟨(x.cps.toList.take i).toArray⟩
    refine for_str (fun i σ' H' => H' = H ∧ i ≤ x.cps.size ∧ ∃ e, σ' = [some (.str x), some (.int ((x.cps.toList.take i).foldl (fun a c => (31 * a + ((c : Nat) : Int)).fmod 4294967296) (0 : Int))), e]) ⟨rfl, Nat.zero_le _, _, rfl⟩ ?_ ?_
    · rintro i c _ _ hc ⟨rfl, hi, e, rfl⟩
      have hlt : i < x.cps.size := by
        by_cases z : i < x.cps.size
        · exact z
        · rw [Array.getElem?_eq_none (by omega)] at hc; cases hc
      have b := pre i hi
      have e2 : (x.cps.toList.take (i + 1)) = x.cps.toList.take i ++ [c] := by
        rw [List.take_add_one, Array.getElem?_toList, hc]; rfl
      walk_at "t"
      refine g_mulI (.of_left (by decide)) ?_
      walk_at "t"
      refine ⟨_, rfl, rfl, ?_⟩
      walk_at "t"
      refine g_II ⟨by decide, by decide, by decide⟩ ?_
      walk_at "t"
      refine g_modI (by decide) ?_
      walk_at "t"
      refine ⟨rfl, hlt, some (.str ⟨#[c]⟩), ?_⟩
      rw [e2, List.foldl_append]
      rfl
    · rintro _ _ ⟨rfl, _, e, rfl⟩
      walk_at "t"
      have e : x.cps.toList.take x.cps.size = x.cps.toList := List.take_of_length_le (by simp)
      rw [e]
      exact q
/-! float_sum -/
theorem sc_floatsum : FnScope ["number", "width", "part", "found"] ["number"] (defScope s_floatsum) := ⟨rfl, rfl, rfl, by decide +kernel, rfl, by decide +kernel, by decide +kernel⟩
def sp_floatsum (C : Addr) : Sp := fun vs H Q _ => ∃ a s t p, vs = [.ref a] ∧ FlAt C H a s t p ∧ FlOk s t p ∧ Q (.int (fsumN s t p)) H
theorem ok_floatsum {f : Addr} {fd : FuncData} (F : FunD K "float_sum" "float_sum" (defArgs s_floatsum) (defBody s_floatsum) (defScope s_floatsum) [] [] f fd) (B : Blt mg) (T : FlC K mg C) (i_LOW_HALF : ∃ t, mg "LOW_HALF" = some (.int 2147483647 t)) (c_isfinite : Mt P w K mg base CX0 1 C "is_finite" ["self"] (sp_isfinite C)) : FnOk P w K mg base CX0 2 f fd ["number"] (sp_floatsum C) := by
  refine F.ok sc_floatsum (fun vs H Q E h => ?_) (fun cdv A outer s H vs Q E hr h => ?_)
  · obtain ⟨_, _, _, _, rfl, _⟩ := h; rfl
  · obtain ⟨a, sg, tp, p, rfl, hf, ho, q⟩ := h
    obtain ⟨dx, hd⟩ := id hf
    refine ⟨_, PSs.nox (pss_cons (ps_if (pt_not (pt_val (pe_mt0 c_isfinite (hr.mono (by first | decide | omega)) pass0 (pv 0)))) (pss_one (ps_ret pe_int)) pss_nil)
  (pss_cons (ps_set (i := 1) sc_floatsum.nd rfl (Or.inl rfl) (pe_bits (pe_fld (pv 0) rfl)))
  (pss_cons (ps_set (i := 2) sc_floatsum.nd rfl (Or.inl rfl) (pe_op op_oShr (pe_op op_oShl (pe_fld (pv 0) rfl) pe_int) (pv 1)))
  (pss_cons (ps_set (i := 3) sc_floatsum.nd rfl (Or.inl rfl) (pe_op op_oMod (pe_op op_oAdd (pe_op op_oAdd (pe_fld (pv 0) rfl) (pv 1)) (pe_op op_oMul (pe_fld (pv 0) rfl) (pv 2))) (pe_op op_oPow pe_int pe_int)))
  (pss_one (ps_ret (pe_ifExp (pt_cmpR op_oLe (pv 3) (pe_gint i_LOW_HALF) (nomark _)) (pv 3) (pe_op op_oSub (pe_op op_oSub (pe_op op_oPow pe_int pe_int) pe_int) (pv 3))))))))), ?_⟩
    walk_at "t"
    refine ⟨a, dx, _, rfl, hd, rfl, ?_⟩
    walk_at "t"
    refine ⟨a, sg, tp, p, rfl, hf, ho, ?_⟩
    walk_at "t"
    rcases id ho.2 with ⟨rfl, _, _⟩ | ⟨rfl, _⟩ | ⟨m, rfl, hfin⟩
    · refine iteT ?_
      walk_at "t"
      exact q
    · refine iteT ?_
      walk_at "t"
      exact q
    · refine iteF ?_
      walk_at "t"
      refine ⟨a, C, dx, _, _, rfl, hd, T.own.cl, T.nT, fl_top _ _ _, ?_⟩
      walk_at "t"
      refine ⟨a, C, dx, _, _, rfl, hd, T.own.cl, T.nT, fl_top _ _ _, ?_⟩
      walk_at "t"
      obtain ⟨f1, f2, _⟩ := id hfin
      refine g_II (shl_small (by decide) (by decide) (lt_pow_mono (a := 53) (by omega) (by decide))) ?_
      walk_at "t"
      refine g_II (Int.natCast_nonneg _) ?_
      walk_at "t"
      refine ⟨a, C, dx, _, _, rfl, hd, T.own.cl, T.nP, fl_power _ _ _, ?_⟩
      walk_at "t"
      refine ⟨a, C, dx, _, _, rfl, hd, T.own.cl, T.nS, fl_sign _ _ _, ?_⟩
      walk_at "t"
      refine g_mulI (sgn_mul ho.1) ?_
      walk_at "t"
      refine g_II ⟨by decide, by decide, by decide⟩ ?_
      walk_at "t"
      refine g_modI (by decide) ?_
      walk_at "t"
      have e : fsumN sg (.int m) p = if (p + ((Builtin.Int.intBits m : Nat) : Int) + sg * (m * 2 ^ 31 / 2 ^ Builtin.Int.intBits m)).fmod 4294967296 ≤ 2147483647 then (p + ((Builtin.Int.intBits m : Nat) : Int) + sg * (m * 2 ^ 31 / 2 ^ Builtin.Int.intBits m)).fmod 4294967296 else 4294967295 - (p + ((Builtin.Int.intBits m : Nat) : Int) + sg * (m * 2 ^ 31 / 2 ^ Builtin.Int.intBits m)).fmod 4294967296 := rfl
      rw [e] at q
      have e3 : ((Builtin.Int.intBits m : Nat) : Int).toNat = Builtin.Int.intBits m := Int.toNat_natCast _
      rw [e3]
      have e4 : (2 : Int) ^ (32 : Int).toNat = 4294967296 := by decide
      rw [e4]
      have e5 : (m * 2 ^ (31 : Int).toNat) = m * 2 ^ 31 := rfl
      rw [e5]
      generalize (p + ((Builtin.Int.intBits m : Nat) : Int) + sg * (m * 2 ^ 31 / 2 ^ Builtin.Int.intBits m)).fmod 4294967296 = y at q ⊢
      refine g_ite (fun h1 => ?_) fun h1 => ?_
      · rw [if_pos h1] at q
        walk_at "t"
        exact q
      · rw [if_neg h1] at q
        walk_at "t"
        refine g_II ⟨by decide, by decide, by decide⟩ ?_
        walk_at "t"
        exact q
end
end Up

set_option Elab.async false
set_option linter.all false
set_option pp.maxSteps 600
set_option maxRecDepth 100000
set_option maxHeartbeats 4000000
set_option exponentiation.threshold 200000
namespace Up
open PySem PySem.Spec PyProof.Rows L2
local macro_rules | `(tactic| walk_at "u") => `(tactic| first
  | with_reducible refine g_seq ?_
  | with_reducible refine g_asg ?_
  | with_reducible refine g_op ?_
  | ((with_reducible show tVar _ _ _ _); apply g_var; exact rfl)
  | with_reducible refine g_c ?_
  | with_reducible refine g_name ?_
  | with_reducible refine g_ifs ?_
  | with_reducible refine g_tt ?_
  | with_reducible refine g_tB ?_
  | with_reducible refine g_bl ?_
  | with_reducible refine g_ret ?_
  | with_reducible refine g_cb ?_
  | with_reducible refine g_cons ?_
  | with_reducible refine g_nil ?_
  | with_reducible refine g_call ?_
  | with_reducible refine g_and ?_
  | with_reducible refine g_or ?_
  | with_reducible refine g_not ?_
  | with_reducible refine g_andV ?_
  | with_reducible refine g_orV ?_
  | with_reducible refine g_notV ?_
  | with_reducible refine g_if ?_
  | with_reducible refine g_un ?_
  | with_reducible refine g_neg ?_
  | with_reducible refine g_addI ?_
  | with_reducible refine g_subI ?_
  | with_reducible refine g_subB ?_
  | with_reducible refine g_I0 ?_
  | with_reducible refine g_cmpI ?_
  | with_reducible refine g_eqI ?_
  | with_reducible refine g_neI ?_
  | with_reducible refine g_eqS ?_
  | with_reducible refine g_neS ?_
  | with_reducible refine g_eqB ?_
  | with_reducible refine g_neB ?_
  | with_reducible refine g_bits ?_
  | with_reducible refine g_bitsI ?_
  | with_reducible refine g_fld ?_
  | with_reducible refine g_tup ?_
  | with_reducible refine g_lst ?_
  | with_reducible refine g_gtup ?_
  | with_reducible refine g_make ?_
  | with_reducible refine g_lc ?_
  | with_reducible refine g_yesT ?_
  | with_reducible refine g_intI ?_
  | with_reducible refine g_intB ?_
  | with_reducible refine g_max2 ?_
  | with_reducible refine g_abs1 ?_
  | with_reducible refine g_for ?_
  | with_reducible refine g_iList ?_
  | with_reducible refine g_iTup ?_
  | with_reducible refine g_iRng1 ?_
  | with_reducible refine g_iEnum ?_
  | with_reducible refine g_slice ?_
  | with_reducible refine g_po0 ?_
  | with_reducible refine g_po1 ?_
  | with_reducible refine g_gsub ?_
  | with_reducible refine g_par ?_
  | with_reducible refine g_par2 ?_
  | with_reducible refine g_rfl ?_
  | with_reducible refine g_meth ?_
  | with_reducible refine g_gcons ?_
  | with_reducible refine g_gnil ?_
  | with_reducible refine g_gfld ?_
  | with_reducible refine g_sfld ?_
  | with_reducible refine g_drop ?_
  | with_reducible refine g_next ?_
  | with_reducible refine iteT ?_
  | with_reducible refine iteF ?_)
local macro_rules | `(tactic| walk_at "go") => `(tactic| (repeat walk_at "u"))
local macro_rules | `(tactic| walk_at "t1") => `(tactic| (first
  | walk_at "u"
  | with_reducible refine g_chain ?_
  | with_reducible refine g_par3 ?_
  | with_reducible refine g_par3' ?_
  | with_reducible refine g_augS ?_
  | with_reducible refine g_nt ?_
  | with_reducible refine g_nf ?_
  | with_reducible refine g_methK ?_
  | with_reducible refine g_makeK ?_
  | with_reducible refine g_iRng2 ?_
  | with_reducible refine g_bm ?_
  | with_reducible refine g_fldaug ?_
  | with_reducible refine g_iStr ?_
  | with_reducible refine g_ipI ?_
  | ((with_reducible show tAug _ _ _ _ _ _); refine ⟨_, rfl, ?_⟩)
  | ((with_reducible refine show_exT ?_); first
    | refine rdT3 (by assumption) (by assumption) ?_
    | refine rdT4 (by assumption) (by assumption) ?_
    | refine rdT5 (by assumption) (by assumption) ?_
    | refine rdT1 (by assumption) (by assumption) ?_
    | refine rdT2 (by assumption) (by assumption) ?_
    | refine rdN1 (by assumption) (by assumption) ?_
    | refine rdN2 (by assumption) (by assumption) ?_
    | refine rdN3 (by assumption) (by assumption) ?_
    | refine rdN4 (by assumption) (by assumption) ?_)))
local macro_rules | `(tactic| walk_at "t") => `(tactic| (repeat walk_at "t1"))
local macro_rules | `(tactic| walk_at "v") => `(tactic| (repeat (first
  | walk_at "t1"
  | with_reducible refine g_js ?_
  | with_reducible refine g_js0 ?_
  | with_reducible refine g_fmt ?_
  | with_reducible refine g_joined ?_
  | with_reducible refine g_isBool ?_
  | with_reducible refine g_notBool ?_
  | with_reducible refine g_revL ?_
  | with_reducible refine g_self ?_
  | with_reducible refine g_selfN ?_
  | with_reducible refine g_rN ?_
  | with_reducible refine g_rNN ?_
  | with_reducible refine g_iN ?_
  | with_reducible refine g_iNN ?_
  | with_reducible refine g_sN ?_
  | with_reducible refine g_sNN ?_
  | with_reducible refine g_bN ?_
  | with_reducible refine g_bNN ?_)))

section
variable {P : Program} {w : World} {K : PySem.W.Frag} {mg : Str → Option Value} {base : Heap} {C D N : Addr}
/-! power_for -/
theorem sc_powerfor : FnScope ["count"] ["count"] (defScope s_powerfor) := ⟨rfl, rfl, rfl, by decide +kernel, rfl, by decide +kernel, by decide +kernel⟩
def powF (n : Nat) : Nat := if n = 0 then 0 else 2 ^ bitsN (n - 1)
def sp_powerfor : Sp := fun vs H Q _ => ∃ n : Nat, vs = [.int n] ∧ n ≤ 100000 ∧ Q (.int (powF n : Nat)) H
theorem ok_powerfor {f : Addr} {fd : FuncData} (F : FunD K "power_for" "power_for" (defArgs s_powerfor) (defBody s_powerfor) (defScope s_powerfor) [] [] f fd) (B : Blt mg) : FnOk P w K mg base CX0 1 f fd ["count"] sp_powerfor := by
  refine F.ok sc_powerfor (fun vs H Q E h => ?_) (fun cdv A outer s H vs Q E hr h => ?_)
  · obtain ⟨n, rfl, _⟩ := h; rfl
  · obtain ⟨n, rfl, hn, q⟩ := h
    refine ⟨_, PSs.nox (pss_one (ps_ret (pe_ifExp (pt_cmpR (op_oEq hr.units) (pv 0) pe_int (nomark _)) pe_int (pe_op op_oShl pe_int (pe_bits (pe_op op_oSub (pv 0) pe_int)))))), ?_⟩
    walk_at "go"
    refine g_ite (fun h0 => ?_) fun h0 => ?_
    · walk_at "go"
      have e : powF n = 0 := if_pos (by omega)
      rw [e] at q
      exact q
    · walk_at "go"
      have e1 : ((n : Int) - 1) = ((n - 1 : Nat) : Int) := by omega
      rw [e1, intBits_nat]
      have hb : bitsN (n - 1) ≤ 17 := bits_le (by have : (100000 : Nat) < 2 ^ 17 := by decide
                                                  omega)
      refine g_II (shl_small (by omega) (by omega) (lt_pow_mono (a := 1) (by decide) (by decide))) ?_
      have e : powF n = 2 ^ bitsN (n - 1) := if_neg (by omega)
      rw [e] at q
      rw [Int.one_mul, Int.toNat_natCast]
      rw [Int.natCast_pow] at q
      exact q
/-! place_of -/
theorem sc_placeof1 : FnScope ["key", "size"] ["key", "size"] (defScope s_placeof1) := ⟨rfl, rfl, rfl, by decide +kernel, rfl, by decide +kernel, by decide +kernel⟩
structure NaC (K : PySem.W.Frag) (mg : Str → Option Value) (D : Addr) : Prop where
  ex : ∃ A, mg "Native" = some (.ref A) ∧ PySem.W.kitOne K (.ref D) (.ref A) = some false
def sp_placeofT (C D : Addr) : Sp := fun vs H Q _ => ∃ (v : V) (k : Ky) (n : Nat), vs = [v, .int n] ∧ KyAt C D H v k ∧ k.x ≠ .non ∧ 0 < n ∧ Q (.int (KK.mp k n : Nat)) H
theorem ok_placeofT {f : Addr} {fd : FuncData} (F : FunD K "place_of" "place_of" (defArgs s_placeof1) (defBody s_placeof1) (defScope s_placeof1) [] [] f fd) (B : Blt mg) (T : FlC K mg C) (O : ObC K C D) (NA : NaC K mg D) (TT : TbC K mg D) (c_sumof : Fn P w K mg base CX0 1 "sum_of" ["text"] [] sp_sumof) (c_floatsum : Fn P w K mg base CX0 2 "float_sum" ["number"] [] (sp_floatsum C)) :
    FnOk P w K mg base CX0 3 f fd ["key", "size"] (sp_placeofT C D) := by
  have g_Float : mg "Float" = some (.ref C) := T.mg
  obtain ⟨CA, g_Native, nat⟩ := NA.ex
  refine F.ok sc_placeof1 (fun vs H Q E h => ?_) (fun cdv A outer s H vs Q E hr h => ?_)
  · obtain ⟨_, _, _, rfl, _⟩ := h; rfl
  · obtain ⟨v, k, n, rfl, ⟨hx, hn⟩, nn, n0, q⟩ := h
    obtain ⟨t, hk⟩ := hx.kf2 T O
    rw [mp_int k n0] at q
    have ho : oddI n ≠ 0 := by rw [oddI_eq n0]; omega
    refine ⟨_, PSs.nox (pss_cons (ps_if (pt_val (pe_callB call_isi (by rfl) B.isinstance (by decide +kernel) (pa_cons (pv 0) (pa_cons (pe_tyBool B) pa_nil)))) (pss_one (ps_ret (pe_op op_oAnd (pe_callTy call_int1 (by rfl) B.int (by decide +kernel) (pa_cons (pv 0) pa_nil)) (pe_op op_oSub (pv 1) pe_int)))) pss_nil)
  (pss_cons (ps_if (pt_val (pe_callB call_isi (by rfl) B.isinstance (by decide +kernel) (pa_cons (pv 0) (pa_cons (pe_tyStr B) pa_nil)))) (pss_one (ps_ret (pe_op op_oAnd (pe_fn c_sumof (hr.mono (by first | decide | omega)) pass0 (pa_cons (pv 0) pa_nil)) (pe_op op_oSub (pv 1) pe_int)))) pss_nil)
  (pss_cons (ps_if (pt_val (pe_callB call_isi (by rfl) B.isinstance (by decide +kernel) (pa_cons (pv 0) (pa_cons (pe_tyInt B) pa_nil)))) (pss_one (ps_ret (pe_op op_oMod (pe_op op_oMod (pv 0) (pe_op op_oPow pe_int pe_int)) (pe_op op_oOr (pe_op op_oSub (pv 1) pe_int) pe_int)))) pss_nil)
  (pss_cons (ps_if (pt_val (pe_callB call_isi (by rfl) B.isinstance (by decide +kernel) (pa_cons (pv 0) (pa_cons (pe_gref g_Float) pa_nil)))) (pss_one (ps_ret (pe_op op_oMod (pe_fn c_floatsum (hr.mono (by first | decide | omega)) pass0 (pa_cons (pv 0) pa_nil)) (pe_op op_oOr (pe_op op_oSub (pv 1) pe_int) pe_int)))) pss_nil)
  (pss_cons (ps_if (pt_val (pe_callB call_isi (by rfl) B.isinstance (by decide +kernel) (pa_cons (pv 0) (pa_cons (pe_gref g_Native) pa_nil)))) (pss_one (ps_ret (pe_op op_oAnd (pe_fn c_sumof (hr.mono (by first | decide | omega)) pass0 (pa_cons (pe_fld (pv 0) rfl) pa_nil)) (pe_op op_oSub (pv 1) pe_int)))) pss_nil)
  (pss_one (ps_ret (pe_op op_oMod (pe_fld (pv 0) rfl) (pe_op op_oOr (pe_op op_oSub (pv 1) pe_int) pe_int))))))))), ?_⟩
    obtain ⟨x, no⟩ := k
    walk_at "t"
    refine g_isiBool hk.kn ?_
    walk_at "t"
    cases x with
    | non => exact absurd rfl nn
    | bl b =>
      have hx : v = .bl b := hx
      subst hx
      refine iteT ?_
      walk_at "t"
      exact q
    | str z =>
      have hx : v = .str z := hx
      subst hx
      refine iteF ?_
      walk_at "t"
      refine g_isiStr hk.kn ?_
      walk_at "t"
      refine iteT ?_
      walk_at "t"
      refine ⟨z, rfl, ?_⟩
      walk_at "t"
      exact q
    | num m =>
      cases m with
      | i i =>
        have hx : v = .int i := hx.1
        subst hx
        refine iteF ?_
        walk_at "t"
        refine g_isiStr hk.kn ?_
        walk_at "t"
        refine iteF ?_
        walk_at "t"
        refine g_isiInt hk.kn ?_
        walk_at "t"
        refine iteT ?_
        walk_at "t"
        refine g_II ⟨by decide, by decide, by decide⟩ ?_
        walk_at "t"
        refine g_modI (by decide) ?_
        walk_at "t"
        exact g_modI ho q
      | f sg tp p =>
        obtain ⟨⟨a, rfl, hf, ok⟩, _⟩ := hx
        refine iteF ?_
        walk_at "t"
        refine g_isiStr hk.kn ?_
        walk_at "t"
        refine iteF ?_
        walk_at "t"
        refine g_isiInt hk.kn ?_
        walk_at "t"
        refine iteF ?_
        walk_at "t"
        refine g_isiF hk ?_
        walk_at "t"
        refine iteT ?_
        walk_at "t"
        refine ⟨a, sg, tp, p, rfl, hf, ok, ?_⟩
        walk_at "t"
        exact g_modI ho q
    | obj a =>
      obtain ⟨rfl, dx0, fs0, h0⟩ := hx
      obtain ⟨dx, fs, h1, h2⟩ := hn a rfl
      refine iteF ?_
      walk_at "t"
      refine g_isiStr hk.kn ?_
      walk_at "t"
      refine iteF ?_
      walk_at "t"
      refine g_isiInt hk.kn ?_
      walk_at "t"
      refine iteF ?_
      walk_at "t"
      refine g_isiF hk ?_
      walk_at "t"
      refine iteF ?_
      walk_at "t"
      refine g_isi (kn_ins O.own h1).ty (.own _) nat ?_
      walk_at "t"
      refine ⟨a, D, dx, fs, _, rfl, h1, TT.own.cl, TT.n1, h2, ?_⟩
      walk_at "t"
      exact g_modI ho q
/-! best_size -/
def bsG (cs : List Nat) : Nat → Nat × Nat × Nat
  | 0 => (0, 0, 0)
  | p + 1 => if 2 ^ p < 2 * ((bsG cs p).1 + cs.getD p 0) then ((bsG cs p).1 + cs.getD p 0, 2 ^ p, (bsG cs p).1 + cs.getD p 0) else ((bsG cs p).1 + cs.getD p 0, (bsG cs p).2.1, (bsG cs p).2.2)
theorem sc_bestsize : FnScope ["counts", "used", "best", "inside", "power", "count"] ["counts"] (defScope s_bestsize) := ⟨rfl, rfl, rfl, by decide +kernel, rfl, by decide +kernel, by decide +kernel⟩
def sp_bestsize : Sp := fun vs H Q _ => ∃ (l : Addr) (cs : List Nat), vs = [.ref l] ∧ H l = some (.lst (cs.map fun (c : Nat) => V.int c)) ∧ cs.length ≤ 100 ∧ RetT H [.int ((bsG cs cs.length).2.1 : Nat), .int ((bsG cs cs.length).2.2 : Nat)] Q
theorem ok_bestsize {f : Addr} {fd : FuncData} (F : FunD K "best_size" "best_size" (defArgs s_bestsize) (defBody s_bestsize) (defScope s_bestsize) [] [] f fd) (B : Blt mg) : FnOk P w K mg base CX0 1 f fd ["counts"] sp_bestsize := by
  refine F.ok sc_bestsize (fun vs H Q E h => ?_) (fun cdv A outer s H vs Q E hr h => ?_)
  · obtain ⟨_, _, rfl, _⟩ := h; rfl
  · obtain ⟨l, cs, rfl, hl, hz, q⟩ := h
    refine ⟨_, PSs.nox (pss_cons (ps_asg (pe_tupN (pa_cons pe_int (pa_cons pe_int (pa_cons pe_int pa_nil)))) (pg_tup rfl (pgs_cons (pg_name (i := 1) sc_bestsize.nd rfl (Or.inl rfl)) (pgs_cons (pg_name (i := 2) sc_bestsize.nd rfl (Or.inl rfl)) (pgs_cons (pg_name (i := 3) sc_bestsize.nd rfl (Or.inl rfl)) pgs_nil)))))
  (pss_cons (ps_for PassesOwn.never rfl (pi_enum (by rfl) B.enumerate (pa_cons (pv 0) pa_nil)) (pg_tup rfl (pgs_cons (pg_name (i := 4) sc_bestsize.nd rfl (Or.inl rfl)) (pgs_cons (pg_name (i := 5) sc_bestsize.nd rfl (Or.inl rfl)) pgs_nil)))
    (pss_cons (ps_aug (i := 1) sc_bestsize.nd rfl (.inl rfl) (pv 5) ip_add)
  (pss_one (ps_if (pt_cmpR op_oGt (pe_op op_oMul pe_int (pv 1)) (pe_op op_oShl pe_int (pv 4)) (nomark _)) (pss_one (ps_par (i := 2) (j := 3) rfl sc_bestsize.nd rfl rfl (by decide) rfl rfl (pa_cons (pe_op op_oShl pe_int (pv 4)) (pa_cons (pv 1) pa_nil)) (by rfl))) pss_nil))))
  (pss_one (ps_ret (pe_tupN (pa_cons (pv 2) (pa_cons (pv 3) pa_nil))))))), ?_⟩
    walk_at "t"
    refine g_new (sz rfl) fun p0 H0 n0 s0 h0 _ => ?_
    refine ⟨p0, _, rfl, SqT.of h0, rfl, ?_⟩
    have hl := s0 _ _ hl
    have q : RetT H0 [.int ((bsG cs cs.length).2.1 : Nat), .int ((bsG cs cs.length).2.2 : Nat)] Q := fun H1 a n1 s1 h1 => q _ _ (s0.free n1) (s0.trans s1) h1
    clear n0 h0 s0
    walk_at "t"
    refine ⟨l, _, rfl, SqL.of hl, ?_⟩
    refine for_enum (K := K) (a := l) (xs := cs.map fun (c : Nat) => V.int c) (fun i σ' H' => Same H0 H' ∧ ∃ e1 e2, σ' = [some (.ref l), some (.int ((bsG cs i).1 : Nat)), some (.int ((bsG cs i).2.1 : Nat)), some (.int ((bsG cs i).2.2 : Nat)), e1, e2]) ⟨Same.refl _, _, _, rfl⟩ ?_ ?_ ?_
    · rintro i _ H' _ ⟨s1, _⟩
      exact SqL.of (s1 _ _ hl)
    · rintro i z _ H1 t hz2 ⟨s1, e1, e2, rfl⟩ ht
      have hi : i < cs.length := by
        by_cases y : i < cs.length
        · exact y
        · rw [List.getElem?_eq_none (by simp; omega)] at hz2; cases hz2
      have ec : z = .int ((cs.getD i 0 : Nat) : Int) := by
        rw [List.getElem?_map, List.getElem?_eq_getElem hi] at hz2
        have e : cs.getD i 0 = cs[i] := by rw [List.getD_eq_getElem?_getD, List.getElem?_eq_getElem hi]; rfl
        rw [e]
        exact (Option.some.inj hz2).symm
      subst ec
      have s2 : Same H1 (upd H1 t (.tup [.int (i : Nat), .int ((cs.getD i 0 : Nat) : Int)])) := fun b u e => by rw [upd_ne (ne_of_none e ht)]; exact e
      walk_at "t"
      refine ⟨t, _, rfl, SqT.of upd_same, rfl, ?_⟩
      walk_at "t"
      refine g_mulI (.of_left (by decide)) ?_
      walk_at "t"
      refine g_II (shl_small (by omega) (by omega) (lt_pow_mono (a := 1) (by decide) (by decide))) ?_
      walk_at "t"
      have eb : bsG cs (i + 1) = if 2 ^ i < 2 * ((bsG cs i).1 + cs.getD i 0) then ((bsG cs i).1 + cs.getD i 0, 2 ^ i, (bsG cs i).1 + cs.getD i 0) else ((bsG cs i).1 + cs.getD i 0, (bsG cs i).2.1, (bsG cs i).2.2) := rfl
      have ep : (1 : Int) * 2 ^ (i : Int).toNat = ((2 ^ i : Nat) : Int) := by rw [Int.one_mul, Int.toNat_natCast, Int.natCast_pow]; rfl
      rw [ep]
      refine g_ite (fun h1 => ?_) fun h1 => ?_
      · walk_at "t"
        refine g_II (shl_small (by omega) (by omega) (lt_pow_mono (a := 1) (by decide) (by decide))) ?_
        walk_at "t"
        rw [ep]
        refine ⟨s1.trans s2, some (.int (i : Nat)), some (.int ((cs.getD i 0 : Nat) : Int)), ?_⟩
        rw [eb, if_pos (by omega)]
        simp only [List.set_cons_succ, List.set_cons_zero, Int.natCast_add]
      · walk_at "t"
        refine ⟨s1.trans s2, some (.int (i : Nat)), some (.int ((cs.getD i 0 : Nat) : Int)), ?_⟩
        rw [eb, if_neg (by omega)]
        simp only [List.set_cons_succ, List.set_cons_zero, Int.natCast_add]
    · rintro _ H1 ⟨s1, e1, e2, rfl⟩
      rw [List.length_map]
      walk_at "t"
      exact g_new (sz rfl) fun p H2 n2 s2 h2 _ => q _ _ (s1.free n2) (s1.trans s2) h2
/-! Node(key, value, link) -/
theorem sc_Node_init : FnScope ["self", "key", "value", "link"] ["self", "key", "value", "link"] (defScope s_Node_init) := ⟨rfl, rfl, rfl, by decide +kernel, rfl, by decide +kernel, by decide +kernel⟩
def sp_Ninit (N : Addr) : Sp := fun vs H Q _ => ∃ (x dx : Addr) (kv v l : V), vs = [.ref x, kv, v, l] ∧ H x = some (.ins N dx []) ∧ ∀ H', (∀ b o, b ≠ x → H b = some o → H' b = some o) → H' x = some (.ins N dx (ndV kv v l false)) → Q .non H'
theorem ok_Ninit {f : Addr} {fd : FuncData} (F : FunD K "__init__" "Node.__init__" (defArgs s_Node_init) (defBody s_Node_init) (defScope s_Node_init) [] [] f fd) (B : Blt mg) (T : NdC K mg N) : FnOk P w K mg base CX0 1 f fd ["self", "key", "value", "link"] (sp_Ninit N) := by
  refine F.ok sc_Node_init (fun vs H Q E h => ?_) (fun cdv A outer s H vs Q E hr h => ?_)
  · obtain ⟨_, _, _, _, _, rfl, _⟩ := h; rfl
  · obtain ⟨x, dx, kv, v, l, rfl, hx, q⟩ := h
    refine ⟨_, PSs.nox (pss_cons (ps_fld (pv 0) (pv 1) rfl)
  (pss_cons (ps_fld (pv 0) (pv 2) rfl)
  (pss_cons (ps_fld (pv 0) (pv 3) rfl)
  (pss_one (ps_fld (pv 0) pe_bl rfl))))), ?_⟩
    walk_at "t"
    refine ⟨x, N, dx, _, rfl, hx, T.cl, T.n1, by simp, ?_⟩
    walk_at "t"
    refine ⟨x, N, dx, _, rfl, upd_same, T.cl, T.n2, by show 1 < 1000; decide, ?_⟩
    walk_at "t"
    refine ⟨x, N, dx, _, rfl, upd_same, T.cl, T.n3, by show 2 < 1000; decide, ?_⟩
    walk_at "t"
    refine ⟨x, N, dx, _, rfl, upd_same, T.cl, T.n4, by show 3 < 1000; decide, ?_⟩
    walk_at "t"
    refine q _ (fun b o hb e => ?_) ?_
    · rw [upd_ne hb, upd_ne hb, upd_ne hb, upd_ne hb]; exact e
    · exact upd_same
abbrev CnN (P : Program) (w : World) (K : PySem.W.Frag) (mg : Str → Option Value) (base : Heap) (N : Addr) : Prop := Cn P w K mg base CX0 1 "Node" N ["self", "key", "value", "link"] [] (sp_Ninit N)
theorem mkN {H : Hp} {Q : VK} {E : XK} {kv v l : V} (q : ∀ H' a dx, H a = none → Same H H' → H' a = some (.ins N dx (ndV kv v l false)) → Q (.ref a) H') : MakeR N (sp_Ninit N) ([kv, v, l] ++ []) H Q E := by
  intro x dx H1 n1 n2 ne s1 h1 k1
  refine ⟨x, dx, kv, v, l, rfl, h1, fun H2 k2 h2 => ⟨rfl, ?_⟩⟩
  exact q _ _ _ n1 (fun b o e => k2 b o (fun z => by rw [z, n1] at e; cases e) (s1 _ _ e)) h2
/-! Table(number, array, nodes) -/
theorem sc_Table_init : FnScope ["self", "number", "array", "nodes", "meta"] ["self", "number", "array", "nodes", "meta"] (defScope s_Table_init) := ⟨rfl, rfl, rfl, by decide +kernel, rfl, by decide +kernel, by decide +kernel⟩
def sp_Tinit (D : Addr) : Sp := fun vs H Q _ => ∃ (a dx : Addr) (n m : V) (ar nd : Nat), vs = [.ref a, n, .int ar, .int nd, m] ∧ H a = some (.ins D dx []) ∧ ar ≤ 100000 ∧ nd ≤ 100000 ∧ powF nd ≤ 200000 ∧
  ∀ H' la ln, (∀ b o, b ≠ a → H b = some o → H' b = some o) → H la = none → H ln = none → la ≠ ln → H' a = some (.ins D dx (tbF n m la ln (powF nd))) → H' la = some (.lst (List.replicate ar .non)) → H' ln = some (.lst (List.replicate (powF nd) .non)) → Q .non H'
theorem flat_non : ∀ n : Nat, (List.replicate n [V.non]).flatten = List.replicate n V.non
  | 0 => rfl
  | n + 1 => by rw [List.replicate_succ, List.flatten_cons, flat_non n]; rfl
theorem ok_Tinit {f : Addr} {fd : FuncData} (F : FunD K "__init__" "Table.__init__" (defArgs s_Table_init) (defBody s_Table_init) (defScope s_Table_init) [.int 0, .int 0] [("meta", .non)] f fd) (B : Blt mg) (T : TbC K mg D) (c_powerfor : Fn P w K mg base CX0 1 "power_for" ["count"] [] sp_powerfor) :
    FnOk P w K mg base CX0 2 f fd ["self", "number", "array", "nodes", "meta"] (sp_Tinit D) := by
  refine F.ok sc_Table_init (fun vs H Q E h => ?_) (fun cdv A outer s H vs Q E hr h => ?_)
  · obtain ⟨_, _, _, _, _, _, rfl, _⟩ := h; rfl
  · obtain ⟨a, dx, n, m, ar, nd, rfl, ha, har, hnd, hpw, q⟩ := h
    refine ⟨_, PSs.nox (pss_cons (ps_fld (pv 0) (pv 1) rfl)
  (pss_cons (ps_fld (pv 0) (pv 4) rfl)
  (pss_cons (ps_fld (pv 0) (pe_op op_oMul (pe_lstN (pa_cons pe_non pa_nil)) (pv 2)) rfl)
  (pss_cons (ps_fld (pv 0) (pe_op op_oMul (pe_lstN (pa_cons pe_non pa_nil)) (pe_fn c_powerfor (hr.mono (by first | decide | omega)) pass0 (pa_cons (pv 3) pa_nil))) rfl)
  (pss_one (ps_fld (pv 0) (pe_callB call_len_seq (by rfl) B.len (by decide +kernel) (pa_cons (pe_fld (pv 0) rfl) pa_nil)) rfl)))))), ?_⟩
    walk_at "go"
    refine ⟨a, D, dx, _, rfl, ha, T.own.cl, T.n1, Nat.le_of_ble_eq_true rfl, ?_⟩
    walk_at "go"
    refine ⟨a, D, dx, _, rfl, upd_same, T.own.cl, T.n2, Nat.le_of_ble_eq_true rfl, ?_⟩
    rw [upd_upd]
    generalize e1 : upd H a (.ins D dx (putF "meta" m (putF "number" n []))) = H1
    have h1 : H1 a = some (.ins D dx (putF "meta" m (putF "number" n []))) := by rw [← e1]; exact upd_same
    have k1 : ∀ b o, b ≠ a → H b = some o → H1 b = some o := fun b o hb e => by rw [← e1, upd_ne hb]; exact e
    have z1 : ∀ b, H1 b = none → H b = none := fun b e => by
      by_cases hb : b = a
      · rw [hb, h1] at e; cases e
      · rw [← e1, upd_ne hb] at e; exact e
    walk_at "go"
    refine g_new (sz rfl) fun l2 H2 n2 s2 h2 _ => ?_
    walk_at "go"
    refine ⟨_, h2, by omega, by omega, ?_, fun la H3 n3 s3 h3 _ => ?_⟩
    · rw [Int.toNat_natCast]
      exact Nat.le_trans (show 1 * ar ≤ 100000 by omega) (by decide)
    rw [Int.toNat_natCast, flat_non] at h3
    walk_at "go"
    refine ⟨a, D, dx, _, rfl, s3 _ _ (s2 _ _ h1), T.own.cl, T.n3, Nat.le_of_ble_eq_true rfl, ?_⟩
    have nla : la ≠ a := fun z => by rw [z, s2 _ _ h1] at n3; cases n3
    generalize e4 : upd H3 a _ = H4
    have h4 : H4 a = some (.ins D dx (putF "array" (.ref la) (putF "meta" m (putF "number" n [])))) := by rw [← e4]; exact upd_same
    have k4 : ∀ b o, b ≠ a → H3 b = some o → H4 b = some o := fun b o hb e => by rw [← e4, upd_ne hb]; exact e
    walk_at "go"
    refine g_new (sz rfl) fun l5 H5 n5 s5 h5 _ => ?_
    walk_at "go"
    refine ⟨nd, rfl, hnd, ?_⟩
    refine ⟨_, h5, by omega, by omega, ?_, fun ln H6 n6 s6 h6 _ => ?_⟩
    · rw [Int.toNat_natCast]
      exact Nat.le_trans (show 1 * powF nd ≤ 200000 by omega) (by decide)
    rw [Int.toNat_natCast, flat_non] at h6
    walk_at "go"
    refine ⟨a, D, dx, _, rfl, s6 _ _ (s5 _ _ h4), T.own.cl, T.n4, Nat.le_of_ble_eq_true rfl, ?_⟩
    have nlna : ln ≠ a := fun z => by rw [z, s5 _ _ h4] at n6; cases n6
    generalize e7 : upd H6 a _ = H7
    have h7 : H7 a = some (.ins D dx (putF "nodes" (.ref ln) (putF "array" (.ref la) (putF "meta" m (putF "number" n []))))) := by rw [← e7]; exact upd_same
    have k7 : ∀ b o, b ≠ a → H6 b = some o → H7 b = some o := fun b o hb e => by rw [← e7, upd_ne hb]; exact e
    walk_at "go"
    refine ⟨a, D, dx, _, _, rfl, h7, T.own.cl, T.n4, rfl, ?_⟩
    walk_at "go"
    refine g_lenL (k7 _ _ nlna h6) ?_
    walk_at "go"
    refine ⟨a, D, dx, _, rfl, h7, T.own.cl, T.n5, Nat.le_of_ble_eq_true rfl, ?_⟩
    rw [List.length_replicate]
    have h34 := k4 _ _ nla h3
    refine q _ la ln (fun b o hb e => ?_) (z1 _ (s2.free n3)) ?_ ?_ upd_same ?_ ?_
    · rw [upd_ne hb]
      exact k7 _ _ hb (s6 _ _ (s5 _ _ (k4 _ _ hb (s3 _ _ (s2 _ _ (k1 _ _ hb e))))))
    · have x := s5.free n6
      rw [← e4, upd_ne nlna] at x
      exact z1 _ (s2.free (s3.free x))
    · intro z
      rw [← z] at n6
      rw [s5 _ _ h34] at n6
      cases n6
    · rw [upd_ne nla]
      exact k7 _ _ nla (s6 _ _ (s5 _ _ h34))
    · rw [upd_ne nlna]
      exact k7 _ _ nlna h6
end
end Up

set_option Elab.async false
set_option linter.all false
set_option pp.maxSteps 600
set_option maxRecDepth 100000
set_option maxHeartbeats 4000000
set_option exponentiation.threshold 200000
namespace Up
open PySem PySem.Spec PyProof.Rows L2
local macro_rules | `(tactic| walk_at "u") => `(tactic| first
  | with_reducible refine g_seq ?_
  | with_reducible refine g_asg ?_
  | with_reducible refine g_op ?_
  | ((with_reducible show tVar _ _ _ _); apply g_var; exact rfl)
  | with_reducible refine g_c ?_
  | with_reducible refine g_name ?_
  | with_reducible refine g_ifs ?_
  | with_reducible refine g_tt ?_
  | with_reducible refine g_tB ?_
  | with_reducible refine g_bl ?_
  | with_reducible refine g_ret ?_
  | with_reducible refine g_cb ?_
  | with_reducible refine g_cons ?_
  | with_reducible refine g_nil ?_
  | with_reducible refine g_call ?_
  | with_reducible refine g_and ?_
  | with_reducible refine g_or ?_
  | with_reducible refine g_not ?_
  | with_reducible refine g_andV ?_
  | with_reducible refine g_orV ?_
  | with_reducible refine g_notV ?_
  | with_reducible refine g_if ?_
  | with_reducible refine g_un ?_
  | with_reducible refine g_neg ?_
  | with_reducible refine g_addI ?_
  | with_reducible refine g_subI ?_
  | with_reducible refine g_subB ?_
  | with_reducible refine g_I0 ?_
  | with_reducible refine g_cmpI ?_
  | with_reducible refine g_eqI ?_
  | with_reducible refine g_neI ?_
  | with_reducible refine g_eqS ?_
  | with_reducible refine g_neS ?_
  | with_reducible refine g_eqB ?_
  | with_reducible refine g_neB ?_
  | with_reducible refine g_bits ?_
  | with_reducible refine g_bitsI ?_
  | with_reducible refine g_fld ?_
  | with_reducible refine g_tup ?_
  | with_reducible refine g_lst ?_
  | with_reducible refine g_gtup ?_
  | with_reducible refine g_make ?_
  | with_reducible refine g_lc ?_
  | with_reducible refine g_yesT ?_
  | with_reducible refine g_intI ?_
  | with_reducible refine g_intB ?_
  | with_reducible refine g_max2 ?_
  | with_reducible refine g_abs1 ?_
  | with_reducible refine g_for ?_
  | with_reducible refine g_iList ?_
  | with_reducible refine g_iTup ?_
  | with_reducible refine g_iRng1 ?_
  | with_reducible refine g_iEnum ?_
  | with_reducible refine g_slice ?_
  | with_reducible refine g_po0 ?_
  | with_reducible refine g_po1 ?_
  | with_reducible refine g_gsub ?_
  | with_reducible refine g_par ?_
  | with_reducible refine g_par2 ?_
  | with_reducible refine g_rfl ?_
  | with_reducible refine g_meth ?_
  | with_reducible refine g_gcons ?_
  | with_reducible refine g_gnil ?_
  | with_reducible refine g_gfld ?_
  | with_reducible refine g_sfld ?_
  | with_reducible refine g_drop ?_
  | with_reducible refine g_next ?_
  | with_reducible refine iteT ?_
  | with_reducible refine iteF ?_)
local macro_rules | `(tactic| walk_at "go") => `(tactic| (repeat walk_at "u"))
local macro_rules | `(tactic| walk_at "t1") => `(tactic| (first
  | walk_at "u"
  | with_reducible refine g_chain ?_
  | with_reducible refine g_par3 ?_
  | with_reducible refine g_par3' ?_
  | with_reducible refine g_augS ?_
  | with_reducible refine g_nt ?_
  | with_reducible refine g_nf ?_
  | with_reducible refine g_methK ?_
  | with_reducible refine g_makeK ?_
  | with_reducible refine g_iRng2 ?_
  | with_reducible refine g_bm ?_
  | with_reducible refine g_fldaug ?_
  | with_reducible refine g_iStr ?_
  | with_reducible refine g_ipI ?_
  | ((with_reducible show tAug _ _ _ _ _ _); refine ⟨_, rfl, ?_⟩)
  | ((with_reducible refine show_exT ?_); first
    | refine rdT3 (by assumption) (by assumption) ?_
    | refine rdT4 (by assumption) (by assumption) ?_
    | refine rdT5 (by assumption) (by assumption) ?_
    | refine rdT1 (by assumption) (by assumption) ?_
    | refine rdT2 (by assumption) (by assumption) ?_
    | refine rdN1 (by assumption) (by assumption) ?_
    | refine rdN2 (by assumption) (by assumption) ?_
    | refine rdN3 (by assumption) (by assumption) ?_
    | refine rdN4 (by assumption) (by assumption) ?_)))
local macro_rules | `(tactic| walk_at "t") => `(tactic| (repeat walk_at "t1"))
local macro_rules | `(tactic| walk_at "v") => `(tactic| (repeat (first
  | walk_at "t1"
  | with_reducible refine g_js ?_
  | with_reducible refine g_js0 ?_
  | with_reducible refine g_fmt ?_
  | with_reducible refine g_joined ?_
  | with_reducible refine g_isBool ?_
  | with_reducible refine g_notBool ?_
  | with_reducible refine g_revL ?_
  | with_reducible refine g_self ?_
  | with_reducible refine g_selfN ?_
  | with_reducible refine g_rN ?_
  | with_reducible refine g_rNN ?_
  | with_reducible refine g_iN ?_
  | with_reducible refine g_iNN ?_
  | with_reducible refine g_sN ?_
  | with_reducible refine g_sNN ?_
  | with_reducible refine g_bN ?_
  | with_reducible refine g_bNN ?_)))

/-! ### a table in the heap -/
def lkV : Option Nat → V
  | none => .non
  | some i => .int i
def ndFs (x : Nd Ky) : List (Str × V) := ndV x.kv x.val (lkV x.link) x.dead
def NvAt (N : Addr) (H : Hp) (v : V) : Option (Nd Ky) → Prop
  | none => v = .non
  | some x => ∃ a dx, v = .ref a ∧ H a = some (.ins N dx (ndV x.kv x.val (lkV x.link) x.dead))
structure Fp where
  la : Addr
  ln : Addr
  vs : List V
def Fp.In (F : Fp) (a b : Addr) : Prop := b = a ∨ b = F.la ∨ b = F.ln ∨ V.ref b ∈ F.vs
structure TbAt (D N : Addr) (H : Hp) (a : Addr) (num me : V) (F : Fp) (t : Tb Ky) : Prop where
  obj : ∃ dx, H a = some (.ins D dx (tbF num me F.la F.ln t.free))
  arr : H F.la = some (.lst t.arr)
  lst : H F.ln = some (.lst F.vs)
  len : F.vs.length = t.nds.length
  nds : ∀ (i : Nat) (v : V), F.vs[i]? = some v → NvAt N H v (nd t.nds i)
  inj : ∀ (i j : Nat) (b : Addr), F.vs[i]? = some (V.ref b) → F.vs[j]? = some (V.ref b) → i = j
  ne : F.la ≠ F.ln
/-- keys that nodes may have -/
structure Gk (k : Ky) : Prop where
  nn : k.x ≠ .non
  nan : isNanA k.x = false
  pl : plA k.x = k.x
structure TbS (C D N : Addr) (H : Hp) (a : Addr) (num me : V) (F : Fp) (t : Tb Ky) : Prop where
  at_ : TbAt D N H a num me F t
  wf : TW KK t
  keys : ∀ i x, nd t.nds i = some x → KyAt C D H x.kv x.key ∧ Gk x.key
  sa : t.arr.length ≤ 20000
  sn : t.nds.length ≤ 20000
theorem NvAt.same {N : Addr} {H H' : Hp} {v : V} (s : Same H H') : ∀ {o : Option (Nd Ky)}, NvAt N H v o → NvAt N H' v o
  | none, h => h
  | some _, ⟨a, dx, e, h⟩ => ⟨a, dx, e, s _ _ h⟩
section
variable {P : Program} {w : World} {K : PySem.W.Frag} {mg : Str → Option Value} {base : Heap} {C D N : Addr} {H H' : Hp} {a : Addr} {num me : V} {F : Fp} {t : Tb Ky}
theorem TbAt.same (s : Same H H') (h : TbAt D N H a num me F t) : TbAt D N H' a num me F t := by
  obtain ⟨⟨dx, h1⟩, h2, h3, h4, h5, h6, h7⟩ := h
  exact ⟨⟨dx, s _ _ h1⟩, s _ _ h2, s _ _ h3, h4, fun i v e => (h5 i v e).same s, h6, h7⟩
theorem TbS.same (s : Same H H') (h : TbS C D N H a num me F t) : TbS C D N H' a num me F t := ⟨h.at_.same s, h.wf, fun i x e => ⟨(h.keys i x e).1.same s, (h.keys i x e).2⟩, h.sa, h.sn⟩
theorem NvAt.nd {i : Nat} {v : V} (h : TbAt D N H a num me F t) (e : F.vs[i]? = some v) : NvAt N H v (nd t.nds i) := h.nds i v e
theorem TbAt.get (h : TbAt D N H a num me F t) {i : Nat} (hi : i < t.nds.length) : ∃ v, F.vs[i]? = some v ∧ NvAt N H v (Up.nd t.nds i) := by
  have hl : i < F.vs.length := by rw [h.len]; exact hi
  exact ⟨F.vs[i], List.getElem?_eq_getElem hl, h.nds i _ (List.getElem?_eq_getElem hl)⟩
theorem TbAt.getS (h : TbAt D N H a num me F t) {i : Nat} {x : Nd Ky} (e : Up.nd t.nds i = some x) : ∃ b dx, F.vs[i]? = some (V.ref b) ∧ H b = some (.ins N dx (ndV x.kv x.val (lkV x.link) x.dead)) := by
  obtain ⟨v, e1, hv⟩ := h.get (nd_lt e)
  rw [e] at hv
  obtain ⟨b, dx, rfl, hb⟩ := hv
  exact ⟨b, dx, e1, hb⟩
theorem TbAt.getN (h : TbAt D N H a num me F t) {i : Nat} (hi : i < t.nds.length) (e : Up.nd t.nds i = none) : F.vs[i]? = some V.non := by
  obtain ⟨v, e1, hv⟩ := h.get hi
  rw [e] at hv
  have hv : v = .non := hv
  rw [hv] at e1
  exact e1
/-! is_inside -/
theorem sc_Table_isinside : FnScope ["self", "key"] ["self", "key"] (defScope s_Table_isinside) := ⟨rfl, rfl, rfl, by decide +kernel, rfl, by decide +kernel, by decide +kernel⟩
def sp_isinside (C D N : Addr) : Sp := fun vs H Q _ => ∃ (a : Addr) (v num me : V) (k : Ky) (F : Fp) (t : Tb Ky), vs = [.ref a, v] ∧ TbAt D N H a num me F t ∧ AnyAt C D H v k.x ∧ t.arr.length ≤ 20000 ∧ Q (.bl (inB KK t.arr.length k)) H
theorem ok_isinside {f : Addr} {fd : FuncData} (F : FunD K "is_inside" "Table.is_inside" (defArgs s_Table_isinside) (defBody s_Table_isinside) (defScope s_Table_isinside) [] [] f fd) (B : Blt mg) (TT : TbC K mg D) (T : FlC K mg C) (O : ObC K C D) (c_iswhole : Fn P w K mg base CX0 1 "is_whole" ["key"] [] (sp_iswhole K)) : FnOk P w K mg base CX0 2 f fd ["self", "key"] (sp_isinside C D N) := by
  refine F.ok sc_Table_isinside (fun vs H Q E h => ?_) (fun cdv A outer s H vs Q E hr h => ?_)
  · obtain ⟨_, _, _, _, _, _, _, rfl, _⟩ := h; rfl
  · obtain ⟨a, v, num, me, k, G, t, rfl, ht, hx, hz, q⟩ := h
    obtain ⟨⟨dx, ho⟩, ha, hl, _⟩ := id ht
    obtain ⟨tt, hk⟩ := hx.kf2 T O
    refine ⟨_, PSs.nox (pss_one (ps_ret (pe_and (pe_fn c_iswhole (hr.mono (by first | decide | omega)) pass0 (pa_cons (pv 1) pa_nil)) (pe_one (pe_chain op_oLe op_oLe pe_int (pv 1) (pe_callB call_len_seq (by rfl) B.len (by decide +kernel) (pa_cons (pe_fld (pv 0) rfl) pa_nil))))))), ?_⟩
    walk_at "t"
    refine ⟨v, tt, rfl, hk.kn, ?_⟩
    walk_at "t"
    rw [hx.isI]
    obtain ⟨x, no⟩ := k
    cases e : whA x with
    | none =>
      have e2 : inB KK t.arr.length ⟨x, no⟩ = false := by
        unfold inB
        show (match whA x with | some i => decide (1 ≤ i) && decide (i ≤ t.arr.length) | none => false) = false
        rw [e]
      rw [e2] at q
      refine iteF ?_
      exact q
    | some i =>
      have e2 : inB KK t.arr.length ⟨x, no⟩ = (decide (1 ≤ i) && decide (i ≤ t.arr.length)) := by
        unfold inB
        show (match whA x with | some i => decide (1 ≤ i) && decide (i ≤ t.arr.length) | none => false) = _
        rw [e]
      rw [e2] at q
      have hv : v = .int i := by
        cases x with
        | num n =>
          cases n with
          | i j => cases e; exact hx.1
          | f _ _ _ => cases e
        | _ => cases e
      subst hv
      refine iteT ?_
      walk_at "t"
      refine g_ite (fun h1 => ?_) fun h1 => ?_
      · rw [decide_eq_true h1, Bool.true_and] at q
        walk_at "t"
        refine g_lenL ha ?_
        walk_at "t"
        exact q
      · rw [decide_eq_false h1, Bool.false_and] at q
        exact q
/-! find -/
theorem sc_Table_find : FnScope ["self", "key", "with_dead", "at", "node"] ["self", "key", "with_dead"] (defScope s_Table_find) := ⟨rfl, rfl, rfl, by decide +kernel, rfl, by decide +kernel, by decide +kernel⟩
def sp_find (C D N : Addr) : Sp := fun vs H Q _ => ∃ (a : Addr) (v num me : V) (wd : Bool) (k : Ky) (F : Fp) (t : Tb Ky), vs = [.ref a, v, .bl wd] ∧ TbS C D N H a num me F t ∧ KyAt C D H v k ∧ k.x ≠ .non ∧
  ∀ H' r, Same H H' → Fd KK (nd t.nds) k wd (st0 KK k t.nds.length) r → (∀ i, r = some i → i < t.nds.length) → Q (lkV r) H'
theorem ok_find {f : Addr} {fd : FuncData} (F : FunD K "find" "Table.find" (defArgs s_Table_find) (defBody s_Table_find) (defScope s_Table_find) [] [] f fd) (B : Blt mg) (TT : TbC K mg D) (TN : NdC K mg N) (c_placeoftables : Fn P w K mg base CX0 3 "place_of_tables" ["key", "size"] [] (sp_placeofT C D)) (c_same : Fn P w K mg base CX0 4 "same" ["one", "other"] [] (sp_same C D)) :
    FnOk P w K mg base CX0 5 f fd ["self", "key", "with_dead"] (sp_find C D N) := by
  refine F.ok sc_Table_find (fun vs H Q E h => ?_) (fun cdv A outer s H vs Q E hr h => ?_)
  · obtain ⟨_, _, _, _, _, _, _, _, rfl, _⟩ := h; rfl
  · obtain ⟨a, v, num, me, wd, k, G, t, rfl, ht, hk, hn, q⟩ := h
    obtain ⟨⟨dx, ho⟩, ha, hl, hlen, _⟩ := id ht.at_
    refine ⟨_, PSs.nox (pss_cons (ps_set (i := 3) sc_Table_find.nd rfl (Or.inl rfl) (pe_cut (pe_ifExp (pt_cmpR (op_neE hr.units) (pe_fld (pv 0) rfl) (pe_lstN pa_nil) (nomark _)) (pe_fn c_placeoftables (hr.mono (by first | decide | omega)) pass0 (pa_cons (pv 1) (pa_cons (pe_callB call_len_seq (by rfl) B.len (by decide +kernel) (pa_cons (pe_fld (pv 0) rfl) pa_nil)) pa_nil))) pe_non)))
  (pss_cons (ps_while PassesOwn.never (PW.pt (pw_and (pt_cmpR op_notN (pv 3) pe_non (nomark _)) (pw_and1 (pt_cmpR op_notN (pe_ix ix_seq (pe_fld (pv 0) rfl) (pv 3) (fun _ _ => rfl)) pe_non (nomark _)))))
    (pss_cons (ps_set (i := 4) sc_Table_find.nd rfl (Or.inl rfl) (pe_ix ix_seq (pe_fld (pv 0) rfl) (pv 3) (fun _ _ => rfl)))
  (pss_cons (ps_if (PW.pt (pw_and (pt_val (pe_fn c_same (hr.mono (by first | decide | omega)) pass0 (pa_cons (pe_fld (pv 4) rfl) (pa_cons (pv 1) pa_nil)))) (pw_and1 (PW.pt (pw_or (pt_val (pv 2)) (pw_or1 (pt_not (pt_val (pe_fld (pv 4) rfl))))))))) (pss_one (ps_ret (pv 3))) pss_nil)
  (pss_one (ps_set (i := 3) sc_Table_find.nd rfl (Or.inl rfl) (pe_fld (pv 4) rfl))))))
  (pss_one (ps_ret pe_non)))), ?_⟩
    walk_at "t"
    refine g_cutE (fun z H' => z = lkV (st0 KK k t.nds.length) ∧ Same H H') ?_ ?_
    · walk_at "t"
      refine g_new (sz rfl) fun p1 H1 n1 s1 h1 _ => ?_
      refine g_neE (s1 _ _ hl) h1 ?_
      walk_at "t"
      have ho1 := s1 _ _ ho
      have hl1 := s1 _ _ hl
      by_cases h0 : t.nds.length = 0
      · have e : G.vs = [] := List.length_eq_zero_iff.mp (hlen.trans h0)
        rw [e]
        refine iteF ?_
        walk_at "t"
        refine ⟨?_, s1⟩
        unfold st0
        rw [if_pos h0]
        rfl
      · have e : G.vs.isEmpty = false := by
          cases e : G.vs with
          | nil => rw [e] at hlen; exact absurd hlen.symm h0
          | cons _ _ => rfl
        rw [e]
        refine iteT ?_
        walk_at "t"
        refine g_lenL hl1 ?_
        walk_at "t"
        rw [hlen]
        refine ⟨v, k, _, rfl, hk.same s1, hn, by omega, ?_⟩
        refine ⟨?_, s1⟩
        unfold st0
        rw [if_neg h0]
        rfl
    · rintro _ H1 ⟨rfl, s1⟩
      walk_at "t"
      obtain ⟨rk, hrk⟩ := ht.wf.rnk
      have hst : ∀ i, st0 KK k t.nds.length = some i → i < t.nds.length := fun i e => by
        unfold st0 at e
        by_cases h0 : t.nds.length = 0
        · rw [if_pos h0] at e; cases e
        · rw [if_neg h0] at e
          have := KK.lt k t.nds.length (by omega)
          cases e
          exact this
      refine g_while (fun m σ' H' => ∃ r e4, σ' = [some (.ref a), some v, some (.bl wd), some (lkV r), e4] ∧ Same H H' ∧ (∀ i, r = some i → i < t.nds.length) ∧ (∀ r', Fd KK (nd t.nds) k wd r r' → Fd KK (nd t.nds) k wd (st0 KK k t.nds.length) r') ∧ m = (match r with | none => 0 | some i => rk i + 1)) _ ⟨_, _, rfl, s1, hst, fun _ z => z, rfl⟩ ?_
      rintro m _ H2 ⟨r, e4, rfl, s2, hr, hf, rfl⟩
      have ho2 := s2 _ _ ho
      have hl2 := s2 _ _ hl
      have ht2 := ht.same s2
      walk_at "t"
      cases r with
      | none =>
        refine g_iten (fun z => absurd rfl z) fun _ => ?_
        refine iteF ?_
        walk_at "t"
        exact q H2 none s2 (hf _ .non) (fun _ z => nomatch z)
      | some i =>
        have hi := hr i rfl
        refine g_iten (fun _ => ?_) fun z => nomatch z
        walk_at "t"
        obtain ⟨y, ey, hy⟩ := ht2.at_.get hi
        refine g_ixL hl2 (atI_of (by omega) (by rw [Int.toNat_natCast]; exact ey)) ?_
        walk_at "t"
        cases en : nd t.nds i with
        | none =>
          rw [en] at hy
          have hy : y = .non := hy
          subst hy
          refine g_iten (fun z => absurd rfl z) fun _ => ?_
          walk_at "t"
          exact q H2 none s2 (hf _ (.emp en)) (fun _ z => nomatch z)
        | some x =>
          rw [en] at hy
          obtain ⟨b, dxb, rfl, hb⟩ := hy
          obtain ⟨kx, gx⟩ := ht2.keys i x en
          refine g_iten (fun _ => ?_) fun z => nomatch z
          refine g_wbody ?_
          walk_at "t"
          refine g_ixL hl2 (atI_of (by omega) (by rw [Int.toNat_natCast]; exact ey)) ?_
          walk_at "t"
          refine ⟨_, _, _, _, rfl, kx.1, (hk.same s2).1, fun H3 s3 => ?_⟩
          have ho3 := s3 _ _ ho2
          have hb3 := s3 _ _ hb
          walk_at "t"
          have esm : sameA x.key.x k.x = KK.sm x.key k := rfl
          rw [esm]
          have stay : (KK.sm x.key k && (wd || !x.dead)) = false → ∃ m', m' < rk i + 1 ∧ ∃ r e4', [some (.ref a), some v, some (.bl wd), some (lkV x.link), some (V.ref b)] = [some (.ref a), some v, some (.bl wd), some (lkV r), e4'] ∧ Same H H3 ∧ (∀ i, r = some i → i < t.nds.length) ∧ (∀ r', Fd KK (nd t.nds) k wd r r' → Fd KK (nd t.nds) k wd (st0 KK k t.nds.length) r') ∧ m' = (match r with | none => 0 | some i => rk i + 1) := by
            intro hb
            refine ⟨_, ?_, x.link, some (.ref b), rfl, s2.trans s3, ?_, fun r' f => hf _ (.go en hb f), rfl⟩
            · cases el : x.link with
              | none => show 0 < rk i + 1; omega
              | some j =>
                show rk j + 1 < rk i + 1
                have := hrk i j ⟨x, en, el⟩
                omega
            · intro j ej
              obtain ⟨z, ez⟩ := ht.wf.val i j ⟨x, en, ej⟩
              exact nd_lt ez
          refine g_iteb (fun h1 => ?_) fun h1 => ?_
          · walk_at "t"
            refine g_iteb (fun h2 => ?_) fun h2 => ?_
            · walk_at "t"
              exact q H3 (some i) (s2.trans s3) (hf _ (.hit en (by rw [h1, h2]; rfl))) (fun j e => by cases e; exact hi)
            · walk_at "t"
              refine g_iteb (fun h3 => ?_) fun h3 => ?_
              · walk_at "t"
                exact q H3 (some i) (s2.trans s3) (hf _ (.hit en (by rw [h1, h2, h3]; rfl))) (fun j e => by cases e; exact hi)
              · walk_at "t"
                exact stay (by rw [h1, h2, h3]; rfl)
          · walk_at "t"
            exact stay (by rw [h1]; rfl)
end
end Up

set_option Elab.async false
set_option linter.all false
set_option pp.maxSteps 600
set_option maxRecDepth 100000
set_option maxHeartbeats 4000000
set_option exponentiation.threshold 200000
namespace Up
open PySem PySem.Spec PyProof.Rows L2
local macro_rules | `(tactic| walk_at "u") => `(tactic| first
  | with_reducible refine g_seq ?_
  | with_reducible refine g_asg ?_
  | with_reducible refine g_op ?_
  | ((with_reducible show tVar _ _ _ _); apply g_var; exact rfl)
  | with_reducible refine g_c ?_
  | with_reducible refine g_name ?_
  | with_reducible refine g_ifs ?_
  | with_reducible refine g_tt ?_
  | with_reducible refine g_tB ?_
  | with_reducible refine g_bl ?_
  | with_reducible refine g_ret ?_
  | with_reducible refine g_cb ?_
  | with_reducible refine g_cons ?_
  | with_reducible refine g_nil ?_
  | with_reducible refine g_call ?_
  | with_reducible refine g_and ?_
  | with_reducible refine g_or ?_
  | with_reducible refine g_not ?_
  | with_reducible refine g_andV ?_
  | with_reducible refine g_orV ?_
  | with_reducible refine g_notV ?_
  | with_reducible refine g_if ?_
  | with_reducible refine g_un ?_
  | with_reducible refine g_neg ?_
  | with_reducible refine g_addI ?_
  | with_reducible refine g_subI ?_
  | with_reducible refine g_subB ?_
  | with_reducible refine g_I0 ?_
  | with_reducible refine g_cmpI ?_
  | with_reducible refine g_eqI ?_
  | with_reducible refine g_neI ?_
  | with_reducible refine g_eqS ?_
  | with_reducible refine g_neS ?_
  | with_reducible refine g_eqB ?_
  | with_reducible refine g_neB ?_
  | with_reducible refine g_bits ?_
  | with_reducible refine g_bitsI ?_
  | with_reducible refine g_fld ?_
  | with_reducible refine g_tup ?_
  | with_reducible refine g_lst ?_
  | with_reducible refine g_gtup ?_
  | with_reducible refine g_make ?_
  | with_reducible refine g_lc ?_
  | with_reducible refine g_yesT ?_
  | with_reducible refine g_intI ?_
  | with_reducible refine g_intB ?_
  | with_reducible refine g_max2 ?_
  | with_reducible refine g_abs1 ?_
  | with_reducible refine g_for ?_
  | with_reducible refine g_iList ?_
  | with_reducible refine g_iTup ?_
  | with_reducible refine g_iRng1 ?_
  | with_reducible refine g_iEnum ?_
  | with_reducible refine g_slice ?_
  | with_reducible refine g_po0 ?_
  | with_reducible refine g_po1 ?_
  | with_reducible refine g_gsub ?_
  | with_reducible refine g_par ?_
  | with_reducible refine g_par2 ?_
  | with_reducible refine g_rfl ?_
  | with_reducible refine g_meth ?_
  | with_reducible refine g_gcons ?_
  | with_reducible refine g_gnil ?_
  | with_reducible refine g_gfld ?_
  | with_reducible refine g_sfld ?_
  | with_reducible refine g_drop ?_
  | with_reducible refine g_next ?_
  | with_reducible refine iteT ?_
  | with_reducible refine iteF ?_)
local macro_rules | `(tactic| walk_at "go") => `(tactic| (repeat walk_at "u"))
local macro_rules | `(tactic| walk_at "t1") => `(tactic| (first
  | walk_at "u"
  | with_reducible refine g_chain ?_
  | with_reducible refine g_par3 ?_
  | with_reducible refine g_par3' ?_
  | with_reducible refine g_augS ?_
  | with_reducible refine g_nt ?_
  | with_reducible refine g_nf ?_
  | with_reducible refine g_methK ?_
  | with_reducible refine g_makeK ?_
  | with_reducible refine g_iRng2 ?_
  | with_reducible refine g_bm ?_
  | with_reducible refine g_fldaug ?_
  | with_reducible refine g_iStr ?_
  | with_reducible refine g_ipI ?_
  | ((with_reducible show tAug _ _ _ _ _ _); refine ⟨_, rfl, ?_⟩)
  | ((with_reducible refine show_exT ?_); first
    | refine rdT3 (by assumption) (by assumption) ?_
    | refine rdT4 (by assumption) (by assumption) ?_
    | refine rdT5 (by assumption) (by assumption) ?_
    | refine rdT1 (by assumption) (by assumption) ?_
    | refine rdT2 (by assumption) (by assumption) ?_
    | refine rdN1 (by assumption) (by assumption) ?_
    | refine rdN2 (by assumption) (by assumption) ?_
    | refine rdN3 (by assumption) (by assumption) ?_
    | refine rdN4 (by assumption) (by assumption) ?_)))
local macro_rules | `(tactic| walk_at "t") => `(tactic| (repeat walk_at "t1"))
local macro_rules | `(tactic| walk_at "v") => `(tactic| (repeat (first
  | walk_at "t1"
  | with_reducible refine g_js ?_
  | with_reducible refine g_js0 ?_
  | with_reducible refine g_fmt ?_
  | with_reducible refine g_joined ?_
  | with_reducible refine g_isBool ?_
  | with_reducible refine g_notBool ?_
  | with_reducible refine g_revL ?_
  | with_reducible refine g_self ?_
  | with_reducible refine g_selfN ?_
  | with_reducible refine g_rN ?_
  | with_reducible refine g_rNN ?_
  | with_reducible refine g_iN ?_
  | with_reducible refine g_iNN ?_
  | with_reducible refine g_sN ?_
  | with_reducible refine g_sNN ?_
  | with_reducible refine g_bN ?_
  | with_reducible refine g_bNN ?_)))

structure Cl3 (C D N : Addr) : Prop where
  cd : C ≠ D
  cn : C ≠ N
  dn : D ≠ N
/-- what a deed at a table leaves -/
def Frm (a : Addr) (F : Fp) (H H' : Hp) : Prop := ∀ b o, ¬ F.In a b → H b = some o → H' b = some o
def Fsh (a : Addr) (F F' : Fp) (H : Hp) : Prop := ∀ b, F'.In a b → F.In a b ∨ H b = none
theorem Frm.refl {a : Addr} {F : Fp} {H : Hp} : Frm a F H H := fun _ _ _ e => e
theorem Fsh.refl {a : Addr} {F : Fp} {H : Hp} : Fsh a F F H := fun _ h => .inl h
theorem Frm.of_same {a : Addr} {F : Fp} {H H' : Hp} (s : Same H H') : Frm a F H H' := fun _ _ _ e => s _ _ e
theorem Frm.trans {a : Addr} {F F' : Fp} {H H1 H2 : Hp} (h1 : Frm a F H H1) (f : Fsh a F F' H) (h2 : Frm a F' H1 H2) : Frm a F H H2 := fun b o hb e => by
  refine h2 b o (fun z => ?_) (h1 b o hb e)
  rcases f b z with z | z
  · exact hb z
  · rw [z] at e; cases e
theorem Fsh.trans {a : Addr} {F F1 F2 : Fp} {H H1 : Hp} (f1 : Fsh a F F1 H) (h1 : Frm a F H H1) (f2 : Fsh a F1 F2 H1) : Fsh a F F2 H := fun b hb => by
  rcases f2 b hb with z | z
  · exact f1 b z
  · by_cases hi : F.In a b
    · exact .inl hi
    · refine .inr ?_
      cases e : H b with
      | none => rfl
      | some o => rw [h1 b o hi e] at z; cases z
section
variable {P : Program} {w : World} {K : PySem.W.Frag} {mg : Str → Option Value} {base : Heap} {C D N : Addr} {H H' : Hp} {a : Addr} {num me : V} {F : Fp} {t : Tb Ky}
theorem TbAt.inN (h : TbAt D N H a num me F t) {b : Addr} (hb : V.ref b ∈ F.vs) : ∃ i x dx, F.vs[i]? = some (.ref b) ∧ nd t.nds i = some x ∧ H b = some (.ins N dx (ndV x.kv x.val (lkV x.link) x.dead)) := by
  obtain ⟨i, hi, e⟩ := List.getElem_of_mem hb
  have e1 : F.vs[i]? = some (.ref b) := by rw [List.getElem?_eq_getElem hi, e]
  have hv := h.nds i _ e1
  cases en : nd t.nds i with
  | none => rw [en] at hv; cases hv
  | some x =>
    rw [en] at hv
    obtain ⟨c, dx, ec, hc⟩ := hv
    cases ec
    exact ⟨i, x, dx, e1, en, hc⟩
theorem TbAt.inS (h : TbAt D N H a num me F t) {b : Addr} (hb : F.In a b) : ∃ o, H b = some o := by
  rcases hb with rfl | rfl | rfl | hb
  · obtain ⟨dx, e⟩ := h.obj; exact ⟨_, e⟩
  · exact ⟨_, h.arr⟩
  · exact ⟨_, h.lst⟩
  · obtain ⟨i, x, dx, _, _, e⟩ := h.inN hb; exact ⟨_, e⟩
theorem TbAt.out_fresh (h : TbAt D N H a num me F t) {b : Addr} (hb : H b = none) : ¬ F.In a b := fun z => by
  obtain ⟨o, e⟩ := h.inS z
  rw [hb] at e; cases e
/-- an object of another kind is none of the table's -/
theorem TbAt.out (h : TbAt D N H a num me F t) {b c dx : Addr} {fs : List (Str × V)} (hb : H b = some (.ins c dx fs)) (hN : c ≠ N) (ha : b ≠ a) : ¬ F.In a b := by
  rintro (z | rfl | rfl | z)
  · exact ha z
  · rw [h.arr] at hb; cases hb
  · rw [h.lst] at hb; cases hb
  · obtain ⟨i, x, dx, _, _, e⟩ := h.inN z
    rw [e] at hb
    injection hb with hb
    injection hb with h1 h2
    exact hN h1.symm
theorem KyAt.frm (L : Cl3 C D N) (h : TbAt D N H a num me F t) {F' : Fp} {t' : Tb Ky} (h' : TbAt D N H' a num me F' t') (fr : Frm a F H H') {v : V} {k : Ky} (hk : KyAt C D H v k) : KyAt C D H' v k := by
  obtain ⟨dx, ho⟩ := h.obj
  obtain ⟨dx', ho'⟩ := h'.obj
  obtain ⟨x, no⟩ := k
  obtain ⟨h1, h2⟩ := hk
  have tab : ∀ b dx1 fs, H b = some (.ins D dx1 fs) → ∃ dx2 fs2, H' b = some (.ins D dx2 fs2) ∧ fs2.lookup ("number" : Str) = fs.lookup ("number" : Str) := fun b dx1 fs e => by
    by_cases hb : b = a
    · subst hb
      rw [ho] at e
      injection e with e
      injection e with e1 e2 e3
      exact ⟨dx', _, ho', by rw [← e3]; rfl⟩
    · exact ⟨dx1, fs, fr _ _ (h.out e L.dn hb) e, rfl⟩
  constructor
  · cases x with
    | num n =>
      cases n with
      | i j => exact h1
      | f s tt p =>
        obtain ⟨⟨b, rfl, ⟨dx1, hf⟩, ok⟩, o⟩ := h1
        have hb : b ≠ a := fun z => by
          rw [z, ho] at hf
          injection hf with hf
          injection hf with e1
          exact L.cd e1.symm
        exact ⟨⟨b, rfl, ⟨dx1, fr _ _ (h.out hf L.cn hb) hf⟩, ok⟩, o⟩
    | obj b =>
      obtain ⟨e, dx1, fs, hb⟩ := h1
      obtain ⟨dx2, fs2, e2, _⟩ := tab _ _ _ hb
      exact ⟨e, dx2, fs2, e2⟩
    | non => exact h1
    | bl _ => exact h1
    | str _ => exact h1
  · intro b e
    obtain ⟨dx1, fs, e1, e2⟩ := h2 b e
    obtain ⟨dx2, fs2, e3, e4⟩ := tab _ _ _ e1
    exact ⟨dx2, fs2, e3, by rw [e4]; exact e2⟩
/-- only the object at a is another one: the free pointer -/
theorem TbAt.setFree (h : TbAt D N H a num me F t) (L : Cl3 C D N) {dx : Addr} {m : Nat} (ho : H' a = some (.ins D dx (tbF num me F.la F.ln m))) (hs : ∀ b, b ≠ a → H' b = H b) : TbAt D N H' a num me F { t with free := m } := by
  obtain ⟨⟨dx0, h1⟩, h2, h3, h4, h5, h6, h7⟩ := h
  have ne1 : F.la ≠ a := fun z => by rw [z, h1] at h2; cases h2
  have ne2 : F.ln ≠ a := fun z => by rw [z, h1] at h3; cases h3
  refine ⟨⟨dx, ho⟩, by rw [hs _ ne1]; exact h2, by rw [hs _ ne2]; exact h3, h4, fun i v e => ?_, h6, h7⟩
  have := h5 i v e
  show NvAt N H' v (nd t.nds i)
  cases en : nd t.nds i with
  | none => rw [en] at this; exact this
  | some x =>
    rw [en] at this
    obtain ⟨b, dxb, rfl, hb⟩ := this
    refine ⟨b, dxb, rfl, ?_⟩
    rw [hs _ (fun z => by
      rw [z, h1] at hb
      injection hb with hb
      injection hb with e1
      exact L.dn e1)]
    exact hb
/-- a place of the array -/
theorem TbAt.setArr (h : TbAt D N H a num me F t) {l : List V} (ho : H' F.la = some (.lst l)) (hs : ∀ b, b ≠ F.la → H' b = H b) : TbAt D N H' a num me F { t with arr := l } := by
  obtain ⟨⟨dx0, h1⟩, h2, h3, h4, h5, h6, h7⟩ := h
  have ne1 : a ≠ F.la := fun z => by rw [z, h2] at h1; cases h1
  refine ⟨⟨dx0, by rw [hs _ ne1]; exact h1⟩, ho, by rw [hs _ (fun z => h7 z.symm)]; exact h3, h4, fun i v e => ?_, h6, h7⟩
  have := h5 i v e
  show NvAt N H' v (nd t.nds i)
  cases en : nd t.nds i with
  | none => rw [en] at this; exact this
  | some x =>
    rw [en] at this
    obtain ⟨b, dxb, rfl, hb⟩ := this
    refine ⟨b, dxb, rfl, ?_⟩
    rw [hs _ (fun z => by rw [z, h2] at hb; cases hb)]
    exact hb
/-- a node in its place -/
theorem TbAt.setNode (h : TbAt D N H a num me F t) (L : Cl3 C D N) {i : Nat} {b dx : Addr} {x : Nd Ky} (hv : F.vs[i]? = some (V.ref b)) (hi : i < t.nds.length) (ho : H' b = some (.ins N dx (ndV x.kv x.val (lkV x.link) x.dead))) (hs : ∀ c, c ≠ b → H' c = H c) :
    TbAt D N H' a num me F { t with nds := t.nds.set i (some x) } := by
  obtain ⟨j, y, dxy, ej, en, hb⟩ := h.inN (List.mem_of_getElem? hv)
  obtain ⟨⟨dx0, h1⟩, h2, h3, h4, h5, h6, h7⟩ := h
  have ne0 : a ≠ b := fun z => by
    rw [z, hb] at h1
    injection h1 with h1
    injection h1 with e1
    exact L.dn e1.symm
  have ne1 : F.la ≠ b := fun z => by rw [z, hb] at h2; cases h2
  have ne2 : F.ln ≠ b := fun z => by rw [z, hb] at h3; cases h3
  refine ⟨⟨dx0, by rw [hs _ ne0]; exact h1⟩, by rw [hs _ ne1]; exact h2, by rw [hs _ ne2]; exact h3, by rw [h4]; simp, fun k v e => ?_, h6, h7⟩
  show NvAt N H' v (nd (t.nds.set i (some x)) k)
  rw [nd_set hi]
  by_cases hk : k = i
  · subst hk
    rw [fu_same]
    rw [hv] at e
    cases e
    exact ⟨b, dx, rfl, ho⟩
  · rw [fu_ne hk]
    have := h5 k v e
    cases en : nd t.nds k with
    | none => rw [en] at this; exact this
    | some z =>
      rw [en] at this
      obtain ⟨c, dxc, rfl, hc⟩ := this
      refine ⟨c, dxc, rfl, ?_⟩
      rw [hs _ (fun z => hk (h6 _ _ _ e (by rw [z]; exact hv)))]
      exact hc
/-- a new node at a place -/
theorem TbAt.setNew (h : TbAt D N H a num me F t) {H1 : Hp} {i : Nat} {b dx : Addr} {x : Nd Ky} (hi : i < t.nds.length) (nb : H b = none) (s1 : Same H H1) (ho : H1 b = some (.ins N dx (ndV x.kv x.val (lkV x.link) x.dead)))
    (hl : H' F.ln = some (.lst (F.vs.set i (.ref b)))) (hs : ∀ c, c ≠ F.ln → H' c = H1 c) : TbAt D N H' a num me { F with vs := F.vs.set i (.ref b) } { t with nds := t.nds.set i (some x) } := by
  have hin := fun c (hc : V.ref c ∈ F.vs) => h.inN hc
  obtain ⟨⟨dx0, h1⟩, h2, h3, h4, h5, h6, h7⟩ := h
  have ne0 : a ≠ F.ln := fun z => by rw [z, h3] at h1; cases h1
  have nbl : b ≠ F.ln := fun z => by rw [z, h3] at nb; cases nb
  have hil : i < F.vs.length := by rw [h4]; exact hi
  refine ⟨⟨dx0, by rw [hs _ ne0]; exact s1 _ _ h1⟩, by rw [hs _ h7]; exact s1 _ _ h2, hl, by simp [h4], fun k v e => ?_, fun k j c e1 e2 => ?_, h7⟩
  · show NvAt N H' v (nd (t.nds.set i (some x)) k)
    rw [nd_set hi]
    have e : (F.vs.set i (.ref b))[k]? = some v := e
    rw [List.getElem?_set] at e
    by_cases hk : k = i
    · subst hk
      rw [fu_same]
      rw [if_pos rfl, if_pos hil] at e
      cases e
      exact ⟨b, dx, rfl, by rw [hs _ nbl]; exact ho⟩
    · rw [fu_ne hk]
      rw [if_neg (fun z => hk z.symm)] at e
      have := h5 k v e
      cases en : nd t.nds k with
      | none => rw [en] at this; exact this
      | some z =>
        rw [en] at this
        obtain ⟨c, dxc, rfl, hc⟩ := this
        refine ⟨c, dxc, rfl, ?_⟩
        rw [hs _ (fun z => by rw [z, h3] at hc; cases hc)]
        exact s1 _ _ hc
  · have e1 : (F.vs.set i (.ref b))[k]? = some (.ref c) := e1
    have e2 : (F.vs.set i (.ref b))[j]? = some (.ref c) := e2
    rw [List.getElem?_set] at e1 e2
    by_cases hk : i = k
    · by_cases hj : i = j
      · exact hk.symm.trans hj
      · rw [if_pos hk, if_pos hil] at e1
        cases e1
        rw [if_neg hj] at e2
        obtain ⟨_, _, _, _, _, hc⟩ := hin _ (List.mem_of_getElem? e2)
        rw [nb] at hc; cases hc
    · rw [if_neg hk] at e1
      by_cases hj : i = j
      · rw [if_pos hj, if_pos hil] at e2
        cases e2
        obtain ⟨_, _, _, _, _, hc⟩ := hin _ (List.mem_of_getElem? e1)
        rw [nb] at hc; cases hc
      · rw [if_neg hj] at e2
        exact h6 _ _ _ e1 e2
/-- the node at i goes to f, a new one comes to i -/
theorem TbAt.setMove (h : TbAt D N H a num me F t) {H1 : Hp} {i f : Nat} {b c dx : Addr} {x y : Nd Ky} (hv : F.vs[i]? = some (V.ref c)) (hy : nd t.nds i = some y) (hf : f < t.nds.length) (nf : nd t.nds f = none) (nb : H b = none) (s1 : Same H H1)
    (ho : H1 b = some (.ins N dx (ndV x.kv x.val (lkV x.link) x.dead))) (hl : H' F.ln = some (.lst ((F.vs.set f (.ref c)).set i (.ref b)))) (hs : ∀ d, d ≠ F.ln → H' d = H1 d) :
    TbAt D N H' a num me { F with vs := (F.vs.set f (.ref c)).set i (.ref b) } { t with nds := (t.nds.set f (some y)).set i (some x) } := by
  have hin := fun c (hc : V.ref c ∈ F.vs) => h.inN hc
  have hi := nd_lt hy
  have hif : i ≠ f := fun z => by rw [z, nf] at hy; cases hy
  have hvf := h.getN hf nf
  obtain ⟨⟨dx0, h1⟩, h2, h3, h4, h5, h6, h7⟩ := h
  have ne0 : a ≠ F.ln := fun z => by rw [z, h3] at h1; cases h1
  have nbl : b ≠ F.ln := fun z => by rw [z, h3] at nb; cases nb
  have hil : i < F.vs.length := by rw [h4]; exact hi
  have hfl : f < F.vs.length := by rw [h4]; exact hf
  have ne_b : ∀ d, V.ref d ∈ F.vs → d ≠ b := fun d hd z => by
    obtain ⟨_, _, _, _, _, hc⟩ := hin _ hd
    rw [z, nb] at hc; cases hc
  have ne_l : ∀ d, V.ref d ∈ F.vs → d ≠ F.ln := fun d hd z => by
    obtain ⟨_, _, _, _, _, hc⟩ := hin _ hd
    rw [z, h3] at hc; cases hc
  -- the items
  have it : ∀ k v, ((F.vs.set f (.ref c)).set i (.ref b))[k]? = some v → (k = i ∧ v = .ref b) ∨ (k ≠ i ∧ k = f ∧ v = .ref c) ∨ (k ≠ i ∧ k ≠ f ∧ F.vs[k]? = some v) := fun k v e => by
    rw [List.getElem?_set] at e
    by_cases hk : i = k
    · rw [if_pos hk, if_pos (by rw [List.length_set]; exact hil)] at e
      cases e
      exact .inl ⟨hk.symm, rfl⟩
    · rw [if_neg hk, List.getElem?_set] at e
      by_cases hk2 : f = k
      · rw [if_pos hk2, if_pos hfl] at e
        cases e
        exact .inr (.inl ⟨fun z => hk z.symm, hk2.symm, rfl⟩)
      · rw [if_neg hk2] at e
        exact .inr (.inr ⟨fun z => hk z.symm, fun z => hk2 z.symm, e⟩)
  refine ⟨⟨dx0, by rw [hs _ ne0]; exact s1 _ _ h1⟩, by rw [hs _ h7]; exact s1 _ _ h2, hl, by simp [h4], fun k v e => ?_, fun k j d e1 e2 => ?_, h7⟩
  · show NvAt N H' v (nd ((t.nds.set f (some y)).set i (some x)) k)
    rw [nd_set (by rw [List.length_set]; exact hi), nd_set hf]
    rcases it k v e with ⟨rfl, rfl⟩ | ⟨hk, rfl, rfl⟩ | ⟨hk, hk2, e⟩
    · rw [fu_same]
      exact ⟨b, dx, rfl, by rw [hs _ nbl]; exact ho⟩
    · rw [fu_ne hk, fu_same]
      have := h5 i _ hv
      rw [hy] at this
      obtain ⟨c', dxc, ec, hc⟩ := this
      cases ec
      refine ⟨c, dxc, rfl, ?_⟩
      rw [hs _ (ne_l _ (List.mem_of_getElem? hv))]
      exact s1 _ _ hc
    · rw [fu_ne hk, fu_ne hk2]
      have := h5 k v e
      cases en : nd t.nds k with
      | none => rw [en] at this; exact this
      | some z =>
        rw [en] at this
        obtain ⟨d, dxc, rfl, hc⟩ := this
        refine ⟨d, dxc, rfl, ?_⟩
        rw [hs _ (ne_l _ (List.mem_of_getElem? e))]
        exact s1 _ _ hc
  · rcases it _ _ e1 with ⟨z1, z2⟩ | ⟨z0, z1, z2⟩ | ⟨z0, z1, z2⟩ <;> rcases it _ _ e2 with ⟨y1, y2⟩ | ⟨y0, y1, y2⟩ | ⟨y0, y1, y2⟩
    · exact z1.trans y1.symm
    · rw [z2] at y2; injection y2 with y2; exact absurd y2.symm (ne_b _ (List.mem_of_getElem? hv))
    · injection z2 with z2; exact absurd z2 (ne_b _ (List.mem_of_getElem? y2))
    · rw [z2] at y2; injection y2 with y2; exact absurd y2 (ne_b _ (List.mem_of_getElem? hv))
    · exact z1.trans y1.symm
    · rw [z2] at y2; exact absurd (h6 _ _ _ y2 hv) y0
    · injection y2 with y2; exact absurd y2 (ne_b _ (List.mem_of_getElem? z2))
    · rw [y2] at z2; exact absurd (h6 _ _ _ z2 hv) z0
    · exact h6 _ _ _ z2 y2
/-! free_place -/
theorem sc_Table_freeplace : FnScope ["self"] ["self"] (defScope s_Table_freeplace) := ⟨rfl, rfl, rfl, by decide +kernel, rfl, by decide +kernel, by decide +kernel⟩
def sp_freeplace (D N : Addr) : Sp := fun vs H Q _ => ∃ (a : Addr) (num me : V) (F : Fp) (t : Tb Ky), vs = [.ref a] ∧ TbAt D N H a num me F t ∧ t.free ≤ t.nds.length ∧
  (∀ f H', FreeAt (nd t.nds) t.nds.length t.free f → (∀ b, b ≠ a → H' b = H b) → TbAt D N H' a num me F { t with free := f } → Q (.int f) H') ∧
  (∀ H', (∀ i, i < t.free → ∃ y, nd t.nds i = some y) → (∀ b, b ≠ a → H' b = H b) → TbAt D N H' a num me F { t with free := 0 } → Q .non H')
theorem ok_freeplace {f : Addr} {fd : FuncData} (F : FunD K "free_place" "Table.free_place" (defArgs s_Table_freeplace) (defBody s_Table_freeplace) (defScope s_Table_freeplace) [] [] f fd) (B : Blt mg) (L : Cl3 C D N) (TT : TbC K mg D) : FnOk P w K mg base CX0 1 f fd ["self"] (sp_freeplace D N) := by
  refine F.ok sc_Table_freeplace (fun vs H Q E h => ?_) (fun cdv A outer s H vs Q E hr h => ?_)
  · obtain ⟨_, _, _, _, _, rfl, _⟩ := h; rfl
  · obtain ⟨a, num, me, G, t, rfl, ht, hfn, q1, q2⟩ := h
    refine ⟨_, PSs.nox (pss_cons (ps_while PassesOwn.never (pt_cmpR op_oGt (pe_fld (pv 0) rfl) pe_int (nomark _))
    (pss_cons (ps_fldaug (pv 0) pe_int in_sub)
  (pss_one (ps_if (pt_cmpR op_isN (pe_ix ix_seq (pe_fld (pv 0) rfl) (pe_fld (pv 0) rfl) (fun _ _ => rfl)) pe_non (nomark _)) (pss_one (ps_ret (pe_fld (pv 0) rfl))) pss_nil))))
  (pss_one (ps_ret pe_non))), ?_⟩
    walk_at "t"
    refine g_while (fun m σ' H' => σ' = [some (.ref a)] ∧ m ≤ t.free ∧ TbAt D N H' a num me G { t with free := m } ∧ (∀ b, b ≠ a → H' b = H b) ∧ ∀ i, m ≤ i → i < t.free → ∃ y, nd t.nds i = some y) t.free ⟨rfl, Nat.le_refl _, ht, fun _ _ => rfl, fun i h1 h2 => absurd h1 (by omega)⟩ ?_
    rintro m _ H1 ⟨rfl, hm, ht1, k1, hu⟩
    obtain ⟨⟨dx, ho⟩, ha, hl, _⟩ := id ht1
    walk_at "t"
    refine g_ite (fun h1 => ?_) fun h1 => ?_
    · have h1 : (0 : Int) < (m : Int) := h1
      refine g_wbody ?_
      walk_at "t"
      refine ⟨a, D, dx, _, _, rfl, ho, TT.own.cl, TT.n5, rfl, ?_⟩
      walk_at "t"
      refine ⟨_, _, rfl, rfl, dx, _, ho, by show 5 < 1000; decide, ?_⟩
      have em : ((m : Int) - 1) = ((m - 1 : Nat) : Int) := by omega
      rw [em]
      have ho2 : upd H1 a (.ins D dx (putF "free" (.int ((m - 1 : Nat) : Int)) (tbF num me G.la G.ln m))) a = some (.ins D dx (tbF num me G.la G.ln (m - 1))) := upd_same
      have k2 : ∀ b, b ≠ a → upd H1 a (.ins D dx (putF "free" (.int ((m - 1 : Nat) : Int)) (tbF num me G.la G.ln m))) b = H1 b := fun b hb => upd_ne hb
      generalize upd H1 a (.ins D dx (putF "free" (.int ((m - 1 : Nat) : Int)) (tbF num me G.la G.ln m))) = H2 at ho2 k2 ⊢
      have ht2 : TbAt D N H2 a num me G { t with free := m - 1 } := ht1.setFree L ho2 k2
      have hl2 := ht2.lst
      have kk : ∀ b, b ≠ a → H2 b = H b := fun b hb => (k2 b hb).trans (k1 b hb)
      walk_at "t"
      obtain ⟨y, ey, hy⟩ := ht2.get (i := m - 1) (by show m - 1 < t.nds.length; omega)
      refine g_ixL hl2 (atI_of (by omega) (by rw [Int.toNat_natCast]; exact ey)) ?_
      walk_at "t"
      have hy : NvAt N H2 y (nd t.nds (m - 1)) := hy
      cases en : nd t.nds (m - 1) with
      | none =>
        rw [en] at hy
        have hy : y = .non := hy
        subst hy
        refine g_ite (fun _ => ?_) fun z => absurd rfl z
        walk_at "t"
        exact q1 (m - 1) H2 ⟨by omega, en, fun i h2 h3 => hu i (by omega) h3⟩ kk ht2
      | some x =>
        rw [en] at hy
        obtain ⟨b, dxb, rfl, hb⟩ := hy
        refine g_ite (fun z => nomatch z) fun _ => ?_
        walk_at "t"
        refine ⟨m - 1, by omega, rfl, by omega, ht2, kk, fun i h2 h3 => ?_⟩
        by_cases hi : i = m - 1
        · rw [hi]; exact ⟨x, en⟩
        · exact hu i (by omega) h3
    · have h1 : ¬ (0 : Int) < (m : Int) := h1
      have em : m = 0 := by omega
      subst em
      walk_at "t"
      exact q2 H1 (fun i hi => hu i (by omega) hi) k1 ht1
/-! ahead_of -/
theorem sc_Table_aheadof : FnScope ["self", "key", "at", "found"] ["self", "key", "at"] (defScope s_Table_aheadof) := ⟨rfl, rfl, rfl, by decide +kernel, rfl, by decide +kernel, by decide +kernel⟩
def sp_aheadof (C D N : Addr) : Sp := fun vs H Q _ => ∃ (a : Addr) (v num me : V) (k : Ky) (i : Nat) (F : Fp) (t : Tb Ky), vs = [.ref a, v, .int i] ∧ TbAt D N H a num me F t ∧ (∃ rk : Nat → Nat, ∀ i j, lk (nd t.nds) i j → rk j < rk i) ∧ KyAt C D H v k ∧ k.x ≠ .non ∧ 0 < t.nds.length ∧ KK.mp k t.nds.length ≠ i ∧ Rch (nd t.nds) (KK.mp k t.nds.length) i ∧
  ∀ p, lk (nd t.nds) p i → Q (.int p) H
theorem ok_aheadof {f : Addr} {fd : FuncData} (F : FunD K "ahead_of" "Table.ahead_of" (defArgs s_Table_aheadof) (defBody s_Table_aheadof) (defScope s_Table_aheadof) [] [] f fd) (B : Blt mg) (TT : TbC K mg D) (TN : NdC K mg N) (c_placeoftables : Fn P w K mg base CX0 3 "place_of_tables" ["key", "size"] [] (sp_placeofT C D)) : FnOk P w K mg base CX0 4 f fd ["self", "key", "at"] (sp_aheadof C D N) := by
  refine F.ok sc_Table_aheadof (fun vs H Q E h => ?_) (fun cdv A outer s H vs Q E hr h => ?_)
  · obtain ⟨_, _, _, _, _, _, _, _, rfl, _⟩ := h; rfl
  · obtain ⟨a, v, num, me, k, i, G, t, rfl, ht, hrk0, hk, hn, n0, hne, hr2, q⟩ := h
    obtain ⟨⟨dx, ho⟩, ha, hl, hlen, _⟩ := id ht
    refine ⟨_, PSs.nox (pss_cons (ps_set (i := 3) sc_Table_aheadof.nd rfl (Or.inl rfl) (pe_fn c_placeoftables (hr.mono (by first | decide | omega)) pass0 (pa_cons (pv 1) (pa_cons (pe_callB call_len_seq (by rfl) B.len (by decide +kernel) (pa_cons (pe_fld (pv 0) rfl) pa_nil)) pa_nil))))
  (pss_cons (ps_while PassesOwn.never (pt_cmpR (op_oNe hr.units) (pe_fld (pe_ix ix_seq (pe_fld (pv 0) rfl) (pv 3) (fun _ _ => rfl)) rfl) (pv 2) (nomark _))
    (pss_one (ps_set (i := 3) sc_Table_aheadof.nd rfl (Or.inl rfl) (pe_fld (pe_ix ix_seq (pe_fld (pv 0) rfl) (pv 3) (fun _ _ => rfl)) rfl))))
  (pss_one (ps_ret (pv 3))))), ?_⟩
    walk_at "t"
    refine g_lenL hl ?_
    walk_at "t"
    rw [hlen]
    refine ⟨v, k, _, rfl, hk, hn, n0, ?_⟩
    walk_at "t"
    obtain ⟨rk, hrk⟩ := hrk0
    refine g_while (fun m σ' H' => H' = H ∧ ∃ p, σ' = [some (.ref a), some v, some (.int i), some (.int (p : Nat))] ∧ p ≠ i ∧ Rch (nd t.nds) p i ∧ m = rk p) _ ⟨rfl, _, rfl, hne, hr2, rfl⟩ ?_
    rintro m _ _ ⟨rfl, p, rfl, hp, hpr, rfl⟩
    obtain ⟨j, hj, hji⟩ : ∃ j, lk (nd t.nds) p j ∧ Rch (nd t.nds) j i := by
      cases hpr with
      | refl => exact absurd rfl hp
      | step b r => exact ⟨_, b, r⟩
    obtain ⟨x, ex, hx⟩ := id hj
    obtain ⟨b, dxb, ey, hb⟩ := ht.getS ex
    rw [hx] at hb
    walk_at "t"
    refine g_ixL hl (atI_of (by omega) (by rw [Int.toNat_natCast]; exact ey)) ?_
    walk_at "t"
    have el : lkV (some j) = .int (j : Nat) := rfl
    rw [el]
    refine g_neI ?_
    walk_at "t"
    refine g_iten (fun h1 => ?_) fun h1 => ?_
    · refine g_wbody ?_
      walk_at "t"
      refine g_ixL hl (atI_of (by omega) (by rw [Int.toNat_natCast]; exact ey)) ?_
      walk_at "t"
      rw [el]
      exact ⟨rk j, hrk _ _ hj, rfl, j, rfl, by omega, hji, rfl⟩
    · have : j = i := by omega
      subst this
      walk_at "t"
      exact q p hj
end
end Up

set_option Elab.async false
set_option linter.all false
set_option pp.maxSteps 600
set_option maxRecDepth 100000
set_option maxHeartbeats 4000000
set_option exponentiation.threshold 200000
namespace Up
open PySem PySem.Spec PyProof.Rows L2
local macro_rules | `(tactic| walk_at "u") => `(tactic| first
  | with_reducible refine g_seq ?_
  | with_reducible refine g_asg ?_
  | with_reducible refine g_op ?_
  | ((with_reducible show tVar _ _ _ _); apply g_var; exact rfl)
  | with_reducible refine g_c ?_
  | with_reducible refine g_name ?_
  | with_reducible refine g_ifs ?_
  | with_reducible refine g_tt ?_
  | with_reducible refine g_tB ?_
  | with_reducible refine g_bl ?_
  | with_reducible refine g_ret ?_
  | with_reducible refine g_cb ?_
  | with_reducible refine g_cons ?_
  | with_reducible refine g_nil ?_
  | with_reducible refine g_call ?_
  | with_reducible refine g_and ?_
  | with_reducible refine g_or ?_
  | with_reducible refine g_not ?_
  | with_reducible refine g_andV ?_
  | with_reducible refine g_orV ?_
  | with_reducible refine g_notV ?_
  | with_reducible refine g_if ?_
  | with_reducible refine g_un ?_
  | with_reducible refine g_neg ?_
  | with_reducible refine g_addI ?_
  | with_reducible refine g_subI ?_
  | with_reducible refine g_subB ?_
  | with_reducible refine g_I0 ?_
  | with_reducible refine g_cmpI ?_
  | with_reducible refine g_eqI ?_
  | with_reducible refine g_neI ?_
  | with_reducible refine g_eqS ?_
  | with_reducible refine g_neS ?_
  | with_reducible refine g_eqB ?_
  | with_reducible refine g_neB ?_
  | with_reducible refine g_bits ?_
  | with_reducible refine g_bitsI ?_
  | with_reducible refine g_fld ?_
  | with_reducible refine g_tup ?_
  | with_reducible refine g_lst ?_
  | with_reducible refine g_gtup ?_
  | with_reducible refine g_make ?_
  | with_reducible refine g_lc ?_
  | with_reducible refine g_yesT ?_
  | with_reducible refine g_intI ?_
  | with_reducible refine g_intB ?_
  | with_reducible refine g_max2 ?_
  | with_reducible refine g_abs1 ?_
  | with_reducible refine g_for ?_
  | with_reducible refine g_iList ?_
  | with_reducible refine g_iTup ?_
  | with_reducible refine g_iRng1 ?_
  | with_reducible refine g_iEnum ?_
  | with_reducible refine g_slice ?_
  | with_reducible refine g_po0 ?_
  | with_reducible refine g_po1 ?_
  | with_reducible refine g_gsub ?_
  | with_reducible refine g_par ?_
  | with_reducible refine g_par2 ?_
  | with_reducible refine g_rfl ?_
  | with_reducible refine g_meth ?_
  | with_reducible refine g_gcons ?_
  | with_reducible refine g_gnil ?_
  | with_reducible refine g_gfld ?_
  | with_reducible refine g_sfld ?_
  | with_reducible refine g_drop ?_
  | with_reducible refine g_next ?_
  | with_reducible refine iteT ?_
  | with_reducible refine iteF ?_)
local macro_rules | `(tactic| walk_at "go") => `(tactic| (repeat walk_at "u"))
local macro_rules | `(tactic| walk_at "t1") => `(tactic| (first
  | walk_at "u"
  | with_reducible refine g_chain ?_
  | with_reducible refine g_par3 ?_
  | with_reducible refine g_par3' ?_
  | with_reducible refine g_augS ?_
  | with_reducible refine g_nt ?_
  | with_reducible refine g_nf ?_
  | with_reducible refine g_methK ?_
  | with_reducible refine g_makeK ?_
  | with_reducible refine g_iRng2 ?_
  | with_reducible refine g_bm ?_
  | with_reducible refine g_fldaug ?_
  | with_reducible refine g_iStr ?_
  | with_reducible refine g_ipI ?_
  | ((with_reducible show tAug _ _ _ _ _ _); refine ⟨_, rfl, ?_⟩)
  | ((with_reducible refine show_exT ?_); first
    | refine rdT3 (by assumption) (by assumption) ?_
    | refine rdT4 (by assumption) (by assumption) ?_
    | refine rdT5 (by assumption) (by assumption) ?_
    | refine rdT1 (by assumption) (by assumption) ?_
    | refine rdT2 (by assumption) (by assumption) ?_
    | refine rdN1 (by assumption) (by assumption) ?_
    | refine rdN2 (by assumption) (by assumption) ?_
    | refine rdN3 (by assumption) (by assumption) ?_
    | refine rdN4 (by assumption) (by assumption) ?_)))
local macro_rules | `(tactic| walk_at "t") => `(tactic| (repeat walk_at "t1"))
local macro_rules | `(tactic| walk_at "v") => `(tactic| (repeat (first
  | walk_at "t1"
  | with_reducible refine g_js ?_
  | with_reducible refine g_js0 ?_
  | with_reducible refine g_fmt ?_
  | with_reducible refine g_joined ?_
  | with_reducible refine g_isBool ?_
  | with_reducible refine g_notBool ?_
  | with_reducible refine g_revL ?_
  | with_reducible refine g_self ?_
  | with_reducible refine g_selfN ?_
  | with_reducible refine g_rN ?_
  | with_reducible refine g_rNN ?_
  | with_reducible refine g_iN ?_
  | with_reducible refine g_iNN ?_
  | with_reducible refine g_sN ?_
  | with_reducible refine g_sNN ?_
  | with_reducible refine g_bN ?_
  | with_reducible refine g_bNN ?_)))

/-! ### keys of a table behind a put -/
def KeyOf (t : Tb Ky) (x : Nd Ky) : Prop := ∃ j y, nd t.nds j = some y ∧ y.kv = x.kv ∧ y.key = x.key
theorem PutN.keys {t t' : Tb Ky} {k : Ky} {kv u : V} (W : TW KK t) (h : PutN KK t k kv u t') : ∀ i x, nd t'.nds i = some x → KeyOf t x ∨ (x.kv = kv ∧ x.key = k) := by
  cases h with
  | repl a ha hlt hv =>
    intro i x e
    rw [nd_set hlt] at e
    by_cases h : i = a
    · subst h; rw [fu_same] at e; cases e; exact .inr ⟨rfl, rfl⟩
    · rw [fu_ne h] at e; exact .inl ⟨i, x, e, rfl, rfl⟩
  | coll a f h ha F e0 hv hh =>
    intro i x e
    have hf : f < t.nds.length := Nat.lt_of_lt_of_le F.lt W.frn
    have hal := nd_lt e0
    rw [nd_set (by rw [List.length_set]; exact hal), nd_set hf] at e
    by_cases h1 : i = a
    · subst h1; rw [fu_same] at e; cases e; exact .inl ⟨i, h, e0, rfl, rfl⟩
    · rw [fu_ne h1] at e
      by_cases h2 : i = f
      · subst h2; rw [fu_same] at e; cases e; exact .inr ⟨rfl, rfl⟩
      · rw [fu_ne h2] at e; exact .inl ⟨i, x, e, rfl, rfl⟩
  | move a f p h q ha F e0 hv hh hp hq =>
    intro i x e
    have hf : f < t.nds.length := Nat.lt_of_lt_of_le F.lt W.frn
    have hal := nd_lt e0
    have hpl := nd_lt hp
    rw [nd_set (by rw [List.length_set, List.length_set]; exact hal), nd_set (by rw [List.length_set]; exact hf), nd_set hpl] at e
    by_cases h1 : i = a
    · subst h1; rw [fu_same] at e; cases e; exact .inr ⟨rfl, rfl⟩
    · rw [fu_ne h1] at e
      by_cases h2 : i = f
      · subst h2; rw [fu_same] at e; cases e; exact .inl ⟨a, h, e0, rfl, rfl⟩
      · rw [fu_ne h2] at e
        by_cases h3 : i = p
        · subst h3; rw [fu_same] at e; cases e; exact .inl ⟨i, q, hp, rfl, rfl⟩
        · rw [fu_ne h3] at e; exact .inl ⟨i, x, e, rfl, rfl⟩
theorem PutS.keys {t t' : Tb Ky} {k : Ky} {kv u : V} (W : TW KK t) (h : PutS KK t k kv u t') : ∀ i x, nd t'.nds i = some x → KeyOf t x ∨ (x.kv = kv ∧ x.key = k) := by
  cases h with
  | ins i e h1 h2 => exact fun i x e => .inl ⟨i, x, e, rfl, rfl⟩
  | fnd r y ni f e0 =>
    intro i x e
    rw [nd_set (nd_lt e0)] at e
    by_cases h : i = r
    · subst h; rw [fu_same] at e; cases e; exact .inl ⟨i, y, e0, rfl, rfl⟩
    · rw [fu_ne h] at e; exact .inl ⟨i, x, e, rfl, rfl⟩
  | skip ni f e => exact fun i x e => .inl ⟨i, x, e, rfl, rfl⟩
  | new ni f e h => exact h.keys W
section
variable {P : Program} {w : World} {K : PySem.W.Frag} {mg : Str → Option Value} {base : Heap} {C D N : Addr} {H H' : Hp} {a : Addr} {num me : V} {F F' : Fp} {t t' : Tb Ky}
theorem TbS.next (L : Cl3 C D N) {v : V} {k : Ky} (h : TbS C D N H a num me F t) (h' : TbAt D N H' a num me F' t') (fr : Frm a F H H') (wf : TW KK t') (ks : ∀ i x, nd t'.nds i = some x → KeyOf t x ∨ (x.kv = v ∧ x.key = k)) (hk : KyAt C D H v k) (gk : Gk k)
    (e1 : t'.arr.length = t.arr.length) (e2 : t'.nds.length = t.nds.length) : TbS C D N H' a num me F' t' := by
  refine ⟨h', wf, fun i x e => ?_, by rw [e1]; exact h.sa, by rw [e2]; exact h.sn⟩
  rcases ks i x e with ⟨j, y, ey, a1, a2⟩ | ⟨a1, a2⟩
  · obtain ⟨b1, b2⟩ := h.keys j y ey
    rw [a1, a2] at b1
    rw [a2] at b2
    exact ⟨b1.frm L h.at_ h' fr, b2⟩
  · rw [a1, a2]
    exact ⟨hk.frm L h.at_ h' fr, gk⟩
/-- what a put leaves: the table, the rest as it was -/
def Left (C D N : Addr) (a : Addr) (num me : V) (F : Fp) (H : Hp) (H' : Hp) (t' : Tb Ky) : Prop := ∃ F', TbS C D N H' a num me F' t' ∧ Frm a F H H' ∧ Fsh a F F' H
/-! put_new, where there is room -/
theorem sc_Table_putnew : FnScope ["self", "key", "value", "at", "here", "free"] ["self", "key", "value"] (defScope s_Table_putnew) := ⟨rfl, rfl, rfl, by decide +kernel, rfl, by decide +kernel, by decide +kernel⟩
def sp_putnewS (C D N : Addr) : Sp := fun vs H Q _ => ∃ (a : Addr) (v u num me : V) (k : Ky) (F : Fp) (t : Tb Ky), vs = [.ref a, v, u] ∧ TbS C D N H a num me F t ∧ KyAt C D H v k ∧ Gk k ∧ u ≠ .non ∧ (∃ i, i < t.nds.length ∧ nd t.nds i = none) ∧
  ∀ H' t', PutN KK t k v u t' → Left C D N a num me F H H' t' → Q .non H'
theorem ok_putnewS {f : Addr} {fd : FuncData} (F : FunD K "put_new" "Table.put_new" (defArgs s_Table_putnew) (defBody s_Table_putnew) (defScope s_Table_putnew) [] [] f fd) (B : Blt mg) (L : Cl3 C D N) (TT : TbC K mg D) (TN : NdC K mg N) (c_placeoftables : Fn P w K mg base CX0 3 "place_of_tables" ["key", "size"] [] (sp_placeofT C D)) (c_Node : CnN P w K mg base N)
    (c_freeplace : Mt P w K mg base CX0 1 D "free_place" ["self"] (sp_freeplace D N)) (c_aheadof : Mt P w K mg base CX0 4 D "ahead_of" ["self", "key", "at"] (sp_aheadof C D N)) : FnOk P w K mg base CX0 5 f fd ["self", "key", "value"] (sp_putnewS C D N) := by
  refine F.ok sc_Table_putnew (fun vs H Q E h => ?_) (fun cdv A outer s H vs Q E hr h => ?_)
  · obtain ⟨_, _, _, _, _, _, _, _, rfl, _⟩ := h; rfl
  · obtain ⟨a, v, u, num, me, k, G, t, rfl, ht, hk, gk, hu, ⟨i0, hi0, hn0⟩, q⟩ := h
    have n0 : 0 < t.nds.length := by omega
    refine ⟨_, PSs.nox (pss_cons (ps_if (pt_cmpR (op_eqE hr.units) (pe_fld (pv 0) rfl) (pe_lstN pa_nil) (nomark _)) pss_never pss_nil)
  (pss_cons (ps_set (i := 3) sc_Table_putnew.nd rfl (Or.inl rfl) (pe_fn c_placeoftables (hr.mono (by first | decide | omega)) pass0 (pa_cons (pv 1) (pa_cons (pe_callB call_len_seq (by rfl) B.len (by decide +kernel) (pa_cons (pe_fld (pv 0) rfl) pa_nil)) pa_nil))))
  (pss_cons (ps_set (i := 4) sc_Table_putnew.nd rfl (Or.inl rfl) (pe_ix ix_seq (pe_fld (pv 0) rfl) (pv 3) (fun _ _ => rfl)))
  (pss_cons (ps_if (pt_cut (PW.pt (pw_or (pt_cmpR op_isN (pv 4) pe_non (nomark _)) (pw_or1 (pt_cmpR op_isN (pe_fld (pv 4) rfl) pe_non (nomark _)))))) (pss_cons (ps_asg (pe_cn c_Node (hr.mono (by first | decide | omega)) pass0 (pa_cons (pv 1) (pa_cons (pv 2) (pa_cons (pe_cut (pe_ifExp (pt_cmpR op_isN (pv 4) pe_non (nomark _)) pe_non (pe_fld (pv 4) rfl))) pa_nil)))) (pg_sub (pe_fld (pv 0) rfl) (pv 3) set_list))
  (pss_one ps_retN)) pss_nil)
  (pss_cons (ps_set (i := 5) sc_Table_putnew.nd rfl (Or.inl rfl) (pe_mt0 c_freeplace (hr.mono (by first | decide | omega)) pass0 (pv 0)))
  (pss_one (ps_if (pt_cmpR op_isN (pv 5) pe_non (nomark _)) pss_never (pss_one (ps_if (pt_cmpR (op_oEq hr.units) (pe_fn c_placeoftables (hr.mono (by first | decide | omega)) pass0 (pa_cons (pe_fld (pv 4) rfl) (pa_cons (pe_callB call_len_seq (by rfl) B.len (by decide +kernel) (pa_cons (pe_fld (pv 0) rfl) pa_nil)) pa_nil))) (pv 3) (nomark _)) (pss_cons (ps_asg (pe_cn c_Node (hr.mono (by first | decide | omega)) pass0 (pa_cons (pv 1) (pa_cons (pv 2) (pa_cons (pe_fld (pv 4) rfl) pa_nil)))) (pg_sub (pe_fld (pv 0) rfl) (pv 5) set_list))
  (pss_one (ps_fld (pv 4) (pv 5) rfl))) (pss_cons (ps_fld (pe_ix ix_seq (pe_fld (pv 0) rfl) (pe_mt c_aheadof (hr.mono (by first | decide | omega)) pass0 (pv 0) (pa_cons (pe_fld (pv 4) rfl) (pa_cons (pv 3) pa_nil))) (fun _ _ => rfl)) (pv 5) rfl)
  (pss_cons (ps_asg (pv 4) (pg_sub (pe_fld (pv 0) rfl) (pv 5) set_list))
  (pss_one (ps_asg (pe_cn c_Node (hr.mono (by first | decide | omega)) pass0 (pa_cons (pv 1) (pa_cons (pv 2) (pa_cons pe_non pa_nil)))) (pg_sub (pe_fld (pv 0) rfl) (pv 3) set_list)))))))))))))), ?_⟩
    walk_at "t"
    obtain ⟨⟨dx, ho⟩, ha, hl, hlen, _⟩ := id ht.at_
    walk_at "t"
    refine g_new (sz rfl) fun p1 H1 n1 s1 h1 _ => ?_
    refine g_eqE (s1 _ _ hl) h1 ?_
    walk_at "t"
    have ht0 := ht
    have q : ∀ H' t', PutN KK t k v u t' → Left C D N a num me G H1 H' t' → Q .non H' := fun H' t' p ⟨F', x1, x2, x3⟩ => q H' t' p ⟨F', x1, fun b o hb e => x2 b o hb (s1 _ _ e), fun b hb => (x3 b hb).imp id s1.free⟩
    have ht := ht.same s1
    have hk := hk.same s1
    clear ha hl ho
    obtain ⟨⟨dx, ho⟩, ha, hl, hlen, _⟩ := id ht.at_
    have ev : G.vs.isEmpty = false := by
      cases e : G.vs with
      | nil => rw [e] at hlen; exact absurd hlen (by show ¬ 0 = _; omega)
      | cons _ _ => rfl
    rw [ev]
    refine iteF ?_
    walk_at "t"
    refine g_lenL hl ?_
    walk_at "t"
    rw [hlen]
    refine ⟨v, k, _, rfl, hk, gk.nn, n0, ?_⟩
    walk_at "t"
    have hat := KK.lt k t.nds.length n0
    obtain ⟨y, ey, hy⟩ := ht.at_.get hat
    refine g_ixL hl (atI_of (by omega) (by rw [Int.toNat_natCast]; exact ey)) ?_
    walk_at "t"
    generalize eat : KK.mp k t.nds.length = at_ at *
    refine g_cutT (fun b H' => H1 = H' ∧ b = (match nd t.nds at_ with | none => true | some x => decide (x.val = .non))) ?_ ?_
    · cases en : nd t.nds at_ with
      | none =>
        rw [en] at hy
        have hy : y = .non := hy
        subst hy
        walk_at "t"
        refine g_ite (fun _ => ?_) fun z => absurd rfl z
        exact ⟨rfl, rfl⟩
      | some x =>
        rw [en] at hy
        obtain ⟨b, dxb, rfl, hb⟩ := hy
        walk_at "t"
        refine g_ite (fun z => nomatch z) fun _ => ?_
        walk_at "t"
        exact ⟨rfl, rfl⟩
    · rintro _ _ ⟨rfl, rfl⟩
      refine g_iteb (fun hb => ?_) fun hb => ?_
      · -- unused, or without a value
        have hv : ∀ x, nd t.nds at_ = some x → x.val = .non := fun x e => by rw [e] at hb; simpa using hb
        walk_at "t"
        refine g_cutE (fun z H' => z = lkV ((nd t.nds at_).bind (·.link)) ∧ H1 = H') ?_ ?_
        · cases en : nd t.nds at_ with
          | none =>
            rw [en] at hy
            have hy : y = .non := hy
            subst hy
            walk_at "t"
            refine g_ite (fun _ => ?_) fun z => absurd rfl z
            walk_at "t"
            exact ⟨rfl, rfl⟩
          | some x =>
            rw [en] at hy
            obtain ⟨b, dxb, rfl, hb⟩ := hy
            walk_at "t"
            refine g_ite (fun z => nomatch z) fun _ => ?_
            walk_at "t"
            exact ⟨rfl, rfl⟩
        · rintro _ _ ⟨rfl, rfl⟩
          walk_at "t"
          refine mkN fun H2 b dxb nb s2 hb2 => ?_
          have ho2 := s2 _ _ ho
          have hl2 := s2 _ _ hl
          walk_at "t"
          refine g_setL hl2 (ixN_of (by omega) (by rw [hlen]; omega)) fun H3 hl3 k3 => ?_
          rw [Int.toNat_natCast] at hl3
          walk_at "t"
          have at3 := ht.at_.setNew (x := ⟨k, v, u, (nd t.nds at_).bind (·.link), false⟩) (H' := H3) hat nb s2 hb2 hl3 k3
          have pn : PutN KK t k v u { t with nds := t.nds.set at_ (some ⟨k, v, u, (nd t.nds at_).bind (·.link), false⟩) } := .repl at_ eat.symm hat hv
          have fr : Frm a G H1 H3 := fun c o hc e => by rw [k3 c (fun z => hc (.inr (.inr (.inl z))))]; exact s2 _ _ e
          obtain ⟨w1, w2, w3, _⟩ := pn.ok KK ht.wf
          refine q H3 _ pn ⟨_, ht.next L at3 fr w1 (pn.keys ht.wf) hk gk (by rw [w3]) w2, fr, fun c hc => ?_⟩
          rcases hc with z | z | z | z
          · exact .inl (.inl z)
          · exact .inl (.inr (.inl z))
          · exact .inl (.inr (.inr (.inl z)))
          · rcases List.mem_or_eq_of_mem_set z with z | z
            · exact .inl (.inr (.inr (.inr z)))
            · cases z; exact .inr nb
      · -- used
        cases en : nd t.nds at_ with
        | none => rw [en] at hb; cases hb
        | some x =>
          rw [en] at hb hy
          have hv : x.val ≠ .non := by simpa using hb
          obtain ⟨b, dxb, rfl, hbn⟩ := hy
          obtain ⟨kx, gx⟩ := ht.keys _ _ en
          walk_at "t"
          refine ⟨a, dx, _, rfl, ho, rfl, ?_⟩
          walk_at "t"
          refine ⟨a, num, me, G, t, rfl, ht.at_, ht.wf.frn, fun fr H2 FA k2 at2 => ?_, fun H2 hall _ _ => ?_⟩
          rotate_left
          · exfalso
            by_cases hf : i0 < t.free
            · obtain ⟨z, ez⟩ := hall i0 hf
              rw [hn0] at ez; cases ez
            · obtain ⟨z, ez⟩ := ht.wf.fre i0 (by omega) hi0
              rw [hn0] at ez; cases ez
          have hfn : fr < t.nds.length := Nat.lt_of_lt_of_le FA.lt ht.wf.frn
          have hfa : fr ≠ at_ := fun z => by rw [← z, FA.none] at en; cases en
          obtain ⟨⟨dx2, ho2⟩, ha2, hl2, hlen2, _⟩ := id at2
          have k2f : Frm a G H1 H2 := fun c o hc e => by rw [k2 c (fun z => hc (.inl z))]; exact e
          have hba : b ≠ a := fun z => by
            rw [z, ho] at hbn
            injection hbn with hbn
            injection hbn with e1
            exact L.dn e1
          have hbn2 : H2 b = some (.ins N dxb (ndV x.kv x.val (lkV x.link) x.dead)) := by rw [k2 b hba]; exact hbn
          have kx2 := kx.frm L ht.at_ at2 k2f
          walk_at "t"
          refine g_ite (fun z => nomatch z) fun _ => ?_
          walk_at "t"
          refine g_lenL hl2 ?_
          walk_at "t"
          rw [hlen]
          refine ⟨x.kv, x.key, _, rfl, kx2, gx.nn, n0, ?_⟩
          walk_at "t"
          refine g_ite (fun hm => ?_) fun hm => ?_
          · have hm : KK.mp x.key t.nds.length = at_ := by omega
            walk_at "t"
            refine mkN fun H3 c dxc nc s3 hc3 => ?_
            have ho3 := s3 _ _ ho2
            have hl3 := s3 _ _ hl2
            walk_at "t"
            refine g_setL hl3 (ixN_of (by omega) (by rw [hlen]; omega)) fun H4 hl4 k4 => ?_
            rw [Int.toNat_natCast] at hl4
            have at4 := at2.setNew (x := ⟨k, v, u, x.link, false⟩) (H' := H4) hfn nc s3 hc3 hl4 k4
            have hbl : b ≠ G.ln := fun z => by rw [z, hl2] at hbn2; cases hbn2
            have hb4 : H4 b = some (.ins N dxb (ndV x.kv x.val (lkV x.link) x.dead)) := by rw [k4 b hbl]; exact s3 _ _ hbn2
            walk_at "t"
            refine ⟨b, N, dxb, _, rfl, hb4, TN.cl, TN.n3, by show 4 < 1000; decide, ?_⟩
            have hb5 : upd H4 b (.ins N dxb (putF "link" (.int (fr : Nat)) (ndV x.kv x.val (lkV x.link) x.dead))) b = some (.ins N dxb (ndV x.kv x.val (lkV (some fr)) x.dead)) := upd_same
            have k5 : ∀ d, d ≠ b → upd H4 b (.ins N dxb (putF "link" (.int (fr : Nat)) (ndV x.kv x.val (lkV x.link) x.dead))) d = H4 d := fun d hd => upd_ne hd
            generalize upd H4 b (.ins N dxb (putF "link" (.int (fr : Nat)) (ndV x.kv x.val (lkV x.link) x.dead))) = H5 at hb5 k5 ⊢
            walk_at "t"
            have ey4 : (G.vs.set fr (.ref c))[at_]? = some (V.ref b) := by
              rw [List.getElem?_set, if_neg hfa]; exact ey
            have at5 := at4.setNode L (x := { x with link := some fr }) (H' := H5) ey4 (by simp; exact hat) hb5 k5
            have pn : PutN KK t k v u { t with nds := (t.nds.set fr (some ⟨k, v, u, x.link, false⟩)).set at_ (some { x with link := some fr }), free := fr } := .coll at_ fr x eat.symm FA en hv hm
            have frm : Frm a G H1 H5 := fun d o hd e => by
              rw [k5 d (fun z => hd (.inr (.inr (.inr (by rw [z]; exact List.mem_of_getElem? ey))))), k4 d (fun z => hd (.inr (.inr (.inl z))))]
              exact s3 _ _ (k2f d o hd e)
            obtain ⟨w1, w2, w3, _⟩ := pn.ok KK ht.wf
            have nc1 : H1 c = none := by
              by_cases z : c = a
              · rw [z, ho2] at nc; cases nc
              · rw [k2 c z] at nc; exact nc
            refine q H5 _ pn ⟨_, ht.next L at5 frm w1 (pn.keys ht.wf) hk gk (by rw [w3]) w2, frm, fun d hd => ?_⟩
            rcases hd with z | z | z | z
            · exact .inl (.inl z)
            · exact .inl (.inr (.inl z))
            · exact .inl (.inr (.inr (.inl z)))
            · rcases List.mem_or_eq_of_mem_set z with z | z
              · exact .inl (.inr (.inr (.inr z)))
              · cases z; exact .inr nc1
          · have hm : KK.mp x.key t.nds.length ≠ at_ := fun z => hm (by omega)
            walk_at "t"
            refine ⟨a, dx2, _, rfl, ho2, rfl, ?_⟩
            walk_at "t"
            refine ⟨a, x.kv, num, me, x.key, at_, G, { t with free := fr }, rfl, at2, ht.wf.rnk, kx2, gx.nn, n0, hm, ht.wf.rch _ _ en, fun p hp => ?_⟩
            obtain ⟨y, hy, hyl⟩ := id hp
            obtain ⟨c, dxc, ec, hc⟩ := at2.getS (show nd t.nds p = some y from hy)
            refine g_ixL hl2 (atI_of (by omega) (by rw [Int.toNat_natCast]; exact ec)) ?_
            walk_at "t"
            refine ⟨c, N, dxc, _, rfl, hc, TN.cl, TN.n3, by show 4 < 1000; decide, ?_⟩
            have hb3 : upd H2 c (.ins N dxc (putF "link" (.int (fr : Nat)) (ndV y.kv y.val (lkV y.link) y.dead))) c = some (.ins N dxc (ndV y.kv y.val (lkV (some fr)) y.dead)) := upd_same
            have k3 : ∀ d, d ≠ c → upd H2 c (.ins N dxc (putF "link" (.int (fr : Nat)) (ndV y.kv y.val (lkV y.link) y.dead))) d = H2 d := fun d hd => upd_ne hd
            generalize upd H2 c (.ins N dxc (putF "link" (.int (fr : Nat)) (ndV y.kv y.val (lkV y.link) y.dead))) = H3 at hb3 k3 ⊢
            have at3 := at2.setNode L (x := { y with link := some fr }) (H' := H3) ec (nd_lt hy) hb3 k3
            obtain ⟨⟨dx3, ho3⟩, ha3, hl3, hlen3, _⟩ := id at3
            walk_at "t"
            refine g_setL hl3 (ixN_of (by omega) (by rw [hlen]; omega)) fun H4 hl4 k4 => ?_
            rw [Int.toNat_natCast] at hl4
            have hal : a ≠ G.ln := fun z => by rw [z, hl3] at ho3; cases ho3
            have ho4 : H4 a = some (.ins D dx3 (tbF num me G.la G.ln fr)) := by rw [k4 a hal]; exact ho3
            walk_at "t"
            refine mkN fun H5 e dxe ne s5 he5 => ?_
            have ho5 := s5 _ _ ho4
            have hl5 := s5 _ _ hl4
            walk_at "t"
            refine g_setL hl5 (ixN_of (by omega) (by rw [List.length_set, hlen]; omega)) fun H6 hl6 k6 => ?_
            rw [Int.toNat_natCast] at hl6
            walk_at "t"
            have hpa : at_ ≠ p := fun z => by
              obtain ⟨rk, hr⟩ := ht.wf.rnk
              have := hr _ _ hp
              rw [z] at this; omega
            have hpl := nd_lt hy
            -- the heap without the stores into the list of nodes
            have ne3 : H3 e = none := by
              by_cases z : e = G.ln
              · rw [z, hl4] at ne; cases ne
              · rw [k4 e z] at ne; exact ne
            have s35 : ∀ d, d ≠ G.ln → ∀ o, H3 d = some o → H5 d = some o := fun d hd o eo => s5 _ _ (by rw [k4 d hd]; exact eo)
            have enx : nd (t.nds.set p (some { y with link := some fr })) at_ = some x := by rw [nd_set hpl, fu_ne hpa]; exact en
            have nfx : nd (t.nds.set p (some { y with link := some fr })) fr = none := by
              rw [nd_set hpl, fu_ne (fun z => by have := FA.none; rw [z] at this; rw [show nd t.nds p = some y from hy] at this; cases this)]; exact FA.none
            have at6 := at3.setMove (H1 := fun d => if d = G.ln then H3 d else H5 d) (H' := H6) (b := e) (x := ⟨k, v, u, none, false⟩) ey enx (by show fr < (t.nds.set p _).length; rw [List.length_set]; exact hfn) nfx ne3 (fun d o eo => by
                by_cases z : d = G.ln
                · simp only [z, if_true]; rw [z] at eo; exact eo
                · simp only [z, if_false]; exact s35 d z o eo) (by
                  have z : e ≠ G.ln := fun z => by rw [z, hl4] at ne; cases ne
                  simp only [z, if_false]; exact he5) hl6 (fun d hd => by
                  simp only [hd, if_false]; exact k6 d hd)
            have pn : PutN KK t k v u { t with nds := ((t.nds.set p (some { y with link := some fr })).set fr (some x)).set at_ (some ⟨k, v, u, none, false⟩), free := fr } := .move at_ fr p x y eat.symm FA en hv hm hy hyl
            have frm : Frm a G H1 H6 := fun d o hd eo => by
              have dl : d ≠ G.ln := fun z => hd (.inr (.inr (.inl z)))
              rw [k6 d dl]
              refine s35 d dl o ?_
              rw [k3 d (fun z => hd (.inr (.inr (.inr (by rw [z]; exact List.mem_of_getElem? ec)))))]
              exact k2f d o hd eo
            obtain ⟨w1, w2, w3, _⟩ := pn.ok KK ht.wf
            have ne1 : H1 e = none := by
              cases z : H1 e with
              | none => rfl
              | some o =>
                exfalso
                by_cases hin : G.In a e
                · rcases hin with z | z | z | z
                  · rw [z, ho3] at ne3; cases ne3
                  · rw [z, ha3] at ne3; cases ne3
                  · rw [z, hl3] at ne3; cases ne3
                  · obtain ⟨_, _, _, _, _, he⟩ := at3.inN z
                    rw [he] at ne3; cases ne3
                · have h2 := k2f e o hin z
                  rw [k3 e (fun z => hin (.inr (.inr (.inr (by rw [z]; exact List.mem_of_getElem? ec))))), h2] at ne3
                  cases ne3
            refine q H6 _ pn ⟨_, ht.next L at6 frm w1 (pn.keys ht.wf) hk gk (by rw [w3]) w2, frm, fun d hd => ?_⟩
            rcases hd with z | z | z | z
            · exact .inl (.inl z)
            · exact .inl (.inr (.inl z))
            · exact .inl (.inr (.inr (.inl z)))
            · rcases List.mem_or_eq_of_mem_set z with z | z
              · rcases List.mem_or_eq_of_mem_set z with z | z
                · exact .inl (.inr (.inr (.inr z)))
                · cases z
                  exact .inl (.inr (.inr (.inr (List.mem_of_getElem? ey))))
              · cases z; exact .inr ne1
end
end Up

set_option Elab.async false
set_option linter.all false
set_option pp.maxSteps 600
set_option maxRecDepth 100000
set_option maxHeartbeats 4000000
set_option exponentiation.threshold 200000
namespace Up
open PySem PySem.Spec PyProof.Rows L2
local macro_rules | `(tactic| walk_at "u") => `(tactic| first
  | with_reducible refine g_seq ?_
  | with_reducible refine g_asg ?_
  | with_reducible refine g_op ?_
  | ((with_reducible show tVar _ _ _ _); apply g_var; exact rfl)
  | with_reducible refine g_c ?_
  | with_reducible refine g_name ?_
  | with_reducible refine g_ifs ?_
  | with_reducible refine g_tt ?_
  | with_reducible refine g_tB ?_
  | with_reducible refine g_bl ?_
  | with_reducible refine g_ret ?_
  | with_reducible refine g_cb ?_
  | with_reducible refine g_cons ?_
  | with_reducible refine g_nil ?_
  | with_reducible refine g_call ?_
  | with_reducible refine g_and ?_
  | with_reducible refine g_or ?_
  | with_reducible refine g_not ?_
  | with_reducible refine g_andV ?_
  | with_reducible refine g_orV ?_
  | with_reducible refine g_notV ?_
  | with_reducible refine g_if ?_
  | with_reducible refine g_un ?_
  | with_reducible refine g_neg ?_
  | with_reducible refine g_addI ?_
  | with_reducible refine g_subI ?_
  | with_reducible refine g_subB ?_
  | with_reducible refine g_I0 ?_
  | with_reducible refine g_cmpI ?_
  | with_reducible refine g_eqI ?_
  | with_reducible refine g_neI ?_
  | with_reducible refine g_eqS ?_
  | with_reducible refine g_neS ?_
  | with_reducible refine g_eqB ?_
  | with_reducible refine g_neB ?_
  | with_reducible refine g_bits ?_
  | with_reducible refine g_bitsI ?_
  | with_reducible refine g_fld ?_
  | with_reducible refine g_tup ?_
  | with_reducible refine g_lst ?_
  | with_reducible refine g_gtup ?_
  | with_reducible refine g_make ?_
  | with_reducible refine g_lc ?_
  | with_reducible refine g_yesT ?_
  | with_reducible refine g_intI ?_
  | with_reducible refine g_intB ?_
  | with_reducible refine g_max2 ?_
  | with_reducible refine g_abs1 ?_
  | with_reducible refine g_for ?_
  | with_reducible refine g_iList ?_
  | with_reducible refine g_iTup ?_
  | with_reducible refine g_iRng1 ?_
  | with_reducible refine g_iEnum ?_
  | with_reducible refine g_slice ?_
  | with_reducible refine g_po0 ?_
  | with_reducible refine g_po1 ?_
  | with_reducible refine g_gsub ?_
  | with_reducible refine g_par ?_
  | with_reducible refine g_par2 ?_
  | with_reducible refine g_rfl ?_
  | with_reducible refine g_meth ?_
  | with_reducible refine g_gcons ?_
  | with_reducible refine g_gnil ?_
  | with_reducible refine g_gfld ?_
  | with_reducible refine g_sfld ?_
  | with_reducible refine g_drop ?_
  | with_reducible refine g_next ?_
  | with_reducible refine iteT ?_
  | with_reducible refine iteF ?_)
local macro_rules | `(tactic| walk_at "go") => `(tactic| (repeat walk_at "u"))
local macro_rules | `(tactic| walk_at "t1") => `(tactic| (first
  | walk_at "u"
  | with_reducible refine g_chain ?_
  | with_reducible refine g_par3 ?_
  | with_reducible refine g_par3' ?_
  | with_reducible refine g_augS ?_
  | with_reducible refine g_nt ?_
  | with_reducible refine g_nf ?_
  | with_reducible refine g_methK ?_
  | with_reducible refine g_makeK ?_
  | with_reducible refine g_iRng2 ?_
  | with_reducible refine g_bm ?_
  | with_reducible refine g_fldaug ?_
  | with_reducible refine g_iStr ?_
  | with_reducible refine g_ipI ?_
  | ((with_reducible show tAug _ _ _ _ _ _); refine ⟨_, rfl, ?_⟩)
  | ((with_reducible refine show_exT ?_); first
    | refine rdT3 (by assumption) (by assumption) ?_
    | refine rdT4 (by assumption) (by assumption) ?_
    | refine rdT5 (by assumption) (by assumption) ?_
    | refine rdT1 (by assumption) (by assumption) ?_
    | refine rdT2 (by assumption) (by assumption) ?_
    | refine rdN1 (by assumption) (by assumption) ?_
    | refine rdN2 (by assumption) (by assumption) ?_
    | refine rdN3 (by assumption) (by assumption) ?_
    | refine rdN4 (by assumption) (by assumption) ?_)))
local macro_rules | `(tactic| walk_at "t") => `(tactic| (repeat walk_at "t1"))
local macro_rules | `(tactic| walk_at "v") => `(tactic| (repeat (first
  | walk_at "t1"
  | with_reducible refine g_js ?_
  | with_reducible refine g_js0 ?_
  | with_reducible refine g_fmt ?_
  | with_reducible refine g_joined ?_
  | with_reducible refine g_isBool ?_
  | with_reducible refine g_notBool ?_
  | with_reducible refine g_revL ?_
  | with_reducible refine g_self ?_
  | with_reducible refine g_selfN ?_
  | with_reducible refine g_rN ?_
  | with_reducible refine g_rNN ?_
  | with_reducible refine g_iN ?_
  | with_reducible refine g_iNN ?_
  | with_reducible refine g_sN ?_
  | with_reducible refine g_sNN ?_
  | with_reducible refine g_bN ?_
  | with_reducible refine g_bNN ?_)))

theorem plA_nan {x : Any} : isNanA (plA x) = isNanA x := by
  cases x with
  | num n =>
    show isNanA (plNm n (wholeN n)) = _
    cases e : wholeN n with
    | none => rfl
    | some i =>
      cases n with
      | i j => rfl
      | f s t p =>
        show false = decide (t = .str "nan")
        have e : wholeF s t p = some i := e
        cases t with
        | int m => simp
        | _ => cases e
  | _ => rfl
theorem plA_non {x : Any} (h : x ≠ .non) : plA x ≠ .non := by
  cases x with
  | num n =>
    show plNm n (wholeN n) ≠ .non
    cases wholeN n <;> exact fun z => nomatch z
  | non => exact absurd rfl h
  | _ => exact fun z => nomatch z
theorem plA_idem (x : Any) : plA (plA x) = plA x := by
  cases x with
  | num n =>
    show plA (plNm n (wholeN n)) = plNm n (wholeN n)
    cases e : wholeN n with
    | none =>
      show plNm n (wholeN n) = _
      rw [e]
    | some i => rfl
  | _ => rfl
theorem Gk.of {k : Ky} (h1 : k.x ≠ .non) (h2 : isNanA k.x = false) : Gk (plK k) := ⟨plA_non h1, plA_nan.trans h2, plA_idem _⟩
section
variable {P : Program} {w : World} {K : PySem.W.Frag} {mg : Str → Option Value} {base : Heap} {C D N : Addr} {H H' : Hp} {a : Addr} {num me : V} {F F' : Fp} {t t' : Tb Ky}
theorem plV_self {v : V} {x : Any} (h : AnyAt C D H v x) (e : plA x = x) : plV v x = v := by
  cases x with
  | num n =>
    show plNv v (wholeN n) = v
    have e : plNm n (wholeN n) = .num n := e
    cases ew : wholeN n with
    | none => rfl
    | some i =>
      rw [ew] at e
      have e : Any.num (.i i) = .num n := e
      injection e with e
      subst e
      have h : v = .int i := h.1
      rw [h]
      rfl
  | _ => rfl
theorem plK_self {k : Ky} (g : Gk k) : plK k = k := by
  obtain ⟨x, no⟩ := k
  have := g.pl
  unfold plK
  simp only [Ky.mk.injEq]
  exact ⟨this, trivial⟩
theorem AnyAt.int_of {v : V} {x : Any} {i : Int} (h : AnyAt C D H v x) (e : whA x = some i) : v = .int i := by
  cases x with
  | num n =>
    cases n with
    | i j => cases e; exact h.1
    | f _ _ _ => cases e
  | _ => cases e
theorem AnyAt.nn {v : V} {x : Any} (h : AnyAt C D H v x) (e : x ≠ .non) : v ≠ .non := by
  cases x with
  | num n =>
    cases n with
    | i j => intro z; have h : v = _ := h.1; rw [h] at z; cases z
    | f _ _ _ => obtain ⟨⟨b, hb, _⟩, _⟩ := h; rw [hb]; exact fun z => nomatch z
  | non => exact absurd rfl e
  | bl _ => intro z; have h : v = _ := h; rw [h] at z; cases z
  | str _ => intro z; have h : v = _ := h; rw [h] at z; cases z
  | obj _ => rw [h.1]; exact fun z => nomatch z
theorem AnyAt.non_of {v : V} (h : AnyAt C D H v .non) : v = .non := h
/-! what get tells -/
def GetR (t : Tb Ky) (k : Ky) (u : V) : Prop :=
  (∃ i, whA (plA k.x) = some i ∧ 1 ≤ i ∧ i ≤ t.arr.length ∧ t.arr[(i - 1).toNat]? = some u) ∨
  (¬ inside KK t (plK k) ∧ (((plA k.x = .non ∨ isNanA (plA k.x) = true) ∧ u = .non) ∨
    (plA k.x ≠ .non ∧ isNanA (plA k.x) = false ∧ ∃ r, Fd KK (nd t.nds) (plK k) false (st0 KK (plK k) t.nds.length) r ∧ ((r = none ∧ u = .non) ∨ ∃ i x, r = some i ∧ nd t.nds i = some x ∧ u = x.val))))
theorem GetR.det {k : Ky} {u u' : V} (h : GetR t k u) (h' : GetR t k u') : u = u' := by
  rcases h with ⟨i, e, h1, h2, h3⟩ | ⟨ni, h⟩
  · rcases h' with ⟨j, f, g1, g2, g3⟩ | ⟨ni, _⟩
    · rw [e] at f; cases f; rw [h3] at g3; exact Option.some.inj g3
    · exact absurd ⟨i, e, h1, h2⟩ ni
  · rcases h' with ⟨j, f, g1, g2, _⟩ | ⟨_, h'⟩
    · exact absurd ⟨j, f, g1, g2⟩ ni
    · rcases h with ⟨h1, rfl⟩ | ⟨h1, h2, r, fd, h3⟩
      · rcases h' with ⟨_, rfl⟩ | ⟨g1, g2, _⟩
        · rfl
        · rcases h1 with z | z
          · exact absurd z g1
          · rw [z] at g2; cases g2
      · rcases h' with ⟨g1, rfl⟩ | ⟨_, _, r', fd', g3⟩
        · rcases g1 with z | z
          · exact absurd z h1
          · rw [z] at h2; cases h2
        · have := fd.det KK fd'
          subst this
          rcases h3 with ⟨e1, e2⟩ | ⟨i, x, e1, e2, e3⟩ <;> rcases g3 with ⟨f1, f2⟩ | ⟨j, y, f1, f2, f3⟩
          · rw [e2, f2]
          · rw [e1] at f1; cases f1
          · rw [e1] at f1; cases f1
          · rw [e1] at f1; cases f1; rw [e2] at f2; cases f2; rw [e3, f3]
open Classical in
noncomputable def gtT (t : Tb Ky) (k : Ky) : V := if h : ∃ u, GetR t k u then h.choose else .non
theorem GetR.eq {k : Ky} {u : V} (h : GetR t k u) : gtT t k = u := by
  have hx : ∃ u, GetR t k u := ⟨u, h⟩
  unfold gtT
  rw [dif_pos hx]
  exact hx.choose_spec.det h
theorem sc_Table_get : FnScope ["self", "key", "at"] ["self", "key"] (defScope s_Table_get) := ⟨rfl, rfl, rfl, by decide +kernel, rfl, by decide +kernel, by decide +kernel⟩
def sp_get (C D N : Addr) : Sp := fun vs H Q _ => ∃ (a : Addr) (v num me : V) (k : Ky) (F : Fp) (t : Tb Ky), vs = [.ref a, v] ∧ TbS C D N H a num me F t ∧ KyAt C D H v k ∧ ∀ H', Same H H' → GetR t k (gtT t k) → Q (gtT t k) H'
abbrev CPlain (P : Program) (w : World) (K : PySem.W.Frag) (mg : Str → Option Value) (base : Heap) (C D : Addr) : Prop := Fn P w K mg base CX0 3 "plain_key" ["key"] [] (sp_plainkey C D)
abbrev CInside (P : Program) (w : World) (K : PySem.W.Frag) (mg : Str → Option Value) (base : Heap) (C D N : Addr) : Prop := Mt P w K mg base CX0 2 D "is_inside" ["self", "key"] (sp_isinside C D N)
abbrev CFind (P : Program) (w : World) (K : PySem.W.Frag) (mg : Str → Option Value) (base : Heap) (C D N : Addr) : Prop := Mt P w K mg base CX0 5 D "find" ["self", "key", "with_dead"] (sp_find C D N)
abbrev CNan (P : Program) (w : World) (K : PySem.W.Frag) (mg : Str → Option Value) (base : Heap) (C D : Addr) : Prop := Fn P w K mg base CX0 1 "is_nan" ["key"] [] (sp_isnan C D)
theorem ok_get {f : Addr} {fd : FuncData} (F : FunD K "get" "Table.get" (defArgs s_Table_get) (defBody s_Table_get) (defScope s_Table_get) [] [] f fd) (B : Blt mg) (TT : TbC K mg D) (TN : NdC K mg N) (c_plainkey : CPlain P w K mg base C D) (c_isinside : CInside P w K mg base C D N) (c_isnan : CNan P w K mg base C D) (c_find : CFind P w K mg base C D N) : FnOk P w K mg base CX0 6 f fd ["self", "key"] (sp_get C D N) := by
  refine F.ok sc_Table_get (fun vs H Q E h => ?_) (fun cdv A outer s H vs Q E hr h => ?_)
  · obtain ⟨_, _, _, _, _, _, _, rfl, _⟩ := h; rfl
  · obtain ⟨a, v, num, me, k, G, t, rfl, ht, hk, q⟩ := h
    have q : ∀ u H', Same H H' → GetR t k u → Q u H' := fun u H' s1 g => by
      have e := g.eq
      have q := q H' s1 (by rw [e]; exact g)
      rw [e] at q
      exact q
    refine ⟨_, PSs.nox (pss_cons (ps_set (i := 1) sc_Table_get.nd rfl (Or.inl rfl) (pe_fn c_plainkey (hr.mono (by first | decide | omega)) pass0 (pa_cons (pv 1) pa_nil)))
  (pss_cons (ps_if (pt_val (pe_mt c_isinside (hr.mono (by first | decide | omega)) pass0 (pv 0) (pa_cons (pv 1) pa_nil))) (pss_one (ps_ret (pe_ix ix_seq (pe_fld (pv 0) rfl) (pe_op op_oSub (pv 1) pe_int) (fun _ _ => rfl)))) pss_nil)
  (pss_cons (ps_if (pt_cut (PW.pt (pw_or (pt_cmpR op_isN (pv 1) pe_non (nomark _)) (pw_or1 (pt_val (pe_fn c_isnan (hr.mono (by first | decide | omega)) pass0 (pa_cons (pv 1) pa_nil))))))) (pss_one (ps_ret pe_non)) pss_nil)
  (pss_cons (ps_set (i := 2) sc_Table_get.nd rfl (Or.inl rfl) (pe_mt c_find (hr.mono (by first | decide | omega)) pass0 (pv 0) (pa_cons (pv 1) (pa_cons pe_bl pa_nil))))
  (pss_one (ps_ret (pe_ifExp (pt_cmpR op_isN (pv 2) pe_non (nomark _)) pe_non (pe_fld (pe_ix ix_seq (pe_fld (pv 0) rfl) (pv 2) (fun _ _ => rfl)) rfl)))))))), ?_⟩
    walk_at "t"
    refine ⟨v, k.x, rfl, hk.1, fun H1 s1 => ?_⟩
    have ht := ht.same s1
    have hk := (hk.same s1).pl
    obtain ⟨⟨dx, ho⟩, ha, hl, hlen, _⟩ := id ht.at_
    walk_at "t"
    refine ⟨a, dx, _, rfl, ho, rfl, ?_⟩
    walk_at "t"
    refine ⟨a, _, num, me, plK k, G, t, rfl, ht.at_, hk.1, ht.sa, ?_⟩
    walk_at "t"
    refine g_iteb (fun h1 => ?_) fun h1 => ?_
    · obtain ⟨i, ei, i1, i2⟩ := (inB_iff KK).mpr h1
      have ev : plV v k.x = .int i := hk.1.int_of ei
      rw [ev]
      walk_at "t"
      have hlt : (i - 1).toNat < t.arr.length := by omega
      refine g_ixL ha (atI_of (by omega) (List.getElem?_eq_getElem hlt)) ?_
      exact q _ _ s1 (.inl ⟨i, ei, i1, i2, List.getElem?_eq_getElem hlt⟩)
    · have ni : ¬ inside KK t (plK k) := fun z => by rw [(inB_iff KK).mp z] at h1; cases h1
      walk_at "t"
      refine g_cutT (fun b H' => H1 = H' ∧ (b = true ↔ (plA k.x = .non ∨ isNanA (plA k.x) = true))) ?_ ?_
      · walk_at "t"
        refine g_ite (fun h2 => ?_) fun h2 => ?_
        · refine ⟨rfl, fun _ => .inl ?_, fun _ => rfl⟩
          cases ex : plA k.x with
          | non => rfl
          | _ => exact absurd h2 (hk.1.nn (by show plA k.x ≠ .non; rw [ex]; exact fun z => nomatch z))
        · walk_at "t"
          refine ⟨_, plA k.x, rfl, hk.1, ?_⟩
          refine ⟨_, rfl, rfl, fun z => .inr z, fun z => z.elim (fun z => ?_) id⟩
          have h3 : AnyAt C D H1 (plV v k.x) (plA k.x) := hk.1
          rw [z] at h3
          exact absurd h3 h2
      · rintro b _ ⟨rfl, hb⟩
        refine g_iteb (fun h2 => ?_) fun h2 => ?_
        · walk_at "t"
          exact q _ _ s1 (.inr ⟨ni, .inl ⟨hb.mp h2, rfl⟩⟩)
        · have h3 : ¬ (plA k.x = .non ∨ isNanA (plA k.x) = true) := fun z => by rw [hb.mpr z] at h2; cases h2
          have hnn : plA k.x ≠ .non := fun z => h3 (.inl z)
          have hna : isNanA (plA k.x) = false := by
            cases e : isNanA (plA k.x) with
            | false => rfl
            | true => exact absurd (.inr e) h3
          walk_at "t"
          refine ⟨a, dx, _, rfl, ho, rfl, ?_⟩
          walk_at "t"
          refine ⟨a, _, num, me, false, plK k, G, t, rfl, ht, hk, hnn, fun H2 r s2 fd hr2 => ?_⟩
          have ho2 := s2 _ _ ho
          have hl2 := s2 _ _ hl
          have ht2 := ht.same s2
          walk_at "t"
          cases r with
          | none =>
            refine g_ite (fun _ => ?_) fun z => absurd rfl z
            walk_at "t"
            exact q _ _ (s1.trans s2) (.inr ⟨ni, .inr ⟨hnn, hna, none, fd, .inl ⟨rfl, rfl⟩⟩⟩)
          | some i =>
            refine g_ite (fun z => nomatch z) fun _ => ?_
            walk_at "t"
            obtain ⟨x, ex, _⟩ := fd.at
            obtain ⟨b, dxb, ey, hb⟩ := ht2.at_.getS ex
            refine g_ixL hl2 (atI_of (by omega) (by rw [Int.toNat_natCast]; exact ey)) ?_
            walk_at "t"
            exact q _ _ (s1.trans s2) (.inr ⟨ni, .inr ⟨hnn, hna, some i, fd, .inr ⟨i, x, rfl, ex, rfl⟩⟩⟩)
/-! put, by what put_new does -/
abbrev PNt := Tb Ky → Ky → V → V → Tb Ky → Prop
inductive PutX (PN : PNt) (t : Tb Ky) (k : Ky) (kv u : V) : Tb Ky → Prop
  | ins (i : Int) : whA k.x = some i → 1 ≤ i → i ≤ t.arr.length → PutX PN t k kv u { t with arr := t.arr.set (i - 1).toNat u }
  | fnd (r : Nat) (x : Nd Ky) : ¬ inside KK t k → Fd KK (nd t.nds) k false (st0 KK k t.nds.length) (some r) → nd t.nds r = some x → PutX PN t k kv u { t with nds := t.nds.set r (some { x with val := u }) }
  | skip : ¬ inside KK t k → Fd KK (nd t.nds) k false (st0 KK k t.nds.length) none → u = .non → PutX PN t k kv u t
  | new {t' : Tb Ky} : ¬ inside KK t k → Fd KK (nd t.nds) k false (st0 KK k t.nds.length) none → u ≠ .non → PN t k kv u t' → PutX PN t k kv u t'
theorem PutX.S {k : Ky} {kv u : V} (h : PutX (PutN KK) t k kv u t') : PutS KK t k kv u t' := by
  cases h with
  | ins i a b c => exact .ins i a b c
  | fnd r x a b c => exact .fnd r x a b c
  | skip a b c => exact .skip a b c
  | new a b c d => exact .new a b c d
def sp_putnewG (C D N : Addr) (PN : PNt) (Rm : Tb Ky → Prop) : Sp := fun vs H Q _ => ∃ (a : Addr) (v u num me : V) (k : Ky) (F : Fp) (t : Tb Ky), vs = [.ref a, v, u] ∧ TbS C D N H a num me F t ∧ KyAt C D H v k ∧ Gk k ∧ u ≠ .non ∧ Rm t ∧
  ∀ H' t', PN t k v u t' → Left C D N a num me F H H' t' → Q .non H'
def sp_putG (C D N : Addr) (PN : PNt) (Rm : Tb Ky → Prop) : Sp := fun vs H Q _ => ∃ (a : Addr) (v u num me : V) (k : Ky) (F : Fp) (t : Tb Ky), vs = [.ref a, v, u] ∧ TbS C D N H a num me F t ∧ KyAt C D H v k ∧ k.x ≠ .non ∧ isNanA k.x = false ∧ (Rm t ∨ inside KK t (plK k)) ∧
  ∀ H' t', PutX PN t (plK k) (plV v k.x) u t' → Left C D N a num me F H H' t' → Q .non H'
theorem sc_Table_put : FnScope ["self", "key", "value", "at"] ["self", "key", "value"] (defScope s_Table_put) := ⟨rfl, rfl, rfl, by decide +kernel, rfl, by decide +kernel, by decide +kernel⟩
theorem ok_putG {f : Addr} {fd : FuncData} {j : Nat} (PN : PNt) (Rm : Tb Ky → Prop) (F : FunD K "put" "Table.put" (defArgs s_Table_put) (defBody s_Table_put) (defScope s_Table_put) [] [] f fd) (B : Blt mg) (L : Cl3 C D N) (TT : TbC K mg D) (TN : NdC K mg N) (c_plainkey : CPlain P w K mg base C D) (c_isinside : CInside P w K mg base C D N) (c_isnan : CNan P w K mg base C D) (c_find : CFind P w K mg base C D N)
    (c_putnew : Mt P w K mg base CX0 (j + 5) D "put_new" ["self", "key", "value"] (sp_putnewG C D N PN Rm)) : FnOk P w K mg base CX0 (j + 6) f fd ["self", "key", "value"] (sp_putG C D N PN Rm) := by
  refine F.ok sc_Table_put (fun vs H Q E h => ?_) (fun cdv A outer s H vs Q E hr h => ?_)
  · obtain ⟨_, _, _, _, _, _, _, _, rfl, _⟩ := h; rfl
  · obtain ⟨a, v, u, num, me, k, G, t, rfl, ht, hk, hn, hna, hrm, q⟩ := h
    have gk := Gk.of hn hna
    refine ⟨_, PSs.nox (pss_cons (ps_set (i := 1) sc_Table_put.nd rfl (Or.inl rfl) (pe_fn c_plainkey (hr.mono (by first | decide | omega)) pass0 (pa_cons (pv 1) pa_nil)))
  (pss_cons (ps_if (pt_val (pe_mt c_isinside (hr.mono (by first | decide | omega)) pass0 (pv 0) (pa_cons (pv 1) pa_nil))) (pss_cons (ps_asg (pv 2) (pg_sub (pe_fld (pv 0) rfl) (pe_op op_oSub (pv 1) pe_int) set_list))
  (pss_one ps_retN)) pss_nil)
  (pss_cons (ps_if (pt_cmpR op_isN (pv 1) pe_non (nomark _)) (pss_one ps_never) pss_nil)
  (pss_cons (ps_if (pt_val (pe_fn c_isnan (hr.mono (by first | decide | omega)) pass0 (pa_cons (pv 1) pa_nil))) (pss_one ps_never) pss_nil)
  (pss_cons (ps_set (i := 3) sc_Table_put.nd rfl (Or.inl rfl) (pe_mt c_find (hr.mono (by first | decide | omega)) pass0 (pv 0) (pa_cons (pv 1) (pa_cons pe_bl pa_nil))))
  (pss_one (ps_if (pt_cmpR op_notN (pv 3) pe_non (nomark _)) (pss_one (ps_fld (pe_ix ix_seq (pe_fld (pv 0) rfl) (pv 3) (fun _ _ => rfl)) (pv 2) rfl)) (pss_one (ps_if (pt_cmpR op_notN (pv 2) pe_non (nomark _)) (pss_one (ps_expr (pe_mt c_putnew (hr.mono (by first | decide | omega)) pass0 (pv 0) (pa_cons (pv 1) (pa_cons (pv 2) pa_nil))))) pss_nil))))))))), ?_⟩
    walk_at "t"
    refine ⟨v, k.x, rfl, hk.1, fun H1 s1 => ?_⟩
    have q : ∀ H' t', PutX PN t (plK k) (plV v k.x) u t' → Left C D N a num me G H1 H' t' → Q .non H' := fun H' t' p ⟨F', x1, x2, x3⟩ => q H' t' p ⟨F', x1, fun b o hb e => x2 b o hb (s1 _ _ e), fun b hb => (x3 b hb).imp id s1.free⟩
    have ht := ht.same s1
    have hk := (hk.same s1).pl
    obtain ⟨⟨dx, ho⟩, ha, hl, hlen, _⟩ := id ht.at_
    walk_at "t"
    refine ⟨a, dx, _, rfl, ho, rfl, ?_⟩
    walk_at "t"
    refine ⟨a, _, num, me, plK k, G, t, rfl, ht.at_, hk.1, ht.sa, ?_⟩
    walk_at "t"
    refine g_iteb (fun h1 => ?_) fun h1 => ?_
    · obtain ⟨i, ei, i1, i2⟩ := (inB_iff KK).mpr h1
      have ev : plV v k.x = .int i := hk.1.int_of ei
      rw [ev]
      walk_at "t"
      refine g_setL ha (ixN_of (by omega) (by omega)) fun H2 h2 k2 => ?_
      walk_at "t"
      have at2 := ht.at_.setArr h2 k2
      have fr : Frm a G H1 H2 := fun b o hb e => by rw [k2 b (fun z => hb (.inr (.inl z)))]; exact e
      refine q H2 _ (.ins i ei i1 i2) ⟨G, ?_, fr, Fsh.refl⟩
      refine ⟨at2, ht.wf, fun i x e => ⟨(ht.keys i x e).1.frm L ht.at_ at2 fr, (ht.keys i x e).2⟩, ?_, ht.sn⟩
      show (t.arr.set (i - 1).toNat u).length ≤ 20000
      rw [List.length_set]
      exact ht.sa
    · have ni : ¬ inside KK t (plK k) := fun z => by rw [(inB_iff KK).mp z] at h1; cases h1
      have hrm : Rm t := hrm.resolve_right ni
      walk_at "t"
      refine g_no (hk.1.nn gk.nn) ?_
      walk_at "t"
      refine ⟨_, plA k.x, rfl, hk.1, ?_⟩
      have e : isNanA (plA k.x) = false := gk.nan
      rw [e]
      walk_at "t"
      refine ⟨a, dx, _, rfl, ho, rfl, ?_⟩
      walk_at "t"
      refine ⟨a, _, num, me, false, plK k, G, t, rfl, ht, hk, gk.nn, fun H2 r s2 fd hr2 => ?_⟩
      have ht2 := ht.same s2
      have hk2 := hk.same s2
      obtain ⟨⟨dx2, ho2⟩, ha2, hl2, hlen2, _⟩ := id ht2.at_
      have q : ∀ H' t', PutX PN t (plK k) (plV v k.x) u t' → Left C D N a num me G H2 H' t' → Q .non H' := fun H' t' p ⟨F', x1, x2, x3⟩ => q H' t' p ⟨F', x1, fun b o hb e => x2 b o hb (s2 _ _ e), fun b hb => (x3 b hb).imp id s2.free⟩
      walk_at "t"
      cases r with
      | some i =>
        refine g_iten (fun _ => ?_) fun z => nomatch z
        walk_at "t"
        obtain ⟨x, ex, _⟩ := fd.at
        obtain ⟨b, dxb, ey, hb⟩ := ht2.at_.getS ex
        refine g_ixL hl2 (atI_of (by omega) (by rw [Int.toNat_natCast]; exact ey)) ?_
        walk_at "t"
        refine ⟨b, N, dxb, _, rfl, hb, TN.cl, TN.n2, by show 4 < 1000; decide, ?_⟩
        have hb3 : upd H2 b (.ins N dxb (putF "value" u (ndV x.kv x.val (lkV x.link) x.dead))) b = some (.ins N dxb (ndV x.kv u (lkV x.link) x.dead)) := upd_same
        have k3 : ∀ d, d ≠ b → upd H2 b (.ins N dxb (putF "value" u (ndV x.kv x.val (lkV x.link) x.dead))) d = H2 d := fun d hd => upd_ne hd
        generalize upd H2 b (.ins N dxb (putF "value" u (ndV x.kv x.val (lkV x.link) x.dead))) = H3 at hb3 k3 ⊢
        walk_at "t"
        have at3 := ht2.at_.setNode L (x := { x with val := u }) (H' := H3) ey (nd_lt ex) hb3 k3
        have fr : Frm a G H2 H3 := fun d o hd e => by rw [k3 d (fun z => hd (.inr (.inr (.inr (by rw [z]; exact List.mem_of_getElem? ey)))))]; exact e
        have ps : PutS KK t (plK k) (plV v k.x) u { t with nds := t.nds.set i (some { x with val := u }) } := .fnd i x ni fd ex
        obtain ⟨w1, w2, w3, _⟩ := ps.ok KK ht.wf
        exact q H3 _ (.fnd i x ni fd ex) ⟨G, ht2.next L at3 fr w1 (ps.keys ht.wf) hk2 gk w3 w2, fr, Fsh.refl⟩
      | none =>
        refine g_iten (fun z => absurd rfl z) fun _ => ?_
        walk_at "t"
        refine g_iten (fun hu => ?_) fun hu => ?_
        · walk_at "t"
          refine ⟨a, dx2, _, rfl, ho2, rfl, ?_⟩
          walk_at "t"
          exact ⟨a, _, u, num, me, plK k, G, t, rfl, ht2, hk2, gk, hu, hrm, fun H3 t' pn lf => q H3 t' (.new ni fd hu pn) lf⟩
        · walk_at "t"
          exact q H2 t (.skip ni fd hu) ⟨G, ht2, Frm.refl, Fsh.refl⟩
end
end Up

set_option Elab.async false
set_option linter.all false
set_option pp.maxSteps 600
set_option maxRecDepth 100000
set_option maxHeartbeats 4000000
set_option exponentiation.threshold 200000
namespace Up
open PySem PySem.Spec PyProof.Rows L2
local macro_rules | `(tactic| walk_at "u") => `(tactic| first
  | with_reducible refine g_seq ?_
  | with_reducible refine g_asg ?_
  | with_reducible refine g_op ?_
  | ((with_reducible show tVar _ _ _ _); apply g_var; exact rfl)
  | with_reducible refine g_c ?_
  | with_reducible refine g_name ?_
  | with_reducible refine g_ifs ?_
  | with_reducible refine g_tt ?_
  | with_reducible refine g_tB ?_
  | with_reducible refine g_bl ?_
  | with_reducible refine g_ret ?_
  | with_reducible refine g_cb ?_
  | with_reducible refine g_cons ?_
  | with_reducible refine g_nil ?_
  | with_reducible refine g_call ?_
  | with_reducible refine g_and ?_
  | with_reducible refine g_or ?_
  | with_reducible refine g_not ?_
  | with_reducible refine g_andV ?_
  | with_reducible refine g_orV ?_
  | with_reducible refine g_notV ?_
  | with_reducible refine g_if ?_
  | with_reducible refine g_un ?_
  | with_reducible refine g_neg ?_
  | with_reducible refine g_addI ?_
  | with_reducible refine g_subI ?_
  | with_reducible refine g_subB ?_
  | with_reducible refine g_I0 ?_
  | with_reducible refine g_cmpI ?_
  | with_reducible refine g_eqI ?_
  | with_reducible refine g_neI ?_
  | with_reducible refine g_eqS ?_
  | with_reducible refine g_neS ?_
  | with_reducible refine g_eqB ?_
  | with_reducible refine g_neB ?_
  | with_reducible refine g_bits ?_
  | with_reducible refine g_bitsI ?_
  | with_reducible refine g_fld ?_
  | with_reducible refine g_tup ?_
  | with_reducible refine g_lst ?_
  | with_reducible refine g_gtup ?_
  | with_reducible refine g_make ?_
  | with_reducible refine g_lc ?_
  | with_reducible refine g_yesT ?_
  | with_reducible refine g_intI ?_
  | with_reducible refine g_intB ?_
  | with_reducible refine g_max2 ?_
  | with_reducible refine g_abs1 ?_
  | with_reducible refine g_for ?_
  | with_reducible refine g_iList ?_
  | with_reducible refine g_iTup ?_
  | with_reducible refine g_iRng1 ?_
  | with_reducible refine g_iEnum ?_
  | with_reducible refine g_slice ?_
  | with_reducible refine g_po0 ?_
  | with_reducible refine g_po1 ?_
  | with_reducible refine g_gsub ?_
  | with_reducible refine g_par ?_
  | with_reducible refine g_par2 ?_
  | with_reducible refine g_rfl ?_
  | with_reducible refine g_meth ?_
  | with_reducible refine g_gcons ?_
  | with_reducible refine g_gnil ?_
  | with_reducible refine g_gfld ?_
  | with_reducible refine g_sfld ?_
  | with_reducible refine g_drop ?_
  | with_reducible refine g_next ?_
  | with_reducible refine iteT ?_
  | with_reducible refine iteF ?_)
local macro_rules | `(tactic| walk_at "go") => `(tactic| (repeat walk_at "u"))
local macro_rules | `(tactic| walk_at "t1") => `(tactic| (first
  | walk_at "u"
  | with_reducible refine g_chain ?_
  | with_reducible refine g_par3 ?_
  | with_reducible refine g_par3' ?_
  | with_reducible refine g_augS ?_
  | with_reducible refine g_nt ?_
  | with_reducible refine g_nf ?_
  | with_reducible refine g_methK ?_
  | with_reducible refine g_makeK ?_
  | with_reducible refine g_iRng2 ?_
  | with_reducible refine g_bm ?_
  | with_reducible refine g_fldaug ?_
  | with_reducible refine g_iStr ?_
  | with_reducible refine g_ipI ?_
  | ((with_reducible show tAug _ _ _ _ _ _); refine ⟨_, rfl, ?_⟩)
  | ((with_reducible refine show_exT ?_); first
    | refine rdT3 (by assumption) (by assumption) ?_
    | refine rdT4 (by assumption) (by assumption) ?_
    | refine rdT5 (by assumption) (by assumption) ?_
    | refine rdT1 (by assumption) (by assumption) ?_
    | refine rdT2 (by assumption) (by assumption) ?_
    | refine rdN1 (by assumption) (by assumption) ?_
    | refine rdN2 (by assumption) (by assumption) ?_
    | refine rdN3 (by assumption) (by assumption) ?_
    | refine rdN4 (by assumption) (by assumption) ?_)))
local macro_rules | `(tactic| walk_at "t") => `(tactic| (repeat walk_at "t1"))
local macro_rules | `(tactic| walk_at "v") => `(tactic| (repeat (first
  | walk_at "t1"
  | with_reducible refine g_js ?_
  | with_reducible refine g_js0 ?_
  | with_reducible refine g_fmt ?_
  | with_reducible refine g_joined ?_
  | with_reducible refine g_isBool ?_
  | with_reducible refine g_notBool ?_
  | with_reducible refine g_revL ?_
  | with_reducible refine g_self ?_
  | with_reducible refine g_selfN ?_
  | with_reducible refine g_rN ?_
  | with_reducible refine g_rNN ?_
  | with_reducible refine g_iN ?_
  | with_reducible refine g_iNN ?_
  | with_reducible refine g_sN ?_
  | with_reducible refine g_sNN ?_
  | with_reducible refine g_bN ?_
  | with_reducible refine g_bNN ?_)))

theorem liveA_snoc (a : Nat) (v : V) : ∀ l : List V, liveA KK a (l ++ [v]) = liveA KK a l ++ (if v = .non then [] else [(KK.ki (a + l.length + 1 : Nat), .int (a + l.length + 1 : Nat), v)]) := by
  intro l
  induction l generalizing a with
  | nil =>
    show (if v = .non then [] else [(KK.ki (a + 1 : Nat), V.int (a + 1 : Nat), v)]) = [] ++ _
    rw [List.nil_append]
    rfl
  | cons y l ih =>
    show liveA KK a (y :: (l ++ [v])) = liveA KK a (y :: l) ++ _
    unfold liveA
    have e : a + 1 + l.length + 1 = a + (y :: l).length + 1 := by simp only [List.length_cons]; omega
    split
    · rw [ih, e]
    · rw [ih, e]; rfl
theorem liveA_take {l : List V} {a i : Nat} {v : V} (h : l[i]? = some v) : liveA KK a (l.take (i + 1)) = liveA KK a (l.take i) ++ (if v = .non then [] else [(KK.ki (a + i + 1 : Nat), .int (a + i + 1 : Nat), v)]) := by
  have hi : i < l.length := by
    by_cases z : i < l.length
    · exact z
    · rw [List.getElem?_eq_none (by omega)] at h; cases h
  have e : l.take (i + 1) = l.take i ++ [v] := by rw [List.take_add_one, h]; rfl
  rw [e, liveA_snoc, List.length_take, Nat.min_eq_left (by omega)]
theorem liveA_le (a : Nat) (l : List V) : (liveA KK a l).length ≤ l.length := by
  induction l generalizing a with
  | nil => exact Nat.le_refl _
  | cons v l ih =>
    unfold liveA
    split
    · exact Nat.le_succ_of_le (ih _)
    · exact Nat.succ_le_succ (ih _)
theorem liveA_len_mono {a : Nat} {l : List V} {i : Nat} : (liveA KK a (l.take i)).length ≤ (liveA KK a l).length := by
  have e : ∀ l r : List V, (liveA KK a l).length ≤ (liveA KK a (l ++ r)).length := by
    intro l r
    induction l generalizing a with
    | nil => exact Nat.zero_le _
    | cons v l ih =>
      show (liveA KK a (v :: l)).length ≤ (liveA KK a (v :: (l ++ r))).length
      unfold liveA
      split
      · exact ih
      · exact Nat.succ_le_succ ih
  have := e (l.take i) (l.drop i)
  rw [List.take_append_drop] at this
  exact this
theorem liveN_take {l : Nds Ky} {i : Nat} {o : Option (Nd Ky)} (h : l[i]? = some o) : liveN (l.take (i + 1)) = liveN (l.take i) ++ liveN [o] := by
  have e : l.take (i + 1) = l.take i ++ [o] := by rw [List.take_add_one, h]; rfl
  rw [e]
  unfold liveN
  rw [List.filterMap_append]
theorem liveN_some {x : Nd Ky} : liveN [some x] = if x.val = .non then [] else [(x.key, x.kv, x.val)] := by
  unfold liveN
  by_cases h : x.val = .non <;> simp [h]
theorem outs_append (n : Nat) (l r : List (Ky × V × V)) : outs KK n (l ++ r) = outs KK n l + outs KK n r := by unfold outs; rw [List.countP_append]
theorem outs_take {l : Nds Ky} {i n : Nat} : outs KK n (liveN (l.take i)) ≤ outs KK n (liveN l) := by
  have : liveN l = liveN (l.take i) ++ liveN (l.drop i) := by
    unfold liveN
    rw [← List.filterMap_append, List.take_append_drop]
  rw [this, outs_append]
  omega
theorem cut_drop (xs : List V) (n : Nat) : cutV xs (some (n : Int)) none = xs.drop n := by
  unfold cutV
  rw [HT.sIx_none, HT.sIx_nat]
  by_cases h : n ≤ xs.length
  · rw [Nat.min_eq_left h, List.take_of_length_le (by simp)]
  · rw [Nat.min_eq_right (by omega), List.drop_of_length_le (Nat.le_refl _), List.drop_of_length_le (by omega), List.take_nil]
theorem cut_take (xs : List V) (n : Nat) : cutV xs none (some (n : Int)) = xs.take n := by
  unfold cutV
  rw [HT.sIx_none, HT.sIx_nat, List.drop_zero, Nat.sub_zero]
  by_cases h : n ≤ xs.length
  · rw [Nat.min_eq_left h]
  · rw [Nat.min_eq_right (by omega), List.take_of_length_le (Nat.le_refl _), List.take_of_length_le (by omega)]
section
variable {P : Program} {w : World} {K : PySem.W.Frag} {mg : Str → Option Value} {base : Heap} {C D N : Addr} {H H' : Hp} {a : Addr} {num me : V} {F F' : Fp} {t t' : Tb Ky}
theorem ky_int {i : Int} (h : i.natAbs < 2 ^ 5000) : KyAt C D H (.int i) (KK.ki i) := ⟨⟨rfl, h⟩, fun a e => nomatch e⟩
theorem gk_int (i : Int) : Gk (KK.ki i) := ⟨fun z => (nomatch z), rfl, rfl⟩
theorem sc_Table_resize : FnScope ["self", "array", "nodes", "old", "beyond", "at", "value", "node"] ["self", "array", "nodes"] (defScope s_Table_resize) := ⟨rfl, rfl, rfl, by decide +kernel, rfl, by decide +kernel, by decide +kernel⟩
def sp_resize (C D N : Addr) : Sp := fun vs H Q _ => ∃ (a : Addr) (num me : V) (n m : Nat) (F : Fp) (t : Tb Ky), vs = [.ref a, .int n, .int m] ∧ TbS C D N H a num me F t ∧ n ≤ 20000 ∧ m ≤ 20000 ∧ powF m ≤ 20000 ∧ (liveA KK n (t.arr.drop n)).length + outs KK n (liveN t.nds) ≤ powF m ∧
  ∀ H' t', Rsz KK t n (powF m) t' → Left C D N a num me F H H' t' → Q .non H'
def Room0 (t : Tb Ky) : Prop := ∃ i, i < t.nds.length ∧ nd t.nds i = none
abbrev CPutS (P : Program) (w : World) (K : PySem.W.Frag) (mg : Str → Option Value) (base : Heap) (C D N : Addr) : Prop := Mt P w K mg base CX0 6 D "put" ["self", "key", "value"] (sp_putG C D N (PutN KK) Room0)
theorem ok_resize {f : Addr} {fd : FuncData} (F : FunD K "resize" "Table.resize" (defArgs s_Table_resize) (defBody s_Table_resize) (defScope s_Table_resize) [] [] f fd) (B : Blt mg) (L : Cl3 C D N) (TT : TbC K mg D) (TN : NdC K mg N) (c_powerfor : Fn P w K mg base CX0 1 "power_for" ["count"] [] sp_powerfor) (c_put : CPutS P w K mg base C D N) : FnOk P w K mg base CX0 7 f fd ["self", "array", "nodes"] (sp_resize C D N) := by
  refine F.ok sc_Table_resize (fun vs H Q E h => ?_) (fun cdv A outer s H vs Q E hr h => ?_)
  · obtain ⟨_, _, _, _, _, _, _, rfl, _⟩ := h; rfl
  · obtain ⟨a, num, me, n, m, G, t, rfl, ht, hn, hm, hpm, hroom, q⟩ := h
    refine ⟨_, PSs.nox (pss_cons (ps_par (i := 3) (j := 4) rfl sc_Table_resize.nd rfl rfl (by decide) rfl rfl (pa_cons (pe_fld (pv 0) rfl) (pa_cons (pe_slice sl_lstN (pe_fld (pv 0) rfl) (po_some (pv 1)) po_none) pa_nil)) (by rfl))
  (pss_cons (ps_fld (pv 0) (pe_op op_oMul (pe_lstN (pa_cons pe_non pa_nil)) (pe_fn c_powerfor (hr.mono (by first | decide | omega)) pass0 (pa_cons (pv 2) pa_nil))) rfl)
  (pss_cons (ps_fld (pv 0) (pe_callB call_len_seq (by rfl) B.len (by decide +kernel) (pa_cons (pe_fld (pv 0) rfl) pa_nil)) rfl)
  (pss_cons (ps_fld (pv 0) (pe_slice sl_lstN (pe_fld (pv 0) rfl) po_none (po_some (pv 1))) rfl)
  (pss_cons (ps_for PassesOwn.never rfl (pi_enum (by rfl) B.enumerate (pa_cons (pv 4) pa_nil)) (pg_tup rfl (pgs_cons (pg_name (i := 5) sc_Table_resize.nd rfl (Or.inl rfl)) (pgs_cons (pg_name (i := 6) sc_Table_resize.nd rfl (Or.inl rfl)) pgs_nil)))
    (pss_one (ps_if (pt_cmpR op_notN (pv 6) pe_non (nomark _)) (pss_one (ps_expr (pe_mt c_put (hr.mono (by first | decide | omega)) pass0 (pv 0) (pa_cons (pe_op op_oAdd (pe_op op_oAdd (pv 1) (pv 5)) pe_int) (pa_cons (pv 6) pa_nil))))) pss_nil)))
  (pss_cons (ps_expr (pe_bm PySem.F.plainAttrs_list PySem.F.slot_list_extend PySem.F.type_list_extend mt_extend (pe_fld (pv 0) rfl) (pa_cons (pe_op op_oMul (pe_lstN (pa_cons pe_non pa_nil)) (pe_op op_oSub (pv 1) (pe_callB call_len_seq (by rfl) B.len (by decide +kernel) (pa_cons (pe_fld (pv 0) rfl) pa_nil)))) pa_nil)))
  (pss_one (ps_for PassesOwn.never rfl (pi_list (pv 3)) (pg_name (i := 7) sc_Table_resize.nd rfl (Or.inl rfl))
    (pss_one (ps_if (PW.pt (pw_and (pt_cmpR op_notN (pv 7) pe_non (nomark _)) (pw_and1 (pt_cmpR op_notN (pe_fld (pv 7) rfl) pe_non (nomark _))))) (pss_one (ps_expr (pe_mt c_put (hr.mono (by first | decide | omega)) pass0 (pv 0) (pa_cons (pe_fld (pv 7) rfl) (pa_cons (pe_fld (pv 7) rfl) pa_nil))))) pss_nil)))))))))), ?_⟩
    obtain ⟨⟨dx, ho⟩, ha, hl, hlen, _⟩ := id ht.at_
    walk_at "t"
    refine ⟨G.la, _, rfl, SqL.of ha, fun bl H1 n1 s1 h1 k1 => ?_⟩
    rw [cut_drop] at h1
    have ho1 := s1 _ _ ho
    walk_at "t"
    refine g_new (sz rfl) fun p2 H2 n2 s2 h2 _ => ?_
    walk_at "t"
    refine ⟨m, rfl, by omega, ?_⟩
    walk_at "t"
    refine ⟨_, h2, by omega, by omega, ?_, fun ln H3 n3 s3 h3 _ => ?_⟩
    · rw [Int.toNat_natCast]
      exact Nat.le_trans (show 1 * powF m ≤ 100000 by omega) (by decide)
    rw [Int.toNat_natCast, flat_non] at h3
    have s13 := s2.trans s3
    have ho3 := s13 _ _ ho1
    walk_at "t"
    refine ⟨a, D, dx, _, rfl, ho3, TT.own.cl, TT.n4, by show 5 < 1000; decide, ?_⟩
    have ho4 : upd H3 a (.ins D dx (putF "nodes" (.ref ln) (tbF num me G.la G.ln t.free))) a = some (.ins D dx (tbF num me G.la ln t.free)) := upd_same
    have k4 : ∀ b, b ≠ a → upd H3 a (.ins D dx (putF "nodes" (.ref ln) (tbF num me G.la G.ln t.free))) b = H3 b := fun b hb => upd_ne hb
    generalize upd H3 a (.ins D dx (putF "nodes" (.ref ln) (tbF num me G.la G.ln t.free))) = H4 at ho4 k4 ⊢
    have lna : ln ≠ a := fun z => by rw [z, s2 _ _ ho1] at n3; cases n3
    have laa : G.la ≠ a := fun z => by rw [z, ho] at ha; cases ha
    have hl4 : H4 ln = some (.lst (List.replicate (powF m) .non)) := by rw [k4 _ lna]; exact h3
    walk_at "t"
    refine g_lenL hl4 ?_
    rw [List.length_replicate]
    walk_at "t"
    refine ⟨a, D, dx, _, rfl, ho4, TT.own.cl, TT.n5, by show 5 < 1000; decide, ?_⟩
    have ho5 : upd H4 a (.ins D dx (putF "free" (.int (powF m : Nat)) (tbF num me G.la ln t.free))) a = some (.ins D dx (tbF num me G.la ln (powF m))) := upd_same
    have k5 : ∀ b, b ≠ a → upd H4 a (.ins D dx (putF "free" (.int (powF m : Nat)) (tbF num me G.la ln t.free))) b = H4 b := fun b hb => upd_ne hb
    generalize upd H4 a (.ins D dx (putF "free" (.int (powF m : Nat)) (tbF num me G.la ln t.free))) = H5 at ho5 k5 ⊢
    have ha5 : H5 G.la = some (.lst t.arr) := by rw [k5 _ laa, k4 _ laa]; exact s13 _ _ (s1 _ _ ha)
    walk_at "t"
    refine ⟨G.la, _, rfl, SqL.of ha5, fun la H6 n6 s6 h6 k6 => ?_⟩
    rw [cut_take] at h6
    have ho6 := s6 _ _ ho5
    walk_at "t"
    refine ⟨a, D, dx, _, rfl, ho6, TT.own.cl, TT.n3, by show 5 < 1000; decide, ?_⟩
    have ho7 : upd H6 a (.ins D dx (putF "array" (.ref la) (tbF num me G.la ln (powF m)))) a = some (.ins D dx (tbF num me la ln (powF m))) := upd_same
    have k7 : ∀ b, b ≠ a → upd H6 a (.ins D dx (putF "array" (.ref la) (tbF num me G.la ln (powF m)))) b = H6 b := fun b hb => upd_ne hb
    generalize upd H6 a (.ins D dx (putF "array" (.ref la) (tbF num me G.la ln (powF m)))) = H7 at ho7 k7 ⊢
    have la' : la ≠ a := fun z => by rw [z, ho5] at n6; cases n6
    have hl5 : H5 ln = some (.lst (List.replicate (powF m) .non)) := by rw [k5 _ lna]; exact hl4
    have laln : la ≠ ln := fun z => by rw [z, hl5] at n6; cases n6
    have keep7 : ∀ b o, b ≠ a → H1 b = some o → H7 b = some o := fun b o hb e => by
      rw [k7 b hb]
      refine s6 _ _ ?_
      rw [k5 b hb, k4 b hb]
      exact s13 _ _ e
    have nla : H1 la = none := by
      cases z : H1 la with
      | none => rfl
      | some o =>
        have := s13 _ _ z
        rw [k5 _ la', k4 _ la', this] at n6
        cases n6
    have nln : H1 ln = none := s2.free n3
    have at7 : TbAt D N H7 a num me ⟨la, ln, List.replicate (powF m) .non⟩ ⟨t.arr.take n, List.replicate (powF m) none, powF m⟩ := by
      refine ⟨⟨dx, ho7⟩, by show H7 la = _; rw [k7 _ la']; exact h6, by show H7 ln = _; rw [k7 _ lna]; exact s6 _ _ hl5, by simp, fun i v e => ?_, fun i j b e => ?_, laln⟩
      · show NvAt N H7 v (nd (List.replicate (powF m) none) i)
        rw [nd_new]
        exact List.eq_of_mem_replicate (List.mem_of_getElem? e)
      · have := List.eq_of_mem_replicate (List.mem_of_getElem? e)
        cases this
    have ts7 : TbS C D N H7 a num me ⟨la, ln, List.replicate (powF m) .non⟩ ⟨t.arr.take n, List.replicate (powF m) none, powF m⟩ := by
      refine ⟨at7, TW.new KK _ _, fun i x e => ?_, ?_, by simp; exact hpm⟩
      · have e : nd (List.replicate (powF m) none) i = some x := e
        rw [nd_new] at e; cases e
      · show (t.arr.take n).length ≤ 20000
        have := ht.sa
        rw [List.length_take]; omega
    have fr7 : ∀ b, Fp.In ⟨la, ln, List.replicate (powF m) .non⟩ a b → b = a ∨ H1 b = none := by
      rintro b (z | z | z | z)
      · exact .inl z
      · have z : b = la := z
        rw [z]; exact .inr nla
      · have z : b = ln := z
        rw [z]; exact .inr nln
      · cases List.eq_of_mem_replicate z
    have hbla : bl ≠ a := fun z => by rw [z, ho] at n1; cases n1
    have step : ∀ {H8 H9 : Hp} {F8 F9 : Fp}, (∀ b o, b ≠ a → H1 b = some o → H8 b = some o) → (∀ b, F8.In a b → b = a ∨ H1 b = none) → Frm a F8 H8 H9 → Fsh a F8 F9 H8 → (∀ b o, b ≠ a → H1 b = some o → H9 b = some o) ∧ (∀ b, F9.In a b → b = a ∨ H1 b = none) := by
      intro H8 H9 F8 F9 k8 f8 fr fs
      refine ⟨fun b o hb e => fr b o (fun z => ?_) (k8 b o hb e), fun b hb => ?_⟩
      · rcases f8 b z with z | z
        · exact hb z
        · rw [z] at e; cases e
      · rcases fs b hb with z | z
        · exact f8 b z
        · by_cases hba : b = a
          · exact .inl hba
          · refine .inr ?_
            cases e : H1 b with
            | none => rfl
            | some o => rw [k8 b o hba e] at z; cases z
    have W0 := TW.new KK (κ := Ky) (t.arr.take n) (powF m)
    have hdl : (t.arr.drop n).length ≤ 20000 := by have := ht.sa; rw [List.length_drop]; omega
    walk_at "t"
    refine ⟨bl, _, rfl, SqL.of (keep7 _ _ hbla h1), ?_⟩
    refine for_enum (K := K) (a := bl) (xs := t.arr.drop n) (fun i σ' H' => i ≤ (t.arr.drop n).length ∧ ∃ F8 t8 e5 e6 e7, σ' = [some (.ref a), some (.int n), some (.int m), some (.ref G.ln), some (.ref bl), e5, e6, e7] ∧ TbS C D N H' a num me F8 t8 ∧
      PutA KK ⟨t.arr.take n, List.replicate (powF m) none, powF m⟩ (liveA KK n ((t.arr.drop n).take i)) t8 ∧ (∀ b o, b ≠ a → H1 b = some o → H' b = some o) ∧ (∀ b, F8.In a b → b = a ∨ H1 b = none))
      ⟨Nat.zero_le _, _, _, _, _, _, rfl, ts7, .nil, keep7, fr7⟩ ?_ ?_ ?_
    · rintro i _ H' _ ⟨_, _, _, _, _, _, _, _, _, kp, _⟩
      exact SqL.of (kp _ _ hbla h1)
    · rintro i z _ H8 T hz ⟨hi, F8, t8, e5, e6, e7, rfl, ts8, pa8, kp8, f8⟩ hT
      have hil : i < (t.arr.drop n).length := by
        by_cases y : i < (t.arr.drop n).length
        · exact y
        · rw [List.getElem?_eq_none (by omega)] at hz; cases hz
      have s9 : Same H8 (upd H8 T (.tup [.int (i : Nat), z])) := fun b u e => by rw [upd_ne (ne_of_none e hT)]; exact e
      have hT9 : upd H8 T (.tup [.int (i : Nat), z]) T = some (.tup [.int (i : Nat), z]) := upd_same
      generalize upd H8 T (.tup [.int (i : Nat), z]) = H9 at s9 hT9 ⊢
      have ts9 := ts8.same s9
      obtain ⟨⟨dx9, ho9⟩, ha9, hl9, hlen9, _⟩ := id ts9.at_
      have kp9 : ∀ b o, b ≠ a → H1 b = some o → H9 b = some o := fun b o hb e => s9 _ _ (kp8 b o hb e)
      have el := liveA_take (a := n) hz
      walk_at "t"
      refine ⟨T, _, rfl, SqT.of hT9, rfl, ?_⟩
      walk_at "t"
      refine g_iten (fun hzn => ?_) fun hzn => ?_
      · rw [if_neg hzn] at el
        walk_at "t"
        refine ⟨a, dx9, _, rfl, ho9, rfl, ?_⟩
        walk_at "t"
        have ek : ((n : Int) + (i : Int) + 1) = ((n + i + 1 : Nat) : Int) := by omega
        rw [ek]
        have hb : (((n + i + 1 : Nat) : Int)).natAbs < 2 ^ 5000 := by
          have : n + i + 1 < 2 ^ 64 := by omega
          exact lt_pow_mono (a := 64) (by omega) (by decide)
        obtain ⟨w8, l8, r8, c8⟩ := pa8.ok KK W0
        have l8 : t8.nds.length = powF m := l8.trans (List.length_replicate ..)
        have r8 : t8.arr.length = (t.arr.take n).length := r8
        have c8 : powF m ≤ nn t8.nds + outs KK (t.arr.take n).length (liveA KK n ((t.arr.drop n).take i)) := by
          have := c8
          simp only [nn_new] at this
          exact this
        rw [outs_liveA KK n _ (by rw [List.length_take]; omega)] at c8
        have e8 := liveA_len_mono (a := n) (l := t.arr.drop n) (i := i + 1)
        rw [el, List.length_append] at e8
        have e8 : (liveA KK n ((t.arr.drop n).take i)).length + 1 ≤ (liveA KK n (t.arr.drop n)).length := e8
        refine ⟨a, _, z, num, me, KK.ki _, F8, t8, rfl, ts9, ky_int hb, (fun y => nomatch y), rfl, .inl (nn_ex (by omega)), fun H10 t10 px lf => ?_⟩
        obtain ⟨F10, ts10, fr10, fs10⟩ := lf
        obtain ⟨kp10, f10⟩ := step kp9 f8 fr10 fs10
        walk_at "t"
        refine ⟨hil, F10, t10, some (.int (i : Nat)), some z, e7, rfl, ts10, ?_, kp10, f10⟩
        rw [el]
        exact pa8.snoc KK px.S
      · subst hzn
        rw [if_pos rfl, List.append_nil] at el
        walk_at "t"
        refine ⟨hil, F8, t8, some (.int (i : Nat)), some .non, e7, rfl, ts9, ?_, kp9, f8⟩
        rw [el]
        exact pa8
    · rintro _ H8 ⟨_, F8, t8, e5, e6, e7, rfl, ts8, pa8, kp8, f8⟩
      rw [List.take_of_length_le (Nat.le_refl _)] at pa8
      obtain ⟨w8, l8, r8, c8⟩ := pa8.ok KK W0
      have l8 : t8.nds.length = powF m := l8.trans (List.length_replicate ..)
      have r8 : t8.arr.length = (t.arr.take n).length := r8
      have c8 : powF m ≤ nn t8.nds + outs KK (t.arr.take n).length (liveA KK n (t.arr.drop n)) := by
        have := c8
        simp only [nn_new] at this
        exact this
      rw [outs_liveA KK n _ (by rw [List.length_take]; omega)] at c8
      have r8n : t8.arr.length ≤ n := by rw [r8, List.length_take]; omega
      obtain ⟨⟨dx8, ho8⟩, ha8, hl8, hlen8, _⟩ := id ts8.at_
      walk_at "t"
      refine ⟨tyL ha8, ?_⟩
      walk_at "t"
      refine g_new (sz rfl) fun p9 H9 n9 s9 h9 _ => ?_
      have ho9 := s9 _ _ ho8
      have ha9 := s9 _ _ ha8
      walk_at "t"
      refine g_lenL ha9 ?_
      walk_at "t"
      refine ⟨_, h9, by omega, by omega, ?_, fun xl H10 n10 s10 h10 _ => ?_⟩
      · refine Nat.le_trans (show 1 * ((n : Int) - (t8.arr.length : Nat)).toNat ≤ 100000 by omega) (by decide)
      rw [flat_non] at h10
      have en : ((n : Int) - (t8.arr.length : Nat)).toNat = n - t8.arr.length := by omega
      rw [en] at h10
      walk_at "t"
      refine g_ext (s10 _ _ ha9) h10 (Nat.le_trans (show _ ≤ 100000 by rw [List.length_replicate]; omega) (by decide)) fun H11 h11 k11 => ?_
      have s8 := s9.trans s10
      have at11 := (ts8.same s8).at_.setArr h11 k11
      have fr11 : Frm a F8 H8 H11 := fun b o hb e => by rw [k11 b (fun z => hb (.inr (.inl z)))]; exact s8 _ _ e
      have epa : t8.arr ++ List.replicate (n - t8.arr.length) .non = padA t8.arr n := rfl
      rw [epa] at at11
      have elp : (padA t8.arr n).length = n := by unfold padA; rw [List.length_append, List.length_replicate]; omega
      have ts11 : TbS C D N H11 a num me F8 { t8 with arr := padA t8.arr n } := by
        refine ⟨at11, ts8.wf, fun i x e => ?_, by show (padA t8.arr n).length ≤ 20000; omega, ts8.sn⟩
        exact ⟨(ts8.keys i x e).1.frm L ts8.at_ at11 fr11, (ts8.keys i x e).2⟩
      obtain ⟨kp11, f11⟩ := step kp8 f8 fr11 Fsh.refl
      have glna : G.ln ≠ a := fun z => by rw [z, ho] at hl; cases hl
      have hgl : H1 G.ln = some (.lst G.vs) := s1 _ _ hl
      walk_at "t"
      refine ⟨G.ln, rfl, ⟨_, SqL.of (kp11 _ _ glna hgl)⟩, ?_⟩
      refine for_list (K := K) (a := G.ln) (xs := G.vs) (fun i σ' H' => i ≤ G.vs.length ∧ ∃ F12 t12 e5 e6 e7, σ' = [some (.ref a), some (.int n), some (.int m), some (.ref G.ln), some (.ref bl), e5, e6, e7] ∧ TbS C D N H' a num me F12 t12 ∧
        PutA KK { t8 with arr := padA t8.arr n } (liveN (t.nds.take i)) t12 ∧ (∀ b o, b ≠ a → H1 b = some o → H' b = some o) ∧ (∀ b, F12.In a b → b = a ∨ H1 b = none))
        ⟨Nat.zero_le _, _, _, _, _, _, rfl, ts11, .nil, kp11, f11⟩ ?_ ?_ ?_
      · rintro i _ H' _ ⟨_, _, _, _, _, _, _, _, _, kp, _⟩
        exact SqL.of (kp _ _ glna hgl)
      · rintro i z _ H12 hz ⟨hi, F12, t12, e5', e6', e7', rfl, ts12, pa12, kp12, f12⟩
        have hil : i < G.vs.length := by
          by_cases y : i < G.vs.length
          · exact y
          · rw [List.getElem?_eq_none (by omega)] at hz; cases hz
        have hin : i < t.nds.length := by rw [← hlen]; exact hil
        have hv := ht.at_.nds i z hz
        have eno := nd_at hin
        have el := liveN_take eno
        obtain ⟨⟨dx12, ho12⟩, ha12, hl12, hlen12, _⟩ := id ts12.at_
        cases en : nd t.nds i with
        | none =>
          rw [en] at hv el
          have hv : z = .non := hv
          subst hv
          have el : liveN (t.nds.take (i + 1)) = liveN (t.nds.take i) := by rw [el]; exact List.append_nil _
          walk_at "t"
          refine g_iten (fun y => absurd rfl y) fun _ => ?_
          walk_at "t"
          refine ⟨hil, F12, t12, e5', e6', some .non, rfl, ts12, ?_, kp12, f12⟩
          rw [el]
          exact pa12
        | some x =>
          rw [en] at hv el
          obtain ⟨b, dxb, rfl, hb⟩ := hv
          rw [liveN_some] at el
          have hba : b ≠ a := fun z => by
            rw [z, ho] at hb
            injection hb with hb
            injection hb with e1
            exact L.dn e1
          have hb12 := kp12 _ _ hba (s1 _ _ hb)
          obtain ⟨kx, gx⟩ := ht.keys i x en
          have frG : Frm a G H H12 := fun c o hc e => kp12 c o (fun z => hc (.inl z)) (s1 _ _ e)
          have kx12 := kx.frm L ht.at_ ts12.at_ frG
          walk_at "t"
          refine g_iten (fun _ => ?_) fun z => nomatch z
          walk_at "t"
          refine g_iten (fun hzn => ?_) fun hzn => ?_
          · rw [if_neg hzn] at el
            walk_at "t"
            refine ⟨a, dx12, _, rfl, ho12, rfl, ?_⟩
            walk_at "t"
            obtain ⟨w12, l12, r12, c12⟩ := pa12.ok KK ts8.wf
            have r12 : t12.arr.length = n := r12.trans elp
            have c12 : nn t8.nds ≤ nn t12.nds + outs KK n (liveN (t.nds.take i)) := by
              have := c12
              simp only [elp] at this
              exact this
            have o12 := outs_take (l := t.nds) (i := i + 1) (n := n)
            rw [el, outs_append] at o12
            have rm : Room0 t12 ∨ inside KK t12 x.key := by
              by_cases hin : inB KK n x.key = true
              · refine .inr ((inB_iff KK).mpr ?_)
                rw [r12]; exact hin
              · refine .inl (nn_ex ?_)
                have o1 : outs KK n [(x.key, x.kv, x.val)] = 1 := by
                  unfold outs
                  rw [List.countP_cons]
                  simp [hin]
                omega
            have epk : plK x.key = x.key := plK_self gx
            have epv : plV x.kv x.key.x = x.kv := plV_self kx12.1 gx.pl
            refine ⟨a, _, _, num, me, x.key, F12, t12, rfl, ts12, kx12, gx.nn, gx.nan, by rw [epk]; exact rm, fun H13 t13 px lf => ?_⟩
            rw [epk, epv] at px
            obtain ⟨F13, ts13, fr13, fs13⟩ := lf
            obtain ⟨kp13, f13⟩ := step kp12 f12 fr13 fs13
            walk_at "t"
            refine ⟨hil, F13, t13, e5', e6', some (.ref b), rfl, ts13, ?_, kp13, f13⟩
            rw [el]
            exact pa12.snoc KK px.S
          · rw [if_pos hzn, List.append_nil] at el
            walk_at "t"
            refine ⟨hil, F12, t12, e5', e6', some (.ref b), rfl, ts12, ?_, kp12, f12⟩
            rw [el]
            exact pa12
      · rintro _ H12 ⟨_, F12, t12, e5', e6', e7', rfl, ts12, pa12, kp12, f12⟩
        rw [List.take_of_length_le (by rw [hlen]; exact Nat.le_refl _)] at pa12
        walk_at "t"
        refine q H12 t12 (.mk pa8 pa12) ⟨F12, ts12, fun b o hb e => kp12 b o (fun z => hb (.inl z)) (s1 _ _ e), fun b hb => ?_⟩
        rcases f12 b hb with z | z
        · exact .inl (.inl z)
        · exact .inr (s1.free z)
end
end Up

set_option Elab.async false
set_option linter.all false
set_option pp.maxSteps 600
set_option maxRecDepth 100000
set_option maxHeartbeats 4000000
set_option exponentiation.threshold 200000
namespace Up
open PySem PySem.Spec PyProof.Rows L2
/-! ### how many keys are where: what grow counts -/
def slB (k : Ky) : Option Nat := match whA k.x with
  | some i => if 1 ≤ i ∧ i ≤ 2147483648 then some (bitsN (i - 1).toNat) else none
  | none => none
theorem slB_lt {k : Ky} {p : Nat} (h : slB k = some p) : p < 32 := by
  unfold slB at h
  split at h
  · rename_i i _
    split at h
    · rename_i hi
      injection h with h
      have : bitsN (i - 1).toNat ≤ 31 := bits_le (by
        have : (2 : Nat) ^ 31 = 2147483648 := by decide
        omega)
      omega
    · cases h
  · cases h
def slP (p : Nat) (k : Ky) : Bool := decide (slB k = some p)
def slL (p : Nat) (k : Ky) : Bool := match slB k with
  | some q => decide (q < p)
  | none => false
theorem inB_sl (k : Ky) {p : Nat} (hp : p ≤ 31) : inB KK (2 ^ p) k = slL (p + 1) k := by
  unfold inB slL slB
  show (match whA k.x with | some i => decide (1 ≤ i) && decide (i ≤ (2 ^ p : Nat)) | none => false) = _
  cases whA k.x with
  | none => rfl
  | some i =>
    have h2 : (2 : Nat) ^ p ≤ 2 ^ 31 := Nat.pow_le_pow_right (by decide) hp
    have h3 : (2 : Nat) ^ 31 = 2147483648 := by decide
    by_cases h : 1 ≤ i ∧ i ≤ 2147483648
    · simp only [h, and_self, if_true, decide_true, Bool.true_and]
      by_cases h4 : i ≤ ((2 ^ p : Nat) : Int)
      · have : bitsN (i - 1).toNat ≤ p := bits_le (by omega)
        rw [decide_eq_true h4, decide_eq_true (by omega)]
      · have : p + 1 ≤ bitsN (i - 1).toNat := le_bits (by omega)
        rw [decide_eq_false h4, decide_eq_false (by omega)]
    · simp only [h, if_false]
      by_cases h1 : 1 ≤ i
      · rw [decide_eq_false (p := i ≤ ((2 ^ p : Nat) : Int)) (by omega), Bool.and_false]
      · rw [decide_eq_false h1, Bool.false_and]
theorem cnt_sl (l : List Ky) (p : Nat) : l.countP (slL (p + 1)) = l.countP (slL p) + l.countP (slP p) := by
  induction l with
  | nil => rfl
  | cons k l ih =>
    rw [List.countP_cons, List.countP_cons, List.countP_cons, ih]
    have : (if slL (p + 1) k = true then 1 else 0) = (if slL p k = true then 1 else 0) + (if slP p k = true then 1 else 0) := by
      unfold slL slP
      cases slB k with
      | none => simp
      | some q =>
        simp only [Option.some.injEq, decide_eq_true_eq]
        by_cases h1 : q < p
        · simp [h1, show q < p + 1 by omega, show q ≠ p by omega]
        · by_cases h2 : q = p
          · simp [h2]
          · simp [h1, h2, show ¬ q < p + 1 by omega]
    omega
def csL (l : List Ky) : List Nat := (List.range 32).map fun p => l.countP (slP p)
theorem csL_len (l : List Ky) : (csL l).length = 32 := by unfold csL; simp
theorem csL_get (l : List Ky) {p : Nat} (h : p < 32) : (csL l).getD p 0 = l.countP (slP p) := by
  unfold csL
  rw [List.getD_eq_getElem?_getD, List.getElem?_map, List.getElem?_range h]
  rfl
theorem bs_eq (l : List Ky) : ∀ p, p ≤ 32 → (bsG (csL l) p).1 = l.countP (slL p) ∧ (bsG (csL l) p).2 = bestK KK l p := by
  intro p
  induction p with
  | zero =>
    intro _
    refine ⟨?_, rfl⟩
    show 0 = _
    symm
    rw [List.countP_eq_zero]
    intro k _
    unfold slL
    cases slB k <;> simp
  | succ p ih =>
    intro hp
    obtain ⟨h1, h2⟩ := ih (by omega)
    have e : cntIn KK (2 ^ p) l = l.countP (slL (p + 1)) := by
      unfold cntIn
      congr 1
      funext k
      exact inB_sl k (by omega)
    have e2 : (bsG (csL l) p).1 + (csL l).getD p 0 = l.countP (slL (p + 1)) := by rw [h1, csL_get l (by omega), cnt_sl]
    unfold bsG bestK
    rw [e, e2]
    split
    · exact ⟨rfl, rfl⟩
    · refine ⟨rfl, ?_⟩
      show ((bsG (csL l) p).2.1, (bsG (csL l) p).2.2) = _
      rw [← h2]
theorem bestK_le (l : List Ky) (p : Nat) : (bestK KK l p).1 ≤ 2 * l.length := by
  induction p with
  | zero => exact Nat.zero_le _
  | succ p ih =>
    unfold bestK
    split
    · rename_i h
      have : cntIn KK (2 ^ p) l ≤ l.length := List.countP_le_length
      show 2 ^ p ≤ _
      omega
    · exact ih
theorem bestK_cnt (l : List Ky) (p : Nat) : (bestK KK l p).2 ≤ l.length := by
  rw [bestK_in]
  exact List.countP_le_length
theorem powF_ge (n : Nat) : n ≤ powF n := by
  unfold powF
  split
  · omega
  · have := bits_lt (n - 1)
    omega
theorem powF_le (n : Nat) : powF n ≤ 2 * n := by
  unfold powF
  split
  · omega
  · by_cases h : n - 1 = 0
    · rw [h]; show 1 ≤ _; omega
    · have h1 := bits_ge h
      have h2 := bits_pos h
      have : 2 ^ bitsN (n - 1) = 2 * 2 ^ (bitsN (n - 1) - 1) := by
        rw [← Nat.pow_succ']
        congr 1
        omega
      omega
theorem cnt_not (l : List Ky) (n : Nat) : l.length = cntIn KK n l + l.countP (fun k => !inB KK n k) := by
  unfold cntIn
  induction l with
  | nil => rfl
  | cons k l ih =>
    rw [List.countP_cons, List.countP_cons, List.length_cons]
    cases inB KK n k <;> simp <;> omega
theorem arr_outs (b : Nat) : ∀ (l : List V) (a : Nat), (arrK KK a l).countP (fun k => !inB KK b k) = (liveA KK (max a b) (l.drop (b - a))).length := by
  intro l
  induction l with
  | nil => intro a; rw [List.drop_nil]; rfl
  | cons v l ih =>
    intro a
    have hin : inB KK b (KK.ki ((a + 1 : Nat) : Int)) = decide (a + 1 ≤ b) := by
      unfold inB
      rw [KK.wk]
      show (decide ((1 : Int) ≤ ((a + 1 : Nat) : Int)) && decide (((a + 1 : Nat) : Int) ≤ (b : Int))) = _
      rw [decide_eq_true (by omega), Bool.true_and]
      by_cases h : a + 1 ≤ b
      · rw [decide_eq_true h, decide_eq_true (by omega)]
      · rw [decide_eq_false h, decide_eq_false (by omega)]
    by_cases hab : a < b
    · have e1 : (v :: l).drop (b - a) = l.drop (b - (a + 1)) := by
        have : b - a = (b - (a + 1)) + 1 := by omega
        rw [this, List.drop_succ_cons]
      have e2 : max a b = max (a + 1) b := by omega
      rw [e1, e2, ← ih (a + 1)]
      show (if v = .non then arrK KK (a + 1) l else KK.ki (a + 1 : Nat) :: arrK KK (a + 1) l).countP _ = _
      split
      · rfl
      · rw [List.countP_cons, hin, decide_eq_true (by omega)]
        rfl
    · have e0 : b - a = 0 := by omega
      have e2 : max a b = a := by omega
      have e3 : b - (a + 1) = 0 := by omega
      have e4 : max (a + 1) b = a + 1 := by omega
      have := ih (a + 1)
      rw [e3, e4, List.drop_zero] at this
      rw [e0, e2, List.drop_zero]
      show (if v = .non then arrK KK (a + 1) l else KK.ki (a + 1 : Nat) :: arrK KK (a + 1) l).countP _ = (if v = .non then liveA KK (a + 1) l else (KK.ki (a + 1 : Nat), V.int (a + 1 : Nat), v) :: liveA KK (a + 1) l).length
      split
      · exact this
      · rw [List.countP_cons, hin, decide_eq_false (by omega), this]
        rfl
def grB (t : Tb Ky) (k : Ky) : Nat := (bestK KK (keysK KK t k) 32).1
def grM (t : Tb Ky) (k : Ky) : Nat := (keysK KK t k).length - (bestK KK (keysK KK t k) 32).2
def lv (t : Tb Ky) : Nat := (liveA KK 0 t.arr).length + (liveN t.nds).length
theorem keys_len (t : Tb Ky) (k : Ky) : (keysK KK t k).length = lv t + 1 := by
  unfold keysK lv ndK
  rw [arrK_live]
  simp only [List.length_append, List.length_map, List.length_cons, List.length_nil]
  omega
theorem gr_room (t : Tb Ky) (k : Ky) : (liveA KK (grB t k) (t.arr.drop (grB t k))).length + outs KK (grB t k) (liveN t.nds) + (if inB KK (grB t k) k = true then 0 else 1) ≤ powF (grM t k) := by
  refine Nat.le_trans ?_ (powF_ge _)
  unfold grM
  have h1 := bestK_in KK (keysK KK t k) 32
  have h2 := cnt_not (keysK KK t k) (grB t k)
  have h3 : ∀ b, (keysK KK t k).countP (fun q => !inB KK b q) = (liveA KK b (t.arr.drop b)).length + (if inB KK b k = true then 0 else 1) + outs KK b (liveN t.nds) := by
    intro b
    unfold keysK ndK
    rw [List.countP_append, List.countP_append, arr_outs]
    have e1 : max 0 b = b := by omega
    rw [e1, Nat.sub_zero, List.countP_map]
    have e2 : (List.countP (fun q => !inB KK b q) [k]) = (if inB KK b k = true then 0 else 1) := by
      rw [List.countP_cons, List.countP_nil]
      cases inB KK b k <;> rfl
    rw [e2]
    rfl
  rw [h3 (grB t k)] at h2
  have h4 : grB t k = (bestK KK (keysK KK t k) 32).1 := rfl
  rw [← h4] at h1
  omega
/-! how many values there are -/
theorem cnt_set_le {α : Type} {p : α → Bool} : ∀ {l : List α} {i : Nat} {x : α}, (l.set i x).countP p ≤ l.countP p + 1
  | [], _, _ => by simp
  | a :: l, 0, x => by simp only [List.set_cons_zero, List.countP_cons]; split <;> split <;> omega
  | a :: l, i + 1, x => by
    have := cnt_set_le (p := p) (l := l) (i := i) (x := x)
    simp only [List.set_cons_succ, List.countP_cons]
    omega
theorem cnt_set_dn {α : Type} {p : α → Bool} : ∀ {l : List α} {i : Nat} {x y : α}, l[i]? = some y → (p x = true → p y = true) → (l.set i x).countP p ≤ l.countP p
  | [], _, _, _, h, _ => by simp at h
  | a :: l, 0, x, y, h, e => by
    simp only [List.getElem?_cons_zero, Option.some.injEq] at h
    subst h
    simp only [List.set_cons_zero, List.countP_cons]
    by_cases hx : p x = true
    · simp [hx, e hx]
    · simp [hx]
  | a :: l, i + 1, x, y, h, e => by
    simp only [List.getElem?_cons_succ] at h
    have := cnt_set_dn (p := p) (l := l) (i := i) h e
    simp only [List.set_cons_succ, List.countP_cons]
    omega
def lvN (o : Option (Nd Ky)) : Bool := match o with
  | some x => !decide (x.val = .non)
  | none => false
def lvA (v : V) : Bool := !decide (v = .non)
theorem liveN_len (l : Nds Ky) : (liveN l).length = l.countP lvN := by
  induction l with
  | nil => rfl
  | cons o l ih =>
    rw [List.countP_cons, ← ih]
    cases o with
    | none =>
      show (liveN l).length = _
      simp [lvN]
    | some x =>
      by_cases h : x.val = .non
      · have : liveN (some x :: l) = liveN l := by unfold liveN; rw [List.filterMap_cons]; simp [h]
        rw [this]; simp [lvN, h]
      · have : liveN (some x :: l) = (x.key, x.kv, x.val) :: liveN l := by unfold liveN; rw [List.filterMap_cons]; simp [h]
        rw [this]; simp [lvN, h]
theorem liveA_len (a : Nat) (l : List V) : (liveA KK a l).length = l.countP lvA := by
  induction l generalizing a with
  | nil => rfl
  | cons v l ih =>
    rw [List.countP_cons]
    unfold liveA
    split
    · rename_i h
      rw [ih]; simp [lvA, h]
    · rename_i h
      rw [List.length_cons, ih]; simp [lvA, h]
theorem lv_eq (t : Tb Ky) : lv t = t.arr.countP lvA + t.nds.countP lvN := by unfold lv; rw [liveN_len, liveA_len]
theorem PutN.lv {t t' : Tb Ky} {k : Ky} {kv u : V} (W : TW KK t) (h : PutN KK t k kv u t') : lv t' ≤ lv t + 1 := by
  rw [lv_eq, lv_eq]
  cases h with
  | repl a ha hlt hv =>
    have := cnt_set_le (p := lvN) (l := t.nds) (i := a) (x := some ⟨k, kv, u, (nd t.nds a).bind (·.link), false⟩)
    show t.arr.countP lvA + (t.nds.set a _).countP lvN ≤ _
    omega
  | coll a f h ha F e hv hh =>
    have hf : f < t.nds.length := Nat.lt_of_lt_of_le F.lt W.frn
    have hal := nd_lt e
    have hfa : a ≠ f := fun z => by rw [z, F.none] at e; cases e
    have h1 := cnt_set_le (p := lvN) (l := t.nds) (i := f) (x := some ⟨k, kv, u, h.link, false⟩)
    have h2 := cnt_set_dn (p := lvN) (l := t.nds.set f (some ⟨k, kv, u, h.link, false⟩)) (i := a) (x := some { h with link := some f }) (y := some h) (by rw [nd_at (by rw [List.length_set]; exact hal), nd_set hf, fu_ne hfa, e]) (fun z => z)
    show t.arr.countP lvA + ((t.nds.set f _).set a _).countP lvN ≤ _
    omega
  | move a f p h q ha F e hv hh hp hq =>
    have hf : f < t.nds.length := Nat.lt_of_lt_of_le F.lt W.frn
    have hal := nd_lt e
    have hpl := nd_lt hp
    have hfa : a ≠ f := fun z => by rw [z, F.none] at e; cases e
    obtain ⟨rk, hr⟩ := W.rnk
    have hpa : a ≠ p := fun z => by have := hr _ _ ⟨q, hp, hq⟩; rw [z] at this; omega
    have h0 := cnt_set_dn (p := lvN) (l := t.nds) (i := p) (x := some { q with link := some f }) (y := some q) (by rw [nd_at hpl, hp]) (fun z => z)
    have h1 := cnt_set_le (p := lvN) (l := t.nds.set p (some { q with link := some f })) (i := f) (x := some h)
    have h2 := cnt_set_dn (p := lvN) (l := (t.nds.set p (some { q with link := some f })).set f (some h)) (i := a) (x := some ⟨k, kv, u, none, false⟩) (y := some h) (by rw [nd_at (by rw [List.length_set, List.length_set]; exact hal), nd_set (by rw [List.length_set]; exact hf), fu_ne hfa, nd_set hpl, fu_ne hpa, e]) (fun _ => by simp [lvN, hv])
    show t.arr.countP lvA + (((t.nds.set p _).set f _).set a _).countP lvN ≤ _
    omega
theorem PutS.lv {t t' : Tb Ky} {k : Ky} {kv u : V} (W : TW KK t) (h : PutS KK t k kv u t') : lv t' ≤ lv t + 1 := by
  cases h with
  | ins i e h1 h2 =>
    rw [lv_eq, lv_eq]
    have := cnt_set_le (p := lvA) (l := t.arr) (i := (i - 1).toNat) (x := u)
    show (t.arr.set _ _).countP lvA + t.nds.countP lvN ≤ _
    omega
  | fnd r x ni f e =>
    rw [lv_eq, lv_eq]
    have := cnt_set_le (p := lvN) (l := t.nds) (i := r) (x := some { x with val := u })
    show t.arr.countP lvA + (t.nds.set r _).countP lvN ≤ _
    omega
  | skip ni f e => omega
  | new ni f e h => exact h.lv W
theorem PutA.lv {t t' : Tb Ky} {l : List (Ky × V × V)} (h : PutA KK t l t') (W : TW KK t) : lv t' ≤ lv t + l.length := by
  induction h with
  | nil => simp
  | cons a _ ih =>
    have h1 := a.lv W
    have h2 := ih (a.ok KK W).1
    rw [List.length_cons]
    omega
theorem Rsz.lv {t t' : Tb Ky} {n m : Nat} (h : Rsz KK t n m t') : lv t' ≤ lv t := by
  cases h with
  | mk h1 h2 =>
    rename_i t1
    have W0 := TW.new KK (κ := Ky) (t.arr.take n) m
    have w1 := (h1.ok KK W0).1
    have a1 := h1.lv W0
    have a2 := h2.lv (show TW KK { t1 with arr := padA t1.arr n } from w1)
    rw [lv_eq] at a1 a2 ⊢
    rw [lv_eq] at a1 a2 ⊢
    have e1 : (padA t1.arr n).countP lvA = t1.arr.countP lvA := by
      unfold padA
      rw [List.countP_append]
      have : (List.replicate (n - t1.arr.length) V.non).countP lvA = 0 := by
        rw [List.countP_eq_zero]
        intro v hv
        rw [List.eq_of_mem_replicate hv]
        simp [lvA]
      omega
    have e2 : (List.replicate m (none : Option (Nd Ky))).countP lvN = 0 := by
      rw [List.countP_eq_zero]
      intro v hv
      rw [List.eq_of_mem_replicate hv]
      simp [lvN]
    have e3 : (liveA KK n (t.arr.drop n)).length = (t.arr.drop n).countP lvA := liveA_len _ _
    have e4 : (t.arr.take n).countP lvA + (t.arr.drop n).countP lvA = t.arr.countP lvA := by rw [← List.countP_append, List.take_append_drop]
    have e5 := liveN_len t.nds
    have a1 : t1.arr.countP lvA + t1.nds.countP lvN ≤ (t.arr.take n).countP lvA + (List.replicate m (none : Option (Nd Ky))).countP lvN + (liveA KK n (t.arr.drop n)).length := a1
    have a2 : t'.arr.countP lvA + t'.nds.countP lvN ≤ (padA t1.arr n).countP lvA + t1.nds.countP lvN + (liveN t.nds).length := a2
    omega
theorem Rsz.ok {t t' : Tb Ky} {n m : Nat} (h : Rsz KK t n m t') : TW KK t' ∧ t'.arr.length = n ∧ t'.nds.length = m ∧ m ≤ nn t'.nds + (liveA KK n (t.arr.drop n)).length + outs KK n (liveN t.nds) := by
  cases h with
  | mk h1 h2 =>
    rename_i t1
    have W0 := TW.new KK (κ := Ky) (t.arr.take n) m
    obtain ⟨w1, l1, r1, c1⟩ := h1.ok KK W0
    have r1 : t1.arr.length = (t.arr.take n).length := r1
    have l1 : t1.nds.length = m := l1.trans (List.length_replicate ..)
    have elp : (padA t1.arr n).length = n := by
      unfold padA
      rw [List.length_append, List.length_replicate, r1, List.length_take]
      omega
    obtain ⟨w2, l2, r2, c2⟩ := h2.ok KK (show TW KK { t1 with arr := padA t1.arr n } from w1)
    refine ⟨w2, r2.trans elp, l2.trans l1, ?_⟩
    have c1 : m ≤ nn t1.nds + outs KK (t.arr.take n).length (liveA KK n (t.arr.drop n)) := by
      have := c1
      simp only [nn_new] at this
      exact this
    rw [outs_liveA KK n _ (by rw [List.length_take]; omega)] at c1
    have c2 : nn t1.nds ≤ nn t'.nds + outs KK n (liveN t.nds) := by
      have := c2
      simp only [elp] at this
      exact this
    omega
end Up

set_option Elab.async false
set_option linter.all false
set_option pp.maxSteps 600
set_option maxRecDepth 100000
set_option maxHeartbeats 4000000
set_option exponentiation.threshold 200000
namespace Up
open PySem PySem.Spec PyProof.Rows L2
local macro_rules | `(tactic| walk_at "u") => `(tactic| first
  | with_reducible refine g_seq ?_
  | with_reducible refine g_asg ?_
  | with_reducible refine g_op ?_
  | ((with_reducible show tVar _ _ _ _); apply g_var; exact rfl)
  | with_reducible refine g_c ?_
  | with_reducible refine g_name ?_
  | with_reducible refine g_ifs ?_
  | with_reducible refine g_tt ?_
  | with_reducible refine g_tB ?_
  | with_reducible refine g_bl ?_
  | with_reducible refine g_ret ?_
  | with_reducible refine g_cb ?_
  | with_reducible refine g_cons ?_
  | with_reducible refine g_nil ?_
  | with_reducible refine g_call ?_
  | with_reducible refine g_and ?_
  | with_reducible refine g_or ?_
  | with_reducible refine g_not ?_
  | with_reducible refine g_andV ?_
  | with_reducible refine g_orV ?_
  | with_reducible refine g_notV ?_
  | with_reducible refine g_if ?_
  | with_reducible refine g_un ?_
  | with_reducible refine g_neg ?_
  | with_reducible refine g_addI ?_
  | with_reducible refine g_subI ?_
  | with_reducible refine g_subB ?_
  | with_reducible refine g_I0 ?_
  | with_reducible refine g_cmpI ?_
  | with_reducible refine g_eqI ?_
  | with_reducible refine g_neI ?_
  | with_reducible refine g_eqS ?_
  | with_reducible refine g_neS ?_
  | with_reducible refine g_eqB ?_
  | with_reducible refine g_neB ?_
  | with_reducible refine g_bits ?_
  | with_reducible refine g_bitsI ?_
  | with_reducible refine g_fld ?_
  | with_reducible refine g_tup ?_
  | with_reducible refine g_lst ?_
  | with_reducible refine g_gtup ?_
  | with_reducible refine g_make ?_
  | with_reducible refine g_lc ?_
  | with_reducible refine g_yesT ?_
  | with_reducible refine g_intI ?_
  | with_reducible refine g_intB ?_
  | with_reducible refine g_max2 ?_
  | with_reducible refine g_abs1 ?_
  | with_reducible refine g_for ?_
  | with_reducible refine g_iList ?_
  | with_reducible refine g_iTup ?_
  | with_reducible refine g_iRng1 ?_
  | with_reducible refine g_iEnum ?_
  | with_reducible refine g_slice ?_
  | with_reducible refine g_po0 ?_
  | with_reducible refine g_po1 ?_
  | with_reducible refine g_gsub ?_
  | with_reducible refine g_par ?_
  | with_reducible refine g_par2 ?_
  | with_reducible refine g_rfl ?_
  | with_reducible refine g_meth ?_
  | with_reducible refine g_gcons ?_
  | with_reducible refine g_gnil ?_
  | with_reducible refine g_gfld ?_
  | with_reducible refine g_sfld ?_
  | with_reducible refine g_drop ?_
  | with_reducible refine g_next ?_
  | with_reducible refine iteT ?_
  | with_reducible refine iteF ?_)
local macro_rules | `(tactic| walk_at "go") => `(tactic| (repeat walk_at "u"))
local macro_rules | `(tactic| walk_at "t1") => `(tactic| (first
  | walk_at "u"
  | with_reducible refine g_chain ?_
  | with_reducible refine g_par3 ?_
  | with_reducible refine g_par3' ?_
  | with_reducible refine g_augS ?_
  | with_reducible refine g_nt ?_
  | with_reducible refine g_nf ?_
  | with_reducible refine g_methK ?_
  | with_reducible refine g_makeK ?_
  | with_reducible refine g_iRng2 ?_
  | with_reducible refine g_bm ?_
  | with_reducible refine g_fldaug ?_
  | with_reducible refine g_iStr ?_
  | with_reducible refine g_ipI ?_
  | ((with_reducible show tAug _ _ _ _ _ _); refine ⟨_, rfl, ?_⟩)
  | ((with_reducible refine show_exT ?_); first
    | refine rdT3 (by assumption) (by assumption) ?_
    | refine rdT4 (by assumption) (by assumption) ?_
    | refine rdT5 (by assumption) (by assumption) ?_
    | refine rdT1 (by assumption) (by assumption) ?_
    | refine rdT2 (by assumption) (by assumption) ?_
    | refine rdN1 (by assumption) (by assumption) ?_
    | refine rdN2 (by assumption) (by assumption) ?_
    | refine rdN3 (by assumption) (by assumption) ?_
    | refine rdN4 (by assumption) (by assumption) ?_)))
local macro_rules | `(tactic| walk_at "t") => `(tactic| (repeat walk_at "t1"))
local macro_rules | `(tactic| walk_at "v") => `(tactic| (repeat (first
  | walk_at "t1"
  | with_reducible refine g_js ?_
  | with_reducible refine g_js0 ?_
  | with_reducible refine g_fmt ?_
  | with_reducible refine g_joined ?_
  | with_reducible refine g_isBool ?_
  | with_reducible refine g_notBool ?_
  | with_reducible refine g_revL ?_
  | with_reducible refine g_self ?_
  | with_reducible refine g_selfN ?_
  | with_reducible refine g_rN ?_
  | with_reducible refine g_rNN ?_
  | with_reducible refine g_iN ?_
  | with_reducible refine g_iNN ?_
  | with_reducible refine g_sN ?_
  | with_reducible refine g_sNN ?_
  | with_reducible refine g_bN ?_
  | with_reducible refine g_bNN ?_)))

theorem map1_app (l r : List (Ky × V × V)) : (l ++ r).map (·.2.1) = l.map (·.2.1) ++ r.map (·.2.1) := List.map_append
section
variable {P : Program} {w : World} {K : PySem.W.Frag} {mg : Str → Option Value} {base : Heap} {C D N : Addr} {H H' : Hp} {a : Addr} {num me : V} {F F' : Fp} {t t' : Tb Ky}
/-- the items whose keys are counted -/
def grL (t : Tb Ky) (k : Ky) (v : V) : List (Ky × V × V) := liveA KK 0 t.arr ++ [(k, v, .non)] ++ liveN t.nds
theorem grL_keys (t : Tb Ky) (k : Ky) (v : V) : (grL t k v).map (·.1) = keysK KK t k := by
  unfold grL keysK ndK
  rw [arrK_live, List.map_append, List.map_append]
  rfl
theorem liveA_mem {a : Nat} {l : List V} {q : Ky × V × V} (h : q ∈ liveA KK a l) (hl : a + l.length ≤ 100000) : ∃ i : Nat, q.1 = KK.ki i ∧ q.2.1 = .int i ∧ i ≤ 100000 := by
  induction l generalizing a with
  | nil => cases h
  | cons v l ih =>
    rw [List.length_cons] at hl
    unfold liveA at h
    split at h
    · exact ih h (by omega)
    · rcases List.mem_cons.mp h with rfl | h
      · exact ⟨a + 1, rfl, rfl, by omega⟩
      · exact ih h (by omega)
theorem liveN_mem {l : Nds Ky} {q : Ky × V × V} (h : q ∈ liveN l) : ∃ i x, nd l i = some x ∧ q = (x.key, x.kv, x.val) := by
  unfold liveN at h
  rw [List.mem_filterMap] at h
  obtain ⟨o, ho, e⟩ := h
  cases o with
  | none => cases e
  | some x =>
    obtain ⟨i, hi, ei⟩ := List.getElem_of_mem ho
    refine ⟨i, x, ?_, ?_⟩
    · unfold nd
      rw [List.getElem?_eq_getElem hi, ei]
      rfl
    · have e : (if x.val = .non then none else some (x.key, x.kv, x.val)) = some q := e
      split at e
      · cases e
      · exact (Option.some.inj e).symm
theorem grL_at (ht : TbS C D N H a num me F t) {k : Ky} {v : V} (hk : KyAt C D H v k) {q : Ky × V × V} (h : q ∈ grL t k v) : KyAt C D H q.2.1 q.1 := by
  unfold grL at h
  rw [List.mem_append, List.mem_append] at h
  rcases h with (h | h) | h
  · obtain ⟨i, e1, e2, hi⟩ := liveA_mem h (by have := ht.sa; omega)
    rw [e1, e2]
    refine ky_int ?_
    have : i < 2 ^ 64 := by omega
    exact lt_pow_mono (a := 64) (by omega) (by decide)
  · simp only [List.mem_cons, List.not_mem_nil, or_false] at h
    rw [h]
    exact hk
  · obtain ⟨i, x, e, rfl⟩ := liveN_mem h
    exact (ht.keys i x e).1
theorem csL_step (l : List Ky) (k : Ky) {p : Nat} (h : slB k = some p) : csL (l ++ [k]) = (csL l).set p ((csL l).getD p 0 + 1) := by
  have hp := slB_lt h
  apply List.ext_getElem?
  intro i
  rw [List.getElem?_set]
  unfold csL
  rw [List.getElem?_map, List.getElem?_map]
  by_cases hi : i < 32
  · rw [List.getElem?_range hi]
    simp only [Option.map_some, List.countP_append, List.countP_cons, List.countP_nil]
    by_cases hpi : p = i
    · subst hpi
      have e := csL_get l hp
      unfold csL at e
      have this : slP p k = true := by unfold slP; rw [h]; simp
      rw [e]
      simp [this, hp]
    · rw [if_neg hpi]
      have : slP i k = false := by unfold slP; rw [h]; simp [hpi]
      simp [this]
  · have e1 : (List.range 32)[i]? = none := by rw [List.getElem?_eq_none]; simp; omega
    rw [e1]
    simp only [Option.map_none]
    by_cases hpi : p = i
    · omega
    · rw [if_neg hpi]
theorem csL_none (l : List Ky) (k : Ky) (h : slB k = none) : csL (l ++ [k]) = csL l := by
  unfold csL
  apply List.map_congr_left
  intro p _
  rw [List.countP_append, List.countP_cons, List.countP_nil]
  have : slP p k = false := by unfold slP; rw [h]; simp
  simp [this]
theorem csL_nil : csL [] = List.replicate 32 0 := by decide
/-! grow -/
theorem sc_Table_grow : FnScope ["self", "key", "counts", "keys", "at", "value", "node", "one", "array", "inside"] ["self", "key"] (defScope s_Table_grow) := ⟨rfl, rfl, rfl, by decide +kernel, rfl, by decide +kernel, by decide +kernel⟩
def Grw (t : Tb Ky) (k : Ky) (t' : Tb Ky) : Prop := Rsz KK t (grB t k) (powF (grM t k)) t'
def sp_grow (C D N : Addr) : Sp := fun vs H Q _ => ∃ (a : Addr) (v num me : V) (k : Ky) (F : Fp) (t : Tb Ky), vs = [.ref a, v] ∧ TbS C D N H a num me F t ∧ KyAt C D H v k ∧ lv t < 4000 ∧
  ∀ H' t', Grw t k t' → Left C D N a num me F H H' t' → Q .non H'
theorem ok_grow {f : Addr} {fd : FuncData} (F : FunD K "grow" "Table.grow" (defArgs s_Table_grow) (defBody s_Table_grow) (defScope s_Table_grow) [] [] f fd) (B : Blt mg) (L : Cl3 C D N) (TT : TbC K mg D) (TN : NdC K mg N) (T : FlC K mg C) (O : ObC K C D) (i_MOST_PLACE : ∃ t, mg "MOST_PLACE" = some (.int 2147483648 t)) (c_iswhole : Fn P w K mg base CX0 1 "is_whole" ["key"] [] (sp_iswhole K))
    (c_bestsize : Fn P w K mg base CX0 1 "best_size" ["counts"] [] sp_bestsize) (c_resize : Mt P w K mg base CX0 7 D "resize" ["self", "array", "nodes"] (sp_resize C D N)) : FnOk P w K mg base CX0 8 f fd ["self", "key"] (sp_grow C D N) := by
  refine F.ok sc_Table_grow (fun vs H Q E h => ?_) (fun cdv A outer s H vs Q E hr h => ?_)
  · obtain ⟨_, _, _, _, _, _, _, rfl, _⟩ := h; rfl
  · obtain ⟨a, v, num, me, k, G, t, rfl, ht, hk, hlv, q⟩ := h
    refine ⟨_, PSs.nox (pss_cons (ps_set (i := 2) sc_Table_grow.nd rfl (Or.inl rfl) (pe_op op_oMul (pe_lstN (pa_cons pe_int pa_nil)) pe_int))
  (pss_cons (ps_set (i := 3) sc_Table_grow.nd rfl (Or.inl rfl) (pe_op op_oAdd (pe_lc (own := [("at", 4), ("value", 5)]) (g := gTup K 2 (gCons (gName 4) (gCons (gName 5) gNil))) rfl sc_Table_grow.nd (pi_enum (by rfl) B.enumerate (pa_cons (pe_fld (pv 0) rfl) pa_nil)) (blkOk_by (own := [("at", 4), ("value", 5)]) (N := ["self", "key", "counts", "keys", "at", "value", "node", "one", "array", "inside"]) (sc := defScope s_Table_grow) (by decide +kernel)) (fun _ _ _ _ _ => pg_tupE K rfl rfl (pgs_cons (pg_name (i := 4) sc_Table_grow.nd rfl (Or.inl rfl)) (pgs_cons (pg_name (i := 5) sc_Table_grow.nd rfl (Or.inl rfl)) pgs_nil))) (fun _ _ _ _ _ => (pts_one (pt_cmpR op_notN (pv 5) pe_non (nomark _)))) (fun _ _ _ _ _ => (pe_op (op_oAddE K rfl) (pv 4) pe_int))) (pe_lstN (pa_cons (pv 1) pa_nil))))
  (pss_cons (ps_expr (pe_bm PySem.F.plainAttrs_list PySem.F.slot_list_extend PySem.F.type_list_extend mt_extend (pv 3) (pa_cons (pe_lc (own := [("node", 6)]) (g := gName 6) rfl sc_Table_grow.nd (pi_list (pe_fld (pv 0) rfl)) (blkOk_by (own := [("node", 6)]) (N := ["self", "key", "counts", "keys", "at", "value", "node", "one", "array", "inside"]) (sc := defScope s_Table_grow) (by decide +kernel)) (fun _ _ _ _ _ => pg_name (i := 6) sc_Table_grow.nd rfl (Or.inl rfl)) (fun _ _ _ _ _ => (pts_one (PW.pt (pw_and (pt_cmpR op_notN (pv 6) pe_non (nomark _)) (pw_and1 (pt_cmpR op_notN (pe_fldE K rfl (pv 6) rfl) pe_non (nomark _))))))) (fun _ _ _ _ _ => (pe_fldE K rfl (pv 6) rfl))) pa_nil)))
  (pss_cons (ps_for PassesOwn.never rfl (pi_list (pv 3)) (pg_name (i := 7) sc_Table_grow.nd rfl (Or.inl rfl))
    (pss_one (ps_if (PW.pt (pw_and (pt_val (pe_fn c_iswhole (hr.mono (by first | decide | omega)) pass0 (pa_cons (pv 7) pa_nil))) (pw_and1 (pt_chain op_oLe op_oLe pe_int (pv 7) (pe_gint i_MOST_PLACE))))) (pss_one (ps_augS (pv 2) (pe_bits (pe_op op_oSub (pv 7) pe_int)) pget_list pe_int ip_add set_list)) pss_nil)))
  (pss_cons (ps_asg (pe_fn c_bestsize (hr.mono (by first | decide | omega)) pass0 (pa_cons (pv 2) pa_nil)) (pg_tup rfl (pgs_cons (pg_name (i := 8) sc_Table_grow.nd rfl (Or.inl rfl)) (pgs_cons (pg_name (i := 9) sc_Table_grow.nd rfl (Or.inl rfl)) pgs_nil))))
  (pss_one (ps_expr (pe_mt c_resize (hr.mono (by first | decide | omega)) pass0 (pv 0) (pa_cons (pv 8) (pa_cons (pe_op op_oSub (pe_callB call_len_seq (by rfl) B.len (by decide +kernel) (pa_cons (pv 3) pa_nil)) (pv 9)) pa_nil)))))))))), ?_⟩
    have hsa := ht.sa
    have hsn := ht.sn
    have hll : (liveA KK 0 t.arr).length ≤ 20000 := Nat.le_trans (liveA_le _ _) hsa
    have hln : (liveN t.nds).length ≤ 20000 := by rw [liveN_len]; exact Nat.le_trans List.countP_le_length hsn
    walk_at "t"
    refine g_new (sz rfl) fun p1 H1 n1 s1 h1 _ => ?_
    walk_at "t"
    refine ⟨_, h1, by decide, by decide, sz rfl, fun cl H2 n2 s2 h2 _ => ?_⟩
    have e32 : (List.replicate (32 : Int).toNat [V.int 0]).flatten = (csL []).map fun (c : Nat) => V.int c := by rw [csL_nil]; rfl
    rw [e32] at h2
    have s02 := s1.trans s2
    have ht2 := ht.same s02
    obtain ⟨⟨dx2, ho2⟩, ha2, hl2, hlen2, _⟩ := id ht2.at_
    walk_at "t"
    refine ⟨G.la, _, rfl, SqL.of ha2, fun D1 nD1 => ?_⟩
    refine lc_enum (K := K) (a := G.la) (xs := t.arr) (fun i H' => i ≤ t.arr.length ∧ Same H2 H' ∧ H' D1 = some (.lst ((liveA KK 0 (t.arr.take i)).map (·.2.1)))) ⟨Nat.zero_le _, fun b u e => by rw [upd_ne (ne_of_none e nD1)]; exact e, upd_same⟩ ?_ ?_ ?_
    · rintro i H' _ ⟨_, s3, _⟩
      exact SqL.of (s3 _ _ ha2)
    · rintro i z H3 T1 hz ⟨hi, s3, hD3⟩ hT
      have hil : i < t.arr.length := by
        by_cases y : i < t.arr.length
        · exact y
        · rw [List.getElem?_eq_none (by omega)] at hz; cases hz
      have el := liveA_take (a := 0) hz
      have s4 : Same H3 (upd H3 T1 (.tup [.int (i : Nat), z])) := fun b u e => by rw [upd_ne (ne_of_none e hT)]; exact e
      have hT4 : upd H3 T1 (.tup [.int (i : Nat), z]) T1 = some (.tup [.int (i : Nat), z]) := upd_same
      generalize upd H3 T1 (.tup [.int (i : Nat), z]) = H4 at s4 hT4 ⊢
      walk_at "t"
      refine ⟨T1, _, rfl, SqT.of hT4, rfl, ?_⟩
      walk_at "t"
      refine ⟨rfl, ?_⟩
      walk_at "t"
      refine g_iten (fun hzn => ?_) fun hzn => ?_
      · rw [if_neg hzn] at el
        walk_at "t"
        refine ⟨_, s4 _ _ hD3, Nat.lt_of_le_of_lt (show _ ≤ 100000 by rw [List.length_map]; exact Nat.le_trans (liveA_le _ _) (by rw [List.length_take]; omega)) (by decide), hil, fun b u e => ?_, ?_⟩
        · rw [upd_ne (fun z => by rw [z, nD1] at e; cases e)]
          exact s4 _ _ (s3 _ _ e)
        · rw [upd_same, el, List.map_append]
          have ei : ((i : Nat) : Int) + 1 = ((0 + i + 1 : Nat) : Int) := by omega
          rw [ei]
          rfl
      · rw [if_pos hzn, List.append_nil] at el
        refine ⟨hil, s3.trans s4, ?_⟩
        rw [el]
        exact s4 _ _ hD3
    · rintro H3 ⟨_, s3, hD3⟩
      rw [List.take_of_length_le (Nat.le_refl _)] at hD3
      have s03 := s02.trans s3
      walk_at "t"
      refine g_new (sz rfl) fun p4 H4 n4 s4 h4 _ => ?_
      refine .inl ⟨D1, p4, _, _, rfl, rfl, SqL.of (s4 _ _ hD3), SqL.of h4, Nat.le_trans (show _ ≤ 100000 by rw [List.length_map]; show (liveA KK 0 t.arr).length + 1 ≤ 100000; omega) (by decide), fun kl H5 n5 s5 h5 _ => ?_⟩
      have s35 := s4.trans s5
      have s05 := s03.trans s35
      have ht5 := ht.same s05
      obtain ⟨⟨dx5, ho5⟩, ha5, hl5, hlen5, _⟩ := id ht5.at_
      walk_at "t"
      refine ⟨tyL h5, ?_⟩
      walk_at "t"
      refine ⟨G.ln, rfl, ⟨_, SqL.of hl5⟩, fun D2 nD2 => ?_⟩
      refine lc_list (K := K) (a := G.ln) (xs := G.vs) (fun i H' => i ≤ G.vs.length ∧ Same H5 H' ∧ H' D2 = some (.lst ((liveN (t.nds.take i)).map (·.2.1)))) ⟨Nat.zero_le _, fun b u e => by rw [upd_ne (ne_of_none e nD2)]; exact e, upd_same⟩ ?_ ?_ ?_
      · rintro i H' _ ⟨_, s6, _⟩
        exact SqL.of (s6 _ _ hl5)
      · rintro i z H6 hz ⟨hi, s6, hD6⟩
        have hil : i < G.vs.length := by
          by_cases y : i < G.vs.length
          · exact y
          · rw [List.getElem?_eq_none (by omega)] at hz; cases hz
        have hin : i < t.nds.length := by rw [← hlen2]; exact hil
        have hv := ht5.at_.nds i z hz
        have el := liveN_take (nd_at hin)
        cases en : nd t.nds i with
        | none =>
          rw [en] at hv el
          have hv : z = .non := hv
          subst hv
          have el : liveN (t.nds.take (i + 1)) = liveN (t.nds.take i) := by rw [el]; exact List.append_nil _
          walk_at "t"
          refine ⟨rfl, ?_⟩
          walk_at "t"
          refine g_iten (fun y => absurd rfl y) fun _ => ?_
          refine ⟨hil, s6, ?_⟩
          rw [el]
          exact hD6
        | some x =>
          rw [en] at hv el
          obtain ⟨b, dxb, rfl, hb⟩ := hv
          rw [liveN_some] at el
          have hb6 := s6 _ _ hb
          walk_at "t"
          refine ⟨rfl, ?_⟩
          walk_at "t"
          refine g_iten (fun _ => ?_) fun z => nomatch z
          walk_at "t"
          refine g_iten (fun hzn => ?_) fun hzn => ?_
          · rw [if_neg hzn] at el
            walk_at "t"
            refine ⟨_, hD6, Nat.lt_of_le_of_lt (show _ ≤ 100000 by rw [List.length_map, liveN_len]; exact Nat.le_trans List.countP_le_length (by rw [List.length_take]; omega)) (by decide), hil, fun b u e => ?_, ?_⟩
            · rw [upd_ne (fun z => by rw [z, nD2] at e; cases e)]
              exact s6 _ _ e
            · rw [upd_same, el, List.map_append]
              rfl
          · rw [if_pos hzn, List.append_nil] at el
            refine ⟨hil, s6, ?_⟩
            rw [el]
            exact hD6
      · rintro H6 ⟨_, s6, hD6⟩
        rw [List.take_of_length_le (by rw [hlen2]; exact Nat.le_refl _)] at hD6
        walk_at "t"
        refine g_ext (s6 _ _ h5) hD6 (Nat.le_trans (show _ ≤ 100000 by rw [List.length_append, List.length_map, List.length_map]; show (liveA KK 0 t.arr).length + 1 + (liveN t.nds).length ≤ 100000; omega) (by decide)) fun H7 h7 k7 => ?_
        have ekl : ((liveA KK 0 t.arr).map (·.2.1) ++ [v]) ++ (liveN t.nds).map (·.2.1) = (grL t k v).map (·.2.1) := by
          unfold grL
          rw [List.map_append, List.map_append]
          rfl
        rw [ekl] at h7
        have nkl : H3 kl = none := s4.free n5
        have s07 : Same H H7 := fun b o e => by
          have hb : b ≠ kl := fun z => by
            have := s03 _ _ e
            rw [z, nkl] at this; cases this
          rw [k7 b hb]
          exact s6 _ _ (s05 _ _ e)
        have hcl7 : H7 cl = some (.lst ((csL []).map fun (c : Nat) => V.int c)) := by
          have hb : cl ≠ kl := fun z => by
            have := s3 _ _ h2
            rw [z, nkl] at this; cases this
          rw [k7 cl hb]
          exact s6 _ _ (s35 _ _ (s3 _ _ h2))
        have hclk : cl ≠ kl := fun z => by rw [z, h7] at hcl7; have := congrArg (fun x : Option HO => x) hcl7; exact absurd (s3 _ _ h2) (by rw [z, nkl]; exact fun y => nomatch y)
        have ncl : H cl = none := s1.free n2
        have hgl : (grL t k v).length = lv t + 1 := by
          have := keys_len t k
          rw [← grL_keys t k v, List.length_map] at this
          exact this
        walk_at "t"
        refine ⟨kl, rfl, ⟨_, SqL.of h7⟩, ?_⟩
        refine for_list (K := K) (a := kl) (xs := (grL t k v).map (·.2.1)) (fun i σ' H' => i ≤ (grL t k v).length ∧ Same H H' ∧ H' kl = some (.lst ((grL t k v).map (·.2.1))) ∧ H' cl = some (.lst ((csL (((grL t k v).take i).map (·.1))).map fun (c : Nat) => V.int c)) ∧
          ∃ e4 e5 e6 e7 e8 e9, σ' = [some (.ref a), some v, some (.ref cl), some (.ref kl), e4, e5, e6, e7, e8, e9]) ⟨Nat.zero_le _, s07, h7, hcl7, _, _, _, _, _, _, rfl⟩ ?_ ?_ ?_
        · rintro i _ H' _ ⟨_, _, hk', _⟩
          exact SqL.of hk'
        · rintro i z _ H8 hz ⟨hi, s8, hk8, hc8, e4, e5, e6, e7, e8, e9, rfl⟩
          have hil : i < (grL t k v).length := by
            by_cases y : i < (grL t k v).length
            · exact y
            · rw [List.getElem?_eq_none (by rw [List.length_map]; omega)] at hz; cases hz
          obtain ⟨qk, eq⟩ : ∃ qk, (grL t k v)[i]? = some qk := ⟨_, List.getElem?_eq_getElem hil⟩
          have ez : z = qk.2.1 := by rw [List.getElem?_map, eq] at hz; exact (Option.some.inj hz).symm
          have hq := (grL_at ht hk (List.mem_of_getElem? eq)).same s8
          rw [← ez] at hq
          obtain ⟨tt, hkn⟩ := hq.1.kf2 T O
          have et : ((grL t k v).take (i + 1)).map (·.1) = ((grL t k v).take i).map (·.1) ++ [qk.1] := by
            rw [List.take_add_one, eq, List.map_append]
            rfl
          walk_at "t"
          refine ⟨z, tt, rfl, hkn.kn, ?_⟩
          rw [hq.1.isI]
          walk_at "t"
          cases ew : whA qk.1.x with
          | none =>
            refine iteF ?_
            refine iteF ?_
            walk_at "t"
            refine ⟨hil, s8, hk8, ?_, e4, e5, e6, some z, e8, e9, rfl⟩
            rw [et, csL_none _ _ (by unfold slB; rw [ew])]
            exact hc8
          | some j =>
            have ev : z = .int j := hq.1.int_of ew
            subst ev
            refine iteT ?_
            walk_at "t"
            have stay : slB qk.1 = none → (i + 1 ≤ (grL t k v).length ∧ Same H H8 ∧ H8 kl = some (.lst ((grL t k v).map (·.2.1))) ∧ H8 cl = some (.lst ((csL (((grL t k v).take (i + 1)).map (·.1))).map fun (c : Nat) => V.int c)) ∧
                ∃ e4' e5' e6' e7' e8' e9', [some (.ref a), some v, some (.ref cl), some (.ref kl), e4, e5, e6, some (.int j), e8, e9] = [some (.ref a), some v, some (.ref cl), some (.ref kl), e4', e5', e6', e7', e8', e9']) := fun z => by
              refine ⟨hil, s8, hk8, ?_, e4, e5, e6, some (.int j), e8, e9, rfl⟩
              rw [et, csL_none _ _ z]
              exact hc8
            refine g_ite (fun h1 => ?_) fun h1 => ?_
            · walk_at "t"
              refine g_ite (fun h2 => ?_) fun h2 => ?_
              · have es : slB qk.1 = some (bitsN (j - 1).toNat) := by unfold slB; rw [ew]; exact if_pos ⟨h1, h2⟩
                have hp := slB_lt es
                have eb : Builtin.Int.intBits (j - 1) = bitsN (j - 1).toNat := by
                  have : (j - 1) = (((j - 1).toNat : Nat) : Int) := by omega
                  rw [this, intBits_nat, Int.toNat_natCast]
                walk_at "t"
                rw [eb]
                have hcz : ((csL (((grL t k v).take i).map (·.1))).map fun (c : Nat) => V.int c)[bitsN (j - 1).toNat]? = some (.int (((csL (((grL t k v).take i).map (·.1))).getD (bitsN (j - 1).toNat) 0 : Nat) : Int)) := by
                  rw [List.getElem?_map, List.getD_eq_getElem?_getD, List.getElem?_eq_getElem (by rw [csL_len]; exact hp)]
                  rfl
                refine g_getL hc8 (Int.natCast_nonneg _) (atI_of (Int.natCast_nonneg _) (by rw [Int.toNat_natCast]; exact hcz)) ?_
                walk_at "t"
                refine g_setL hc8 (ixN_of (Int.natCast_nonneg _) (by rw [List.length_map, csL_len]; omega)) fun H9 h9 k9 => ?_
                rw [Int.toNat_natCast] at h9
                walk_at "t"
                refine ⟨hil, fun b o e => ?_, ?_, ?_, e4, e5, e6, some (.int j), e8, e9, rfl⟩
                · rw [k9 b (fun z => by rw [z, ncl] at e; cases e)]
                  exact s8 _ _ e
                · rw [k9 kl (fun z => hclk z.symm)]
                  exact hk8
                · rw [h9, et, csL_step _ _ es, List.map_set]
                  rfl
              · walk_at "t"
                exact stay (by unfold slB; rw [ew]; exact if_neg (fun z => h2 z.2))
            · walk_at "t"
              exact stay (by unfold slB; rw [ew]; exact if_neg (fun z => h1 z.1))
        · rintro _ H8 ⟨_, s8, hk8, hc8, e4, e5, e6, e7, e8, e9, rfl⟩
          rw [List.length_map, List.take_of_length_le (Nat.le_refl _), grL_keys] at hc8
          have ht8 := ht.same s8
          walk_at "t"
          refine ⟨cl, _, rfl, hc8, by rw [csL_len]; decide, fun H9 tp n9 s9 h9 => ?_⟩
          rw [csL_len] at h9
          obtain ⟨_, eb⟩ := bs_eq (keysK KK t k) 32 (Nat.le_refl _)
          rw [eb] at h9
          walk_at "t"
          refine ⟨tp, _, rfl, SqT.of h9, rfl, ?_⟩
          have ht9 := ht8.same s9
          obtain ⟨⟨dx9, ho9⟩, ha9, hl9, hlen9, _⟩ := id ht9.at_
          walk_at "t"
          refine ⟨a, dx9, _, rfl, ho9, rfl, ?_⟩
          walk_at "t"
          refine g_lenL (s9 _ _ hk8) ?_
          walk_at "t"
          rw [List.length_map, hgl]
          have hbc := bestK_cnt (keysK KK t k) 32
          rw [keys_len] at hbc
          have em : (((lv t + 1 : Nat) : Int) - ((bestK KK (keysK KK t k) 32).2 : Nat)) = ((grM t k : Nat) : Int) := by unfold grM; rw [keys_len]; omega
          rw [em]
          have hgb : grB t k ≤ 8000 := by have := bestK_le (keysK KK t k) 32; rw [keys_len] at this; unfold grB; omega
          have hgm : grM t k ≤ 4000 := by unfold grM; rw [keys_len]; omega
          have hpm := powF_le (grM t k)
          have hrm := gr_room t k
          refine ⟨a, num, me, grB t k, grM t k, G, t, rfl, ht9, by omega, by omega, by omega, by omega, fun H10 t10 rz lf => ?_⟩
          walk_at "t"
          obtain ⟨F10, x1, x2, x3⟩ := lf
          have s09 := s8.trans s9
          exact q H10 t10 rz ⟨F10, x1, fun b o hb e => x2 b o hb (s09 _ _ e), fun b hb => (x3 b hb).imp id s09.free⟩
end
end Up

set_option Elab.async false
set_option linter.all false
set_option pp.maxSteps 600
set_option maxRecDepth 100000
set_option maxHeartbeats 4000000
set_option exponentiation.threshold 200000
namespace Up
open PySem PySem.Spec PyProof.Rows L2
local macro_rules | `(tactic| walk_at "u") => `(tactic| first
  | with_reducible refine g_seq ?_
  | with_reducible refine g_asg ?_
  | with_reducible refine g_op ?_
  | ((with_reducible show tVar _ _ _ _); apply g_var; exact rfl)
  | with_reducible refine g_c ?_
  | with_reducible refine g_name ?_
  | with_reducible refine g_ifs ?_
  | with_reducible refine g_tt ?_
  | with_reducible refine g_tB ?_
  | with_reducible refine g_bl ?_
  | with_reducible refine g_ret ?_
  | with_reducible refine g_cb ?_
  | with_reducible refine g_cons ?_
  | with_reducible refine g_nil ?_
  | with_reducible refine g_call ?_
  | with_reducible refine g_and ?_
  | with_reducible refine g_or ?_
  | with_reducible refine g_not ?_
  | with_reducible refine g_andV ?_
  | with_reducible refine g_orV ?_
  | with_reducible refine g_notV ?_
  | with_reducible refine g_if ?_
  | with_reducible refine g_un ?_
  | with_reducible refine g_neg ?_
  | with_reducible refine g_addI ?_
  | with_reducible refine g_subI ?_
  | with_reducible refine g_subB ?_
  | with_reducible refine g_I0 ?_
  | with_reducible refine g_cmpI ?_
  | with_reducible refine g_eqI ?_
  | with_reducible refine g_neI ?_
  | with_reducible refine g_eqS ?_
  | with_reducible refine g_neS ?_
  | with_reducible refine g_eqB ?_
  | with_reducible refine g_neB ?_
  | with_reducible refine g_bits ?_
  | with_reducible refine g_bitsI ?_
  | with_reducible refine g_fld ?_
  | with_reducible refine g_tup ?_
  | with_reducible refine g_lst ?_
  | with_reducible refine g_gtup ?_
  | with_reducible refine g_make ?_
  | with_reducible refine g_lc ?_
  | with_reducible refine g_yesT ?_
  | with_reducible refine g_intI ?_
  | with_reducible refine g_intB ?_
  | with_reducible refine g_max2 ?_
  | with_reducible refine g_abs1 ?_
  | with_reducible refine g_for ?_
  | with_reducible refine g_iList ?_
  | with_reducible refine g_iTup ?_
  | with_reducible refine g_iRng1 ?_
  | with_reducible refine g_iEnum ?_
  | with_reducible refine g_slice ?_
  | with_reducible refine g_po0 ?_
  | with_reducible refine g_po1 ?_
  | with_reducible refine g_gsub ?_
  | with_reducible refine g_par ?_
  | with_reducible refine g_par2 ?_
  | with_reducible refine g_rfl ?_
  | with_reducible refine g_meth ?_
  | with_reducible refine g_gcons ?_
  | with_reducible refine g_gnil ?_
  | with_reducible refine g_gfld ?_
  | with_reducible refine g_sfld ?_
  | with_reducible refine g_drop ?_
  | with_reducible refine g_next ?_
  | with_reducible refine iteT ?_
  | with_reducible refine iteF ?_)
local macro_rules | `(tactic| walk_at "go") => `(tactic| (repeat walk_at "u"))
local macro_rules | `(tactic| walk_at "t1") => `(tactic| (first
  | walk_at "u"
  | with_reducible refine g_chain ?_
  | with_reducible refine g_par3 ?_
  | with_reducible refine g_par3' ?_
  | with_reducible refine g_augS ?_
  | with_reducible refine g_nt ?_
  | with_reducible refine g_nf ?_
  | with_reducible refine g_methK ?_
  | with_reducible refine g_makeK ?_
  | with_reducible refine g_iRng2 ?_
  | with_reducible refine g_bm ?_
  | with_reducible refine g_fldaug ?_
  | with_reducible refine g_iStr ?_
  | with_reducible refine g_ipI ?_
  | ((with_reducible show tAug _ _ _ _ _ _); refine ⟨_, rfl, ?_⟩)
  | ((with_reducible refine show_exT ?_); first
    | refine rdT3 (by assumption) (by assumption) ?_
    | refine rdT4 (by assumption) (by assumption) ?_
    | refine rdT5 (by assumption) (by assumption) ?_
    | refine rdT1 (by assumption) (by assumption) ?_
    | refine rdT2 (by assumption) (by assumption) ?_
    | refine rdN1 (by assumption) (by assumption) ?_
    | refine rdN2 (by assumption) (by assumption) ?_
    | refine rdN3 (by assumption) (by assumption) ?_
    | refine rdN4 (by assumption) (by assumption) ?_)))
local macro_rules | `(tactic| walk_at "t") => `(tactic| (repeat walk_at "t1"))
local macro_rules | `(tactic| walk_at "v") => `(tactic| (repeat (first
  | walk_at "t1"
  | with_reducible refine g_js ?_
  | with_reducible refine g_js0 ?_
  | with_reducible refine g_fmt ?_
  | with_reducible refine g_joined ?_
  | with_reducible refine g_isBool ?_
  | with_reducible refine g_notBool ?_
  | with_reducible refine g_revL ?_
  | with_reducible refine g_self ?_
  | with_reducible refine g_selfN ?_
  | with_reducible refine g_rN ?_
  | with_reducible refine g_rNN ?_
  | with_reducible refine g_iN ?_
  | with_reducible refine g_iNN ?_
  | with_reducible refine g_sN ?_
  | with_reducible refine g_sNN ?_
  | with_reducible refine g_bN ?_
  | with_reducible refine g_bNN ?_)))

section
variable {P : Program} {w : World} {K : PySem.W.Frag} {mg : Str → Option Value} {base : Heap} {C D N : Addr} {H H' : Hp} {a : Addr} {num me : V} {F F' : Fp} {t t' : Tb Ky}
/-! put_new, put as they are -/
def Stk (t : Tb Ky) (k : Ky) : Prop := t.nds.length = 0 ∨ ∃ h, nd t.nds (KK.mp k t.nds.length) = some h ∧ h.val ≠ .non ∧ ∀ i, i < t.free → ∃ y, nd t.nds i = some y
def PutNF : PNt := fun t k kv u t' => PutN KK t k kv u t' ∨ (Stk t k ∧ ∃ t1, Grw t k t1 ∧ PutS KK t1 k kv u t')
def Rm4 (t : Tb Ky) : Prop := lv t < 4000
theorem grw_room {k : Ky} (h : Grw t k t') : Room0 t' ∨ inside KK t' k := by
  obtain ⟨_, e1, e2, e3⟩ := Rsz.ok h
  have hr := gr_room t k
  by_cases hi : inB KK (grB t k) k = true
  · refine .inr ((inB_iff KK).mpr ?_)
    rw [e1]; exact hi
  · rw [if_neg hi] at hr
    exact .inl (nn_ex (by omega))
theorem grw_free {k : Ky} {m : Nat} (h : Grw { t with free := m } k t') : Grw t k t' := by
  have h : Rsz KK { t with free := m } (grB t k) (powF (grM t k)) t' := h
  cases h with
  | mk h1 h2 => exact .mk h1 h2
theorem ok_putnewF {f : Addr} {fd : FuncData} (F : FunD K "put_new" "Table.put_new" (defArgs s_Table_putnew) (defBody s_Table_putnew) (defScope s_Table_putnew) [] [] f fd) (B : Blt mg) (L : Cl3 C D N) (TT : TbC K mg D) (TN : NdC K mg N) (c_placeoftables : Fn P w K mg base CX0 3 "place_of_tables" ["key", "size"] [] (sp_placeofT C D)) (c_Node : CnN P w K mg base N)
    (c_grow : Mt P w K mg base CX0 8 D "grow" ["self", "key"] (sp_grow C D N)) (c_putS : CPutS P w K mg base C D N) (c_freeplace : Mt P w K mg base CX0 1 D "free_place" ["self"] (sp_freeplace D N)) (c_aheadof : Mt P w K mg base CX0 4 D "ahead_of" ["self", "key", "at"] (sp_aheadof C D N)) : FnOk P w K mg base CX0 9 f fd ["self", "key", "value"] (sp_putnewG C D N PutNF Rm4) := by
  refine F.ok sc_Table_putnew (fun vs H Q E h => ?_) (fun cdv A outer s H vs Q E hr h => ?_)
  · obtain ⟨_, _, _, _, _, _, _, _, rfl, _⟩ := h; rfl
  · obtain ⟨a, v, u, num, me, k, G, t, rfl, ht, hk, gk, hu, hlv, q⟩ := h
    have hlv : lv t < 4000 := hlv
    refine ⟨_, PSs.nox (pss_cons (ps_if (pt_cmpR (op_eqE hr.units) (pe_fld (pv 0) rfl) (pe_lstN pa_nil) (nomark _)) (pss_cons (ps_expr (pe_mt c_grow (hr.mono (by first | decide | omega)) pass0 (pv 0) (pa_cons (pv 1) pa_nil)))
  (pss_cons (ps_expr (pe_mt c_putS (hr.mono (by first | decide | omega)) pass0 (pv 0) (pa_cons (pv 1) (pa_cons (pv 2) pa_nil))))
  (pss_one ps_retN))) pss_nil)
  (pss_cons (ps_set (i := 3) sc_Table_putnew.nd rfl (Or.inl rfl) (pe_fn c_placeoftables (hr.mono (by first | decide | omega)) pass0 (pa_cons (pv 1) (pa_cons (pe_callB call_len_seq (by rfl) B.len (by decide +kernel) (pa_cons (pe_fld (pv 0) rfl) pa_nil)) pa_nil))))
  (pss_cons (ps_set (i := 4) sc_Table_putnew.nd rfl (Or.inl rfl) (pe_ix ix_seq (pe_fld (pv 0) rfl) (pv 3) (fun _ _ => rfl)))
  (pss_cons (ps_if (pt_cut (PW.pt (pw_or (pt_cmpR op_isN (pv 4) pe_non (nomark _)) (pw_or1 (pt_cmpR op_isN (pe_fld (pv 4) rfl) pe_non (nomark _)))))) (pss_cons (ps_asg (pe_cn c_Node (hr.mono (by first | decide | omega)) pass0 (pa_cons (pv 1) (pa_cons (pv 2) (pa_cons (pe_cut (pe_ifExp (pt_cmpR op_isN (pv 4) pe_non (nomark _)) pe_non (pe_fld (pv 4) rfl))) pa_nil)))) (pg_sub (pe_fld (pv 0) rfl) (pv 3) set_list))
  (pss_one ps_retN)) pss_nil)
  (pss_cons (ps_set (i := 5) sc_Table_putnew.nd rfl (Or.inl rfl) (pe_mt0 c_freeplace (hr.mono (by first | decide | omega)) pass0 (pv 0)))
  (pss_one (ps_if (pt_cmpR op_isN (pv 5) pe_non (nomark _)) (pss_cons (ps_expr (pe_mt c_grow (hr.mono (by first | decide | omega)) pass0 (pv 0) (pa_cons (pv 1) pa_nil)))
  (pss_one (ps_expr (pe_mt c_putS (hr.mono (by first | decide | omega)) pass0 (pv 0) (pa_cons (pv 1) (pa_cons (pv 2) pa_nil)))))) (pss_one (ps_if (pt_cmpR (op_oEq hr.units) (pe_fn c_placeoftables (hr.mono (by first | decide | omega)) pass0 (pa_cons (pe_fld (pv 4) rfl) (pa_cons (pe_callB call_len_seq (by rfl) B.len (by decide +kernel) (pa_cons (pe_fld (pv 0) rfl) pa_nil)) pa_nil))) (pv 3) (nomark _)) (pss_cons (ps_asg (pe_cn c_Node (hr.mono (by first | decide | omega)) pass0 (pa_cons (pv 1) (pa_cons (pv 2) (pa_cons (pe_fld (pv 4) rfl) pa_nil)))) (pg_sub (pe_fld (pv 0) rfl) (pv 5) set_list))
  (pss_one (ps_fld (pv 4) (pv 5) rfl))) (pss_cons (ps_fld (pe_ix ix_seq (pe_fld (pv 0) rfl) (pe_mt c_aheadof (hr.mono (by first | decide | omega)) pass0 (pv 0) (pa_cons (pe_fld (pv 4) rfl) (pa_cons (pv 3) pa_nil))) (fun _ _ => rfl)) (pv 5) rfl)
  (pss_cons (ps_asg (pv 4) (pg_sub (pe_fld (pv 0) rfl) (pv 5) set_list))
  (pss_one (ps_asg (pe_cn c_Node (hr.mono (by first | decide | omega)) pass0 (pa_cons (pv 1) (pa_cons (pv 2) (pa_cons pe_non pa_nil)))) (pg_sub (pe_fld (pv 0) rfl) (pv 3) set_list)))))))))))))), ?_⟩
    walk_at "t"
    obtain ⟨⟨dx, ho⟩, ha, hl, hlen, _⟩ := id ht.at_
    walk_at "t"
    refine g_new (sz rfl) fun p1 H1 n1 s1 h1 _ => ?_
    refine g_eqE (s1 _ _ hl) h1 ?_
    walk_at "t"
    have ht0 := ht
    have q : ∀ H' t', PutNF t k v u t' → Left C D N a num me G H1 H' t' → Q .non H' := fun H' t' p ⟨F', x1, x2, x3⟩ => q H' t' p ⟨F', x1, fun b o hb e => x2 b o hb (s1 _ _ e), fun b hb => (x3 b hb).imp id s1.free⟩
    have ht := ht.same s1
    have hk := hk.same s1
    clear ha hl ho
    obtain ⟨⟨dx, ho⟩, ha, hl, hlen, _⟩ := id ht.at_
    by_cases n0 : t.nds.length = 0
    · have ev : G.vs.isEmpty = true := by
        cases e : G.vs with
        | nil => rfl
        | cons _ _ => rw [e, n0] at hlen; cases hlen
      rw [ev]
      refine iteT ?_
      obtain ⟨⟨dxg, hog⟩, _⟩ := id ht.at_
      walk_at "t"
      refine ⟨a, dxg, _, rfl, hog, rfl, ?_⟩
      walk_at "t"
      refine ⟨a, v, num, me, k, G, t, rfl, ht, hk, hlv, fun Hg tg gr lf => ?_⟩
      obtain ⟨Fg, tsg, frg, fsg⟩ := lf
      obtain ⟨⟨dxh, hoh⟩, _⟩ := id tsg.at_
      have hkg := hk.frm L ht.at_ tsg.at_ frg
      walk_at "t"
      refine ⟨a, dxh, _, rfl, hoh, rfl, ?_⟩
      walk_at "t"
      refine ⟨a, v, u, num, me, k, Fg, tg, rfl, tsg, hkg, gk.nn, gk.nan, by rw [plK_self gk]; exact grw_room gr, fun Hh th px lf => ?_⟩
      rw [plK_self gk, plV_self hkg.1 gk.pl] at px
      obtain ⟨Fh, tsh, frh, fsh⟩ := lf
      walk_at "t"
      exact q Hh th (.inr ⟨.inl n0, tg, gr, px.S⟩) ⟨Fh, tsh, frg.trans fsg frh, fsg.trans frg fsh⟩
    have n0 : 0 < t.nds.length := by omega
    have ev : G.vs.isEmpty = false := by
      cases e : G.vs with
      | nil => rw [e] at hlen; exact absurd hlen (by show ¬ 0 = _; omega)
      | cons _ _ => rfl
    rw [ev]
    refine iteF ?_
    walk_at "t"
    refine g_lenL hl ?_
    walk_at "t"
    rw [hlen]
    refine ⟨v, k, _, rfl, hk, gk.nn, n0, ?_⟩
    walk_at "t"
    have hat := KK.lt k t.nds.length n0
    obtain ⟨y, ey, hy⟩ := ht.at_.get hat
    refine g_ixL hl (atI_of (by omega) (by rw [Int.toNat_natCast]; exact ey)) ?_
    walk_at "t"
    generalize eat : KK.mp k t.nds.length = at_ at *
    refine g_cutT (fun b H' => H1 = H' ∧ b = (match nd t.nds at_ with | none => true | some x => decide (x.val = .non))) ?_ ?_
    · cases en : nd t.nds at_ with
      | none =>
        rw [en] at hy
        have hy : y = .non := hy
        subst hy
        walk_at "t"
        refine g_ite (fun _ => ?_) fun z => absurd rfl z
        exact ⟨rfl, rfl⟩
      | some x =>
        rw [en] at hy
        obtain ⟨b, dxb, rfl, hb⟩ := hy
        walk_at "t"
        refine g_ite (fun z => nomatch z) fun _ => ?_
        walk_at "t"
        exact ⟨rfl, rfl⟩
    · rintro _ _ ⟨rfl, rfl⟩
      refine g_iteb (fun hb => ?_) fun hb => ?_
      · -- unused, or without a value
        have hv : ∀ x, nd t.nds at_ = some x → x.val = .non := fun x e => by rw [e] at hb; simpa using hb
        walk_at "t"
        refine g_cutE (fun z H' => z = lkV ((nd t.nds at_).bind (·.link)) ∧ H1 = H') ?_ ?_
        · cases en : nd t.nds at_ with
          | none =>
            rw [en] at hy
            have hy : y = .non := hy
            subst hy
            walk_at "t"
            refine g_ite (fun _ => ?_) fun z => absurd rfl z
            walk_at "t"
            exact ⟨rfl, rfl⟩
          | some x =>
            rw [en] at hy
            obtain ⟨b, dxb, rfl, hb⟩ := hy
            walk_at "t"
            refine g_ite (fun z => nomatch z) fun _ => ?_
            walk_at "t"
            exact ⟨rfl, rfl⟩
        · rintro _ _ ⟨rfl, rfl⟩
          walk_at "t"
          refine mkN fun H2 b dxb nb s2 hb2 => ?_
          have ho2 := s2 _ _ ho
          have hl2 := s2 _ _ hl
          walk_at "t"
          refine g_setL hl2 (ixN_of (by omega) (by rw [hlen]; omega)) fun H3 hl3 k3 => ?_
          rw [Int.toNat_natCast] at hl3
          walk_at "t"
          have at3 := ht.at_.setNew (x := ⟨k, v, u, (nd t.nds at_).bind (·.link), false⟩) (H' := H3) hat nb s2 hb2 hl3 k3
          have pn : PutN KK t k v u { t with nds := t.nds.set at_ (some ⟨k, v, u, (nd t.nds at_).bind (·.link), false⟩) } := .repl at_ eat.symm hat hv
          have fr : Frm a G H1 H3 := fun c o hc e => by rw [k3 c (fun z => hc (.inr (.inr (.inl z))))]; exact s2 _ _ e
          obtain ⟨w1, w2, w3, _⟩ := pn.ok KK ht.wf
          refine q H3 _ (.inl pn) ⟨_, ht.next L at3 fr w1 (pn.keys ht.wf) hk gk (by rw [w3]) w2, fr, fun c hc => ?_⟩
          rcases hc with z | z | z | z
          · exact .inl (.inl z)
          · exact .inl (.inr (.inl z))
          · exact .inl (.inr (.inr (.inl z)))
          · rcases List.mem_or_eq_of_mem_set z with z | z
            · exact .inl (.inr (.inr (.inr z)))
            · cases z; exact .inr nb
      · -- used
        cases en : nd t.nds at_ with
        | none => rw [en] at hb; cases hb
        | some x =>
          rw [en] at hb hy
          have hv : x.val ≠ .non := by simpa using hb
          obtain ⟨b, dxb, rfl, hbn⟩ := hy
          obtain ⟨kx, gx⟩ := ht.keys _ _ en
          walk_at "t"
          refine ⟨a, dx, _, rfl, ho, rfl, ?_⟩
          walk_at "t"
          refine ⟨a, num, me, G, t, rfl, ht.at_, ht.wf.frn, fun fr H2 FA k2 at2 => ?_, fun H2 hall k2 at2 => ?_⟩
          rotate_left
          · have fr2 : Frm a G H1 H2 := fun c o hc e => by rw [k2 c (fun z => hc (.inl z))]; exact e
            have ts2 : TbS C D N H2 a num me G { t with free := 0 } := ⟨at2, ht.wf.like (fun _ => rfl) (Nat.zero_le _) (fun i _ h2 => hall i h2), fun i x e => ⟨(ht.keys i x e).1.frm L ht.at_ at2 fr2, (ht.keys i x e).2⟩, ht.sa, ht.sn⟩
            have hk2 := hk.frm L ht.at_ at2 fr2
            walk_at "t"
            refine g_ite (fun _ => ?_) fun z => absurd rfl z
            obtain ⟨⟨dxg, hog⟩, _⟩ := id ts2.at_
            walk_at "t"
            refine ⟨a, dxg, _, rfl, hog, rfl, ?_⟩
            walk_at "t"
            refine ⟨a, v, num, me, k, G, { t with free := 0 }, rfl, ts2, hk2, hlv, fun Hg tg gr lf => ?_⟩
            obtain ⟨Fg, tsg, frg, fsg⟩ := lf
            obtain ⟨⟨dxh, hoh⟩, _⟩ := id tsg.at_
            have hkg := hk2.frm L ts2.at_ tsg.at_ frg
            walk_at "t"
            refine ⟨a, dxh, _, rfl, hoh, rfl, ?_⟩
            walk_at "t"
            refine ⟨a, v, u, num, me, k, Fg, tg, rfl, tsg, hkg, gk.nn, gk.nan, by rw [plK_self gk]; exact grw_room gr, fun Hh th px lf => ?_⟩
            rw [plK_self gk, plV_self hkg.1 gk.pl] at px
            obtain ⟨Fh, tsh, frh, fsh⟩ := lf
            walk_at "t"
            exact q Hh th (.inr ⟨.inr ⟨x, by rw [eat]; exact en, hv, hall⟩, tg, grw_free gr, px.S⟩) ⟨Fh, tsh, (fr2.trans Fsh.refl frg).trans (Fsh.refl.trans fr2 fsg) frh, (Fsh.refl.trans fr2 fsg).trans (fr2.trans Fsh.refl frg) fsh⟩
          have hfn : fr < t.nds.length := Nat.lt_of_lt_of_le FA.lt ht.wf.frn
          have hfa : fr ≠ at_ := fun z => by rw [← z, FA.none] at en; cases en
          obtain ⟨⟨dx2, ho2⟩, ha2, hl2, hlen2, _⟩ := id at2
          have k2f : Frm a G H1 H2 := fun c o hc e => by rw [k2 c (fun z => hc (.inl z))]; exact e
          have hba : b ≠ a := fun z => by
            rw [z, ho] at hbn
            injection hbn with hbn
            injection hbn with e1
            exact L.dn e1
          have hbn2 : H2 b = some (.ins N dxb (ndV x.kv x.val (lkV x.link) x.dead)) := by rw [k2 b hba]; exact hbn
          have kx2 := kx.frm L ht.at_ at2 k2f
          walk_at "t"
          refine g_ite (fun z => nomatch z) fun _ => ?_
          walk_at "t"
          refine g_lenL hl2 ?_
          walk_at "t"
          rw [hlen]
          refine ⟨x.kv, x.key, _, rfl, kx2, gx.nn, n0, ?_⟩
          walk_at "t"
          refine g_ite (fun hm => ?_) fun hm => ?_
          · have hm : KK.mp x.key t.nds.length = at_ := by omega
            walk_at "t"
            refine mkN fun H3 c dxc nc s3 hc3 => ?_
            have ho3 := s3 _ _ ho2
            have hl3 := s3 _ _ hl2
            walk_at "t"
            refine g_setL hl3 (ixN_of (by omega) (by rw [hlen]; omega)) fun H4 hl4 k4 => ?_
            rw [Int.toNat_natCast] at hl4
            have at4 := at2.setNew (x := ⟨k, v, u, x.link, false⟩) (H' := H4) hfn nc s3 hc3 hl4 k4
            have hbl : b ≠ G.ln := fun z => by rw [z, hl2] at hbn2; cases hbn2
            have hb4 : H4 b = some (.ins N dxb (ndV x.kv x.val (lkV x.link) x.dead)) := by rw [k4 b hbl]; exact s3 _ _ hbn2
            walk_at "t"
            refine ⟨b, N, dxb, _, rfl, hb4, TN.cl, TN.n3, by show 4 < 1000; decide, ?_⟩
            have hb5 : upd H4 b (.ins N dxb (putF "link" (.int (fr : Nat)) (ndV x.kv x.val (lkV x.link) x.dead))) b = some (.ins N dxb (ndV x.kv x.val (lkV (some fr)) x.dead)) := upd_same
            have k5 : ∀ d, d ≠ b → upd H4 b (.ins N dxb (putF "link" (.int (fr : Nat)) (ndV x.kv x.val (lkV x.link) x.dead))) d = H4 d := fun d hd => upd_ne hd
            generalize upd H4 b (.ins N dxb (putF "link" (.int (fr : Nat)) (ndV x.kv x.val (lkV x.link) x.dead))) = H5 at hb5 k5 ⊢
            walk_at "t"
            have ey4 : (G.vs.set fr (.ref c))[at_]? = some (V.ref b) := by
              rw [List.getElem?_set, if_neg hfa]; exact ey
            have at5 := at4.setNode L (x := { x with link := some fr }) (H' := H5) ey4 (by simp; exact hat) hb5 k5
            have pn : PutN KK t k v u { t with nds := (t.nds.set fr (some ⟨k, v, u, x.link, false⟩)).set at_ (some { x with link := some fr }), free := fr } := .coll at_ fr x eat.symm FA en hv hm
            have frm : Frm a G H1 H5 := fun d o hd e => by
              rw [k5 d (fun z => hd (.inr (.inr (.inr (by rw [z]; exact List.mem_of_getElem? ey))))), k4 d (fun z => hd (.inr (.inr (.inl z))))]
              exact s3 _ _ (k2f d o hd e)
            obtain ⟨w1, w2, w3, _⟩ := pn.ok KK ht.wf
            have nc1 : H1 c = none := by
              by_cases z : c = a
              · rw [z, ho2] at nc; cases nc
              · rw [k2 c z] at nc; exact nc
            refine q H5 _ (.inl pn) ⟨_, ht.next L at5 frm w1 (pn.keys ht.wf) hk gk (by rw [w3]) w2, frm, fun d hd => ?_⟩
            rcases hd with z | z | z | z
            · exact .inl (.inl z)
            · exact .inl (.inr (.inl z))
            · exact .inl (.inr (.inr (.inl z)))
            · rcases List.mem_or_eq_of_mem_set z with z | z
              · exact .inl (.inr (.inr (.inr z)))
              · cases z; exact .inr nc1
          · have hm : KK.mp x.key t.nds.length ≠ at_ := fun z => hm (by omega)
            walk_at "t"
            refine ⟨a, dx2, _, rfl, ho2, rfl, ?_⟩
            walk_at "t"
            refine ⟨a, x.kv, num, me, x.key, at_, G, { t with free := fr }, rfl, at2, ht.wf.rnk, kx2, gx.nn, n0, hm, ht.wf.rch _ _ en, fun p hp => ?_⟩
            obtain ⟨y, hy, hyl⟩ := id hp
            obtain ⟨c, dxc, ec, hc⟩ := at2.getS (show nd t.nds p = some y from hy)
            refine g_ixL hl2 (atI_of (by omega) (by rw [Int.toNat_natCast]; exact ec)) ?_
            walk_at "t"
            refine ⟨c, N, dxc, _, rfl, hc, TN.cl, TN.n3, by show 4 < 1000; decide, ?_⟩
            have hb3 : upd H2 c (.ins N dxc (putF "link" (.int (fr : Nat)) (ndV y.kv y.val (lkV y.link) y.dead))) c = some (.ins N dxc (ndV y.kv y.val (lkV (some fr)) y.dead)) := upd_same
            have k3 : ∀ d, d ≠ c → upd H2 c (.ins N dxc (putF "link" (.int (fr : Nat)) (ndV y.kv y.val (lkV y.link) y.dead))) d = H2 d := fun d hd => upd_ne hd
            generalize upd H2 c (.ins N dxc (putF "link" (.int (fr : Nat)) (ndV y.kv y.val (lkV y.link) y.dead))) = H3 at hb3 k3 ⊢
            have at3 := at2.setNode L (x := { y with link := some fr }) (H' := H3) ec (nd_lt hy) hb3 k3
            obtain ⟨⟨dx3, ho3⟩, ha3, hl3, hlen3, _⟩ := id at3
            walk_at "t"
            refine g_setL hl3 (ixN_of (by omega) (by rw [hlen]; omega)) fun H4 hl4 k4 => ?_
            rw [Int.toNat_natCast] at hl4
            have hal : a ≠ G.ln := fun z => by rw [z, hl3] at ho3; cases ho3
            have ho4 : H4 a = some (.ins D dx3 (tbF num me G.la G.ln fr)) := by rw [k4 a hal]; exact ho3
            walk_at "t"
            refine mkN fun H5 e dxe ne s5 he5 => ?_
            have ho5 := s5 _ _ ho4
            have hl5 := s5 _ _ hl4
            walk_at "t"
            refine g_setL hl5 (ixN_of (by omega) (by rw [List.length_set, hlen]; omega)) fun H6 hl6 k6 => ?_
            rw [Int.toNat_natCast] at hl6
            walk_at "t"
            have hpa : at_ ≠ p := fun z => by
              obtain ⟨rk, hr⟩ := ht.wf.rnk
              have := hr _ _ hp
              rw [z] at this; omega
            have hpl := nd_lt hy
            -- the heap without the stores into the list of nodes
            have ne3 : H3 e = none := by
              by_cases z : e = G.ln
              · rw [z, hl4] at ne; cases ne
              · rw [k4 e z] at ne; exact ne
            have s35 : ∀ d, d ≠ G.ln → ∀ o, H3 d = some o → H5 d = some o := fun d hd o eo => s5 _ _ (by rw [k4 d hd]; exact eo)
            have enx : nd (t.nds.set p (some { y with link := some fr })) at_ = some x := by rw [nd_set hpl, fu_ne hpa]; exact en
            have nfx : nd (t.nds.set p (some { y with link := some fr })) fr = none := by
              rw [nd_set hpl, fu_ne (fun z => by have := FA.none; rw [z] at this; rw [show nd t.nds p = some y from hy] at this; cases this)]; exact FA.none
            have at6 := at3.setMove (H1 := fun d => if d = G.ln then H3 d else H5 d) (H' := H6) (b := e) (x := ⟨k, v, u, none, false⟩) ey enx (by show fr < (t.nds.set p _).length; rw [List.length_set]; exact hfn) nfx ne3 (fun d o eo => by
                by_cases z : d = G.ln
                · simp only [z, if_true]; rw [z] at eo; exact eo
                · simp only [z, if_false]; exact s35 d z o eo) (by
                  have z : e ≠ G.ln := fun z => by rw [z, hl4] at ne; cases ne
                  simp only [z, if_false]; exact he5) hl6 (fun d hd => by
                  simp only [hd, if_false]; exact k6 d hd)
            have pn : PutN KK t k v u { t with nds := ((t.nds.set p (some { y with link := some fr })).set fr (some x)).set at_ (some ⟨k, v, u, none, false⟩), free := fr } := .move at_ fr p x y eat.symm FA en hv hm hy hyl
            have frm : Frm a G H1 H6 := fun d o hd eo => by
              have dl : d ≠ G.ln := fun z => hd (.inr (.inr (.inl z)))
              rw [k6 d dl]
              refine s35 d dl o ?_
              rw [k3 d (fun z => hd (.inr (.inr (.inr (by rw [z]; exact List.mem_of_getElem? ec)))))]
              exact k2f d o hd eo
            obtain ⟨w1, w2, w3, _⟩ := pn.ok KK ht.wf
            have ne1 : H1 e = none := by
              cases z : H1 e with
              | none => rfl
              | some o =>
                exfalso
                by_cases hin : G.In a e
                · rcases hin with z | z | z | z
                  · rw [z, ho3] at ne3; cases ne3
                  · rw [z, ha3] at ne3; cases ne3
                  · rw [z, hl3] at ne3; cases ne3
                  · obtain ⟨_, _, _, _, _, he⟩ := at3.inN z
                    rw [he] at ne3; cases ne3
                · have h2 := k2f e o hin z
                  rw [k3 e (fun z => hin (.inr (.inr (.inr (by rw [z]; exact List.mem_of_getElem? ec))))), h2] at ne3
                  cases ne3
            refine q H6 _ (.inl pn) ⟨_, ht.next L at6 frm w1 (pn.keys ht.wf) hk gk (by rw [w3]) w2, frm, fun d hd => ?_⟩
            rcases hd with z | z | z | z
            · exact .inl (.inl z)
            · exact .inl (.inr (.inl z))
            · exact .inl (.inr (.inr (.inl z)))
            · rcases List.mem_or_eq_of_mem_set z with z | z
              · rcases List.mem_or_eq_of_mem_set z with z | z
                · exact .inl (.inr (.inr (.inr z)))
                · cases z
                  exact .inl (.inr (.inr (.inr (List.mem_of_getElem? ey))))
              · cases z; exact .inr ne1
theorem PutNF.lv {k : Ky} {kv u : V} (W : TW KK t) (h : PutNF t k kv u t') : lv t' ≤ lv t + 1 := by
  rcases h with h | ⟨_, t1, g, h⟩
  · exact h.lv W
  · have h1 := Rsz.lv g
    have h2 := h.lv (Rsz.ok g).1
    omega
abbrev PutF : PNt := PutX PutNF
theorem PutF.lv {k : Ky} {kv u : V} (W : TW KK t) (h : PutF t k kv u t') : lv t' ≤ lv t + 1 := by
  cases h with
  | ins i a b c => exact (PutS.ins (O := KK) (t := t) (kv := kv) (u := u) (k := k) i a b c).lv W
  | fnd r x a b c => exact (PutS.fnd (O := KK) (t := t) (kv := kv) (u := u) (k := k) r x a b c).lv W
  | skip a b c => omega
  | new a b c d => exact PutNF.lv W d
/-! make_room -/
theorem powF_pow {n : Nat} (h : n = 0 ∨ ∃ p, n = 2 ^ p) : powF n = n := by
  unfold powF
  rcases h with rfl | ⟨p, rfl⟩
  · rfl
  · have hp : 0 < 2 ^ p := Nat.two_pow_pos p
    rw [if_neg (by omega)]
    congr 1
    by_cases h0 : p = 0
    · subst h0; rfl
    · have h1 : bitsN (2 ^ p - 1) ≤ p := bits_le (by omega)
      have h2 : 2 ^ (p - 1) ≤ 2 ^ p - 1 := by
        have : 2 ^ p = 2 * 2 ^ (p - 1) := by rw [← Nat.pow_succ']; congr 1; omega
        have := Nat.two_pow_pos (p - 1)
        omega
      have := le_bits h2
      omega
end
end Up

set_option Elab.async false
set_option linter.all false
set_option pp.maxSteps 600
set_option maxRecDepth 100000
set_option maxHeartbeats 4000000
set_option exponentiation.threshold 200000
namespace Up
open PySem PySem.Spec PyProof.Rows L2
local macro_rules | `(tactic| walk_at "u") => `(tactic| first
  | with_reducible refine g_seq ?_
  | with_reducible refine g_asg ?_
  | with_reducible refine g_op ?_
  | ((with_reducible show tVar _ _ _ _); apply g_var; exact rfl)
  | with_reducible refine g_c ?_
  | with_reducible refine g_name ?_
  | with_reducible refine g_ifs ?_
  | with_reducible refine g_tt ?_
  | with_reducible refine g_tB ?_
  | with_reducible refine g_bl ?_
  | with_reducible refine g_ret ?_
  | with_reducible refine g_cb ?_
  | with_reducible refine g_cons ?_
  | with_reducible refine g_nil ?_
  | with_reducible refine g_call ?_
  | with_reducible refine g_and ?_
  | with_reducible refine g_or ?_
  | with_reducible refine g_not ?_
  | with_reducible refine g_andV ?_
  | with_reducible refine g_orV ?_
  | with_reducible refine g_notV ?_
  | with_reducible refine g_if ?_
  | with_reducible refine g_un ?_
  | with_reducible refine g_neg ?_
  | with_reducible refine g_addI ?_
  | with_reducible refine g_subI ?_
  | with_reducible refine g_subB ?_
  | with_reducible refine g_I0 ?_
  | with_reducible refine g_cmpI ?_
  | with_reducible refine g_eqI ?_
  | with_reducible refine g_neI ?_
  | with_reducible refine g_eqS ?_
  | with_reducible refine g_neS ?_
  | with_reducible refine g_eqB ?_
  | with_reducible refine g_neB ?_
  | with_reducible refine g_bits ?_
  | with_reducible refine g_bitsI ?_
  | with_reducible refine g_fld ?_
  | with_reducible refine g_tup ?_
  | with_reducible refine g_lst ?_
  | with_reducible refine g_gtup ?_
  | with_reducible refine g_make ?_
  | with_reducible refine g_lc ?_
  | with_reducible refine g_yesT ?_
  | with_reducible refine g_intI ?_
  | with_reducible refine g_intB ?_
  | with_reducible refine g_max2 ?_
  | with_reducible refine g_abs1 ?_
  | with_reducible refine g_for ?_
  | with_reducible refine g_iList ?_
  | with_reducible refine g_iTup ?_
  | with_reducible refine g_iRng1 ?_
  | with_reducible refine g_iEnum ?_
  | with_reducible refine g_slice ?_
  | with_reducible refine g_po0 ?_
  | with_reducible refine g_po1 ?_
  | with_reducible refine g_gsub ?_
  | with_reducible refine g_par ?_
  | with_reducible refine g_par2 ?_
  | with_reducible refine g_rfl ?_
  | with_reducible refine g_meth ?_
  | with_reducible refine g_gcons ?_
  | with_reducible refine g_gnil ?_
  | with_reducible refine g_gfld ?_
  | with_reducible refine g_sfld ?_
  | with_reducible refine g_drop ?_
  | with_reducible refine g_next ?_
  | with_reducible refine iteT ?_
  | with_reducible refine iteF ?_)
local macro_rules | `(tactic| walk_at "go") => `(tactic| (repeat walk_at "u"))
local macro_rules | `(tactic| walk_at "t1") => `(tactic| (first
  | walk_at "u"
  | with_reducible refine g_chain ?_
  | with_reducible refine g_par3 ?_
  | with_reducible refine g_par3' ?_
  | with_reducible refine g_augS ?_
  | with_reducible refine g_nt ?_
  | with_reducible refine g_nf ?_
  | with_reducible refine g_methK ?_
  | with_reducible refine g_makeK ?_
  | with_reducible refine g_iRng2 ?_
  | with_reducible refine g_bm ?_
  | with_reducible refine g_fldaug ?_
  | with_reducible refine g_iStr ?_
  | with_reducible refine g_ipI ?_
  | ((with_reducible show tAug _ _ _ _ _ _); refine ⟨_, rfl, ?_⟩)
  | ((with_reducible refine show_exT ?_); first
    | refine rdT3 (by assumption) (by assumption) ?_
    | refine rdT4 (by assumption) (by assumption) ?_
    | refine rdT5 (by assumption) (by assumption) ?_
    | refine rdT1 (by assumption) (by assumption) ?_
    | refine rdT2 (by assumption) (by assumption) ?_
    | refine rdN1 (by assumption) (by assumption) ?_
    | refine rdN2 (by assumption) (by assumption) ?_
    | refine rdN3 (by assumption) (by assumption) ?_
    | refine rdN4 (by assumption) (by assumption) ?_)))
local macro_rules | `(tactic| walk_at "t") => `(tactic| (repeat walk_at "t1"))
local macro_rules | `(tactic| walk_at "v") => `(tactic| (repeat (first
  | walk_at "t1"
  | with_reducible refine g_js ?_
  | with_reducible refine g_js0 ?_
  | with_reducible refine g_fmt ?_
  | with_reducible refine g_joined ?_
  | with_reducible refine g_isBool ?_
  | with_reducible refine g_notBool ?_
  | with_reducible refine g_revL ?_
  | with_reducible refine g_self ?_
  | with_reducible refine g_selfN ?_
  | with_reducible refine g_rN ?_
  | with_reducible refine g_rNN ?_
  | with_reducible refine g_iN ?_
  | with_reducible refine g_iNN ?_
  | with_reducible refine g_sN ?_
  | with_reducible refine g_sNN ?_
  | with_reducible refine g_bN ?_
  | with_reducible refine g_bNN ?_)))

/-! ### borders, in plain Lean -/
def halve (p : Nat → Bool) (lo hi : Nat) : Nat := if h : hi - lo > 1 then (if p ((lo + hi) / 2) = true then halve p lo ((lo + hi) / 2) else halve p ((lo + hi) / 2) hi) else lo
termination_by hi - lo
decreasing_by all_goals omega
def dbl (p : Nat → Bool) (lo hi : Nat) : Nat := if p hi = true then halve p lo hi else if h : hi = 0 ∨ 4611686018427387903 < hi then (if p 9223372036854775807 = true then halve p hi 9223372036854775807 else 9223372036854775807) else dbl p hi (2 * hi)
termination_by 9223372036854775808 - hi
decreasing_by omega
def brd (p : Nat → Bool) (n : Nat) (has : Bool) : Nat := if 0 < n ∧ p n = true then halve p 0 n else if has = false ∨ p (n + 1) = true then n else dbl p (max 1 n) (max 1 n)
theorem halve_stop {p : Nat → Bool} {lo hi : Nat} (h : ¬ hi - lo > 1) : halve p lo hi = lo := by rw [halve]; exact dif_neg h
theorem halve_lo {p : Nat → Bool} {lo hi : Nat} (h : hi - lo > 1) (hp : p ((lo + hi) / 2) = true) : halve p lo hi = halve p lo ((lo + hi) / 2) := by rw [halve, dif_pos h, if_pos hp]
theorem halve_hi {p : Nat → Bool} {lo hi : Nat} (h : hi - lo > 1) (hp : p ((lo + hi) / 2) = false) : halve p lo hi = halve p ((lo + hi) / 2) hi := by rw [halve, dif_pos h, if_neg (by rw [hp]; decide)]
theorem halve_ok {p : Nat → Bool} (n : Nat) : ∀ lo hi, hi - lo ≤ n → lo < hi → (lo = 0 ∨ p lo = false) → p hi = true → (halve p lo hi = 0 ∨ p (halve p lo hi) = false) ∧ p (halve p lo hi + 1) = true ∧ lo ≤ halve p lo hi ∧ halve p lo hi < hi := by
  induction n with
  | zero => intro lo hi h1 h2; omega
  | succ n ih =>
    intro lo hi h1 h2 h3 h4
    by_cases h : hi - lo > 1
    · cases hp : p ((lo + hi) / 2) with
      | true =>
        rw [halve_lo h hp]
        obtain ⟨a, b, c, d⟩ := ih lo ((lo + hi) / 2) (by omega) (by omega) h3 hp
        exact ⟨a, b, c, by omega⟩
      | false =>
        rw [halve_hi h hp]
        obtain ⟨a, b, c, d⟩ := ih ((lo + hi) / 2) hi (by omega) (by omega) (.inr hp) h4
        exact ⟨a, b, by omega, d⟩
    · rw [halve_stop h]
      have : hi = lo + 1 := by omega
      rw [← this]
      exact ⟨h3, h4, Nat.le_refl _, h2⟩
theorem dbl_ok {p : Nat → Bool} (n : Nat) : ∀ lo hi, 9223372036854775808 - hi ≤ n → (0 < lo ∧ lo < hi ∧ p lo = false ∨ p hi = false) → 0 < hi → hi < 9223372036854775807 → (p (dbl p lo hi) = false) ∧ (dbl p lo hi = 9223372036854775807 ∨ p (dbl p lo hi + 1) = true) ∧ 0 < dbl p lo hi ∧ dbl p lo hi ≤ 9223372036854775807 := by
  induction n with
  | zero => intro lo hi h1 _ _ h4; omega
  | succ n ih =>
    intro lo hi h1 h2 h3 h4
    rw [dbl]
    by_cases hp : p hi = true
    · rw [if_pos hp]
      rcases h2 with ⟨h7, h5, h6⟩ | h5
      · obtain ⟨a, b, c, d⟩ := halve_ok (p := p) (hi - lo) lo hi (Nat.le_refl _) h5 (.inr h6) hp
        exact ⟨a.resolve_left (by omega), .inr b, by omega, by omega⟩
      · rw [hp] at h5; cases h5
    · have hp : p hi = false := by simpa using hp
      rw [if_neg (by rw [hp]; decide)]
      by_cases h6 : hi = 0 ∨ 4611686018427387903 < hi
      · rw [dif_pos h6]
        by_cases hl : p 9223372036854775807 = true
        · rw [if_pos hl]
          obtain ⟨a, b, c, d⟩ := halve_ok (p := p) (9223372036854775807 - hi) hi 9223372036854775807 (Nat.le_refl _) h4 (.inr hp) hl
          exact ⟨a.resolve_left (by omega), .inr b, by omega, by omega⟩
        · rw [if_neg hl]
          exact ⟨by simpa using hl, .inl rfl, by omega, by omega⟩
      · rw [dif_neg h6]
        exact ih hi (2 * hi) (by omega) (.inl ⟨by omega, by omega, hp⟩) (by omega) (by omega)
section
variable {P : Program} {w : World} {K : PySem.W.Frag} {mg : Str → Option Value} {base : Heap} {C D N : Addr} {H H' : Hp} {a : Addr} {num me : V} {F F' : Fp} {t t' : Tb Ky}
noncomputable def pN (t : Tb Ky) (m : Nat) : Bool := decide (gtT t (KK.ki (m : Int)) = .non)
noncomputable def brT (t : Tb Ky) : Nat := brd (pN t) t.arr.length (!t.nds.isEmpty)
theorem gt_arr {m : Nat} {v : V} (h1 : 0 < m) (h : t.arr[m - 1]? = some v) : gtT t (KK.ki (m : Int)) = v := by
  have hl : m - 1 < t.arr.length := by
    by_cases y : m - 1 < t.arr.length
    · exact y
    · rw [List.getElem?_eq_none (by omega)] at h; cases h
  refine GetR.eq (.inl ⟨(m : Int), rfl, by omega, by omega, ?_⟩)
  have e : ((m : Int) - 1).toNat = m - 1 := by omega
  rw [e]
  exact h
theorem gt_beyond {m : Nat} (h0 : t.nds = []) (h : t.arr.length < m) : gtT t (KK.ki (m : Int)) = .non := by
  refine GetR.eq (.inr ⟨?_, .inr ⟨fun z => (nomatch z), rfl, none, ?_, .inl ⟨rfl, rfl⟩⟩⟩)
  · rintro ⟨i, e, h1, h2⟩
    have e : some (m : Int) = some i := e
    injection e with e
    omega
  · have : st0 KK (plK (KK.ki (m : Int))) t.nds.length = none := by unfold st0; rw [h0]; rfl
    rw [this]
    exact .non
theorem brT_ok (hs : t.arr.length ≤ 20000) : (brT t = 0 ∨ pN t (brT t) = false) ∧ (brT t = 9223372036854775807 ∨ pN t (brT t + 1) = true) ∧ brT t ≤ 9223372036854775807 := by
  unfold brT brd
  by_cases h1 : 0 < t.arr.length ∧ pN t t.arr.length = true
  · rw [if_pos h1]
    obtain ⟨a, b, c, d⟩ := halve_ok (p := pN t) t.arr.length 0 t.arr.length (by omega) h1.1 (.inl rfl) h1.2
    exact ⟨a, .inr b, by omega⟩
  · rw [if_neg h1]
    have h3 : t.arr.length = 0 ∨ pN t t.arr.length = false := by
      by_cases z : 0 < t.arr.length
      · right
        cases e : pN t t.arr.length with
        | false => rfl
        | true => exact absurd ⟨z, e⟩ h1
      · left; omega
    by_cases h2 : (!t.nds.isEmpty) = false ∨ pN t (t.arr.length + 1) = true
    · rw [if_pos h2]
      refine ⟨h3, .inr ?_, by omega⟩
      rcases h2 with h2 | h2
      · have e : t.nds = [] := by simpa using h2
        unfold pN
        rw [gt_beyond e (by omega)]
        rfl
      · exact h2
    · rw [if_neg h2]
      have h4 : pN t (t.arr.length + 1) = false := by
        cases e : pN t (t.arr.length + 1) with
        | false => rfl
        | true => exact absurd (.inr e) h2
      have h5 : pN t (max 1 t.arr.length) = false := by
        by_cases z : t.arr.length = 0
        · rw [z] at h4 ⊢
          exact h4
        · have : max 1 t.arr.length = t.arr.length := by omega
          rw [this]
          exact h3.resolve_left z
      obtain ⟨a, b, c, d⟩ := dbl_ok (p := pN t) 9223372036854775808 (max 1 t.arr.length) (max 1 t.arr.length) (by omega) (.inr h5) (by omega) (by omega)
      exact ⟨.inr a, b, d⟩
theorem bigN {m : Nat} (h : m < 2 ^ 64) : ((m : Nat) : Int).natAbs < 2 ^ 5000 := lt_pow_mono (a := 64) (by omega) (by decide)
abbrev CGet (P : Program) (w : World) (K : PySem.W.Frag) (mg : Str → Option Value) (base : Heap) (C D N : Addr) : Prop := Mt P w K mg base CX0 6 D "get" ["self", "key"] (sp_get C D N)
theorem g_getN {H : Hp} {Q : VK} {E : XK} (ht : TbS C D N H a num me F t) {m : Nat} (hm : m < 2 ^ 64) (q : ∀ H', Same H H' → Q (gtT t (KK.ki (m : Int))) H') : sp_get C D N (V.ref a :: ([.int (m : Nat)] ++ [])) H Q E :=
  ⟨a, _, num, me, KK.ki (m : Int), F, t, rfl, ht, ky_int (bigN hm), fun H' s _ => q H' s⟩
/-! between -/
theorem sc_Table_between : FnScope ["self", "low", "high", "middle"] ["self", "low", "high"] (defScope s_Table_between) := ⟨rfl, rfl, rfl, by decide +kernel, rfl, by decide +kernel, by decide +kernel⟩
def sp_between (C D N : Addr) : Sp := fun vs H Q _ => ∃ (a : Addr) (num me : V) (lo hi : Nat) (F : Fp) (t : Tb Ky), vs = [.ref a, .int lo, .int hi] ∧ TbS C D N H a num me F t ∧ hi < 2 ^ 64 ∧ lo < 2 ^ 64 ∧ ∀ H', Same H H' → Q (.int (halve (pN t) lo hi : Nat)) H'
theorem ok_between {f : Addr} {fd : FuncData} (F : FunD K "between" "Table.between" (defArgs s_Table_between) (defBody s_Table_between) (defScope s_Table_between) [] [] f fd) (B : Blt mg) (TT : TbC K mg D) (c_get : CGet P w K mg base C D N) : FnOk P w K mg base CX0 7 f fd ["self", "low", "high"] (sp_between C D N) := by
  refine F.ok sc_Table_between (fun vs H Q E h => ?_) (fun cdv A outer s H vs Q E hr h => ?_)
  · obtain ⟨_, _, _, _, _, _, _, rfl, _⟩ := h; rfl
  · obtain ⟨a, num, me, lo, hi, G, t, rfl, ht, hh, hlo, q⟩ := h
    refine ⟨_, PSs.nox (pss_cons (ps_while PassesOwn.never (pt_cmpR op_oGt (pe_op op_oSub (pv 2) (pv 1)) pe_int (nomark _))
    (pss_cons (ps_set (i := 3) sc_Table_between.nd rfl (Or.inl rfl) (pe_op op_oDiv (pe_op op_oAdd (pv 1) (pv 2)) pe_int))
  (pss_one (ps_if (pt_cmpR op_isN (pe_mt c_get (hr.mono (by first | decide | omega)) pass0 (pv 0) (pa_cons (pv 3) pa_nil)) pe_non (nomark _)) (pss_one (ps_set (i := 2) sc_Table_between.nd rfl (Or.inl rfl) (pv 3))) (pss_one (ps_set (i := 1) sc_Table_between.nd rfl (Or.inl rfl) (pv 3)))))))
  (pss_one (ps_ret (pv 1)))), ?_⟩
    walk_at "t"
    refine g_while (fun m σ' H' => ∃ l h : Nat, ∃ e3, σ' = [some (.ref a), some (.int l), some (.int h), e3] ∧ Same H H' ∧ l < 2 ^ 64 ∧ h < 2 ^ 64 ∧ halve (pN t) l h = halve (pN t) lo hi ∧ m = h - l) _ ⟨lo, hi, _, rfl, Same.refl _, hlo, hh, rfl, rfl⟩ ?_
    rintro m _ H1 ⟨l, h, e3, rfl, s1, l1, l2, eh, rfl⟩
    have ht1 := ht.same s1
    obtain ⟨⟨dx, ho⟩, _⟩ := id ht1.at_
    walk_at "t"
    refine g_ite (fun h1 => ?_) fun h1 => ?_
    · refine g_wbody ?_
      walk_at "t"
      refine g_divI (by decide) (by decide) ?_
      have em : ((l : Int) + (h : Int)).fdiv 2 = (((l + h) / 2 : Nat) : Int) := by
        have := fdiv_nat (l + h) 2
        rw [← this]
        rfl
      rw [em]
      walk_at "t"
      refine ⟨a, dx, _, rfl, ho, rfl, ?_⟩
      walk_at "t"
      refine g_getN ht1 (by omega) fun H2 s2 => ?_
      walk_at "t"
      refine g_iteb (fun h2 => ?_) fun h2 => ?_
      · walk_at "t"
        exact ⟨(l + h) / 2 - l, by omega, l, (l + h) / 2, some (.int (((l + h) / 2 : Nat) : Int)), rfl, s1.trans s2, l1, by omega, (halve_lo (by omega) h2).symm.trans eh, rfl⟩
      · walk_at "t"
        exact ⟨h - (l + h) / 2, by omega, (l + h) / 2, h, some (.int (((l + h) / 2 : Nat) : Int)), rfl, s1.trans s2, by omega, l2, (halve_hi (by omega) h2).symm.trans eh, rfl⟩
    · walk_at "t"
      rw [halve_stop (by omega)] at eh
      rw [eh]
      exact q _ s1
/-! border_beyond -/
theorem sc_Table_borderbeyond : FnScope ["self", "low", "high"] ["self", "low"] (defScope s_Table_borderbeyond) := ⟨rfl, rfl, rfl, by decide +kernel, rfl, by decide +kernel, by decide +kernel⟩
def sp_beyond (C D N : Addr) : Sp := fun vs H Q _ => ∃ (a : Addr) (num me : V) (F : Fp) (t : Tb Ky), vs = [.ref a, .int (t.arr.length : Nat)] ∧ TbS C D N H a num me F t ∧ ∀ H', Same H H' → Q (.int ((if (!t.nds.isEmpty) = false ∨ pN t (t.arr.length + 1) = true then t.arr.length else dbl (pN t) (max 1 t.arr.length) (max 1 t.arr.length) : Nat) : Int)) H'
abbrev CBetween (P : Program) (w : World) (K : PySem.W.Frag) (mg : Str → Option Value) (base : Heap) (C D N : Addr) : Prop := Mt P w K mg base CX0 7 D "between" ["self", "low", "high"] (sp_between C D N)
theorem vs_empty (h : TbAt D N H a num me F t) : F.vs.isEmpty = t.nds.isEmpty := by
  have e := h.len
  cases h1 : F.vs with
  | nil =>
    rw [h1] at e
    have : t.nds = [] := List.length_eq_zero_iff.mp e.symm
    rw [this]; rfl
  | cons _ _ =>
    cases h2 : t.nds with
    | nil => rw [h1, h2] at e; cases e
    | cons _ _ => rfl
theorem ok_beyond {f : Addr} {fd : FuncData} (F : FunD K "border_beyond" "Table.border_beyond" (defArgs s_Table_borderbeyond) (defBody s_Table_borderbeyond) (defScope s_Table_borderbeyond) [] [] f fd) (B : Blt mg) (TT : TbC K mg D) (i_MOST_WHOLE : ∃ t, mg "MOST_WHOLE" = some (.int 9223372036854775807 t)) (c_get : CGet P w K mg base C D N) (c_between : CBetween P w K mg base C D N) : FnOk P w K mg base CX0 8 f fd ["self", "low"] (sp_beyond C D N) := by
  refine F.ok sc_Table_borderbeyond (fun vs H Q E h => ?_) (fun cdv A outer s H vs Q E hr h => ?_)
  · obtain ⟨_, _, _, _, _, rfl, _⟩ := h; rfl
  · obtain ⟨a, num, me, G, t, rfl, ht, q⟩ := h
    have hsa := ht.sa
    refine ⟨_, PSs.nox (pss_cons (ps_if (pt_cut (PW.pt (pw_or (pt_cmpR (op_eqE hr.units) (pe_fld (pv 0) rfl) (pe_lstN pa_nil) (nomark _)) (pw_or1 (pt_cmpR op_isN (pe_mt c_get (hr.mono (by first | decide | omega)) pass0 (pv 0) (pa_cons (pe_op op_oAdd (pv 1) pe_int) pa_nil)) pe_non (nomark _)))))) (pss_one (ps_ret (pv 1))) pss_nil)
  (pss_cons (ps_set (i := 1) sc_Table_borderbeyond.nd rfl (Or.inl rfl) (pe_callB (call_max2 rfl) (by rfl) B.max (by decide +kernel) (pa_cons pe_int (pa_cons (pv 1) pa_nil))))
  (pss_cons (ps_set (i := 2) sc_Table_borderbeyond.nd rfl (Or.inl rfl) (pv 1))
  (pss_cons (ps_while PassesOwn.never (pt_cmpR op_notN (pe_mt c_get (hr.mono (by first | decide | omega)) pass0 (pv 0) (pa_cons (pv 2) pa_nil)) pe_non (nomark _))
    (pss_cons (ps_set (i := 1) sc_Table_borderbeyond.nd rfl (Or.inl rfl) (pv 2))
  (pss_cons (ps_if (pt_cmpR op_oGt (pv 2) (pe_op op_oDiv (pe_gint i_MOST_WHOLE) pe_int) (nomark _)) (pss_one (ps_ret (pe_ifExp (pt_cmpR op_notN (pe_mt c_get (hr.mono (by first | decide | omega)) pass0 (pv 0) (pa_cons (pe_gint i_MOST_WHOLE) pa_nil)) pe_non (nomark _)) (pe_gint i_MOST_WHOLE) (pe_mt c_between (hr.mono (by first | decide | omega)) pass0 (pv 0) (pa_cons (pv 1) (pa_cons (pe_gint i_MOST_WHOLE) pa_nil)))))) pss_nil)
  (pss_one (ps_aug (i := 2) sc_Table_borderbeyond.nd rfl (.inl rfl) pe_int ip_mul)))))
  (pss_one (ps_ret (pe_mt c_between (hr.mono (by first | decide | omega)) pass0 (pv 0) (pa_cons (pv 1) (pa_cons (pv 2) pa_nil))))))))), ?_⟩
    obtain ⟨⟨dx, ho⟩, _, hl, _⟩ := id ht.at_
    walk_at "t"
    refine g_cutT (fun b H' => Same H H' ∧ b = decide ((!t.nds.isEmpty) = false ∨ pN t (t.arr.length + 1) = true)) ?_ ?_
    · walk_at "t"
      refine g_new (sz rfl) fun p1 H1 n1 s1 h1 _ => ?_
      refine g_eqE (s1 _ _ hl) h1 ?_
      rw [vs_empty ht.at_]
      have ho1 := s1 _ _ ho
      walk_at "t"
      refine g_iteb (fun h2 => ?_) fun h2 => ?_
      · refine ⟨s1, ?_⟩
        rw [decide_eq_true (.inl (by rw [h2]; rfl))]
      · walk_at "t"
        refine ⟨a, dx, _, rfl, ho1, rfl, ?_⟩
        walk_at "t"
        have em : ((t.arr.length : Nat) : Int) + 1 = ((t.arr.length + 1 : Nat) : Int) := by omega
        rw [em]
        refine g_getN (ht.same s1) (by omega) fun H2 s2 => ?_
        walk_at "t"
        refine ⟨s1.trans s2, ?_⟩
        show pN t (t.arr.length + 1) = _
        rw [h2]
        cases pN t (t.arr.length + 1) <;> rfl
    · rintro _ H1 ⟨s1, rfl⟩
      refine g_ite (fun h1 => ?_) fun h1 => ?_
      · rw [if_pos h1] at q
        walk_at "t"
        exact q _ s1
      · rw [if_neg h1] at q
        walk_at "t"
        have em : (if ((t.arr.length : Nat) : Int) > 1 then ((t.arr.length : Nat) : Int) else 1) = ((max 1 t.arr.length : Nat) : Int) := by split <;> omega
        rw [em]
        walk_at "t"
        refine g_while (fun m σ' H' => ∃ l h : Nat, σ' = [some (.ref a), some (.int l), some (.int h)] ∧ Same H H' ∧ 0 < h ∧ l ≤ h ∧ h < 9223372036854775807 ∧ dbl (pN t) l h = dbl (pN t) (max 1 t.arr.length) (max 1 t.arr.length) ∧ m = 9223372036854775808 - h) _ ⟨_, _, rfl, s1, by omega, Nat.le_refl _, by omega, rfl, rfl⟩ ?_
        rintro m _ H2 ⟨l, h, rfl, s2, h0, hlh, hh, ed, rfl⟩
        have ht2 := ht.same s2
        obtain ⟨⟨dx2, ho2⟩, _⟩ := id ht2.at_
        walk_at "t"
        refine ⟨a, dx2, _, rfl, ho2, rfl, ?_⟩
        walk_at "t"
        refine g_getN ht2 (by omega) fun H3 s3 => ?_
        have ht3 := ht2.same s3
        have s03 := s2.trans s3
        obtain ⟨⟨dx3, ho3⟩, _⟩ := id ht3.at_
        walk_at "t"
        rw [dbl] at ed
        have epn : pN t h = decide (gtT t (KK.ki (h : Int)) = .non) := rfl
        refine g_iteb (fun h2 => ?_) fun h2 => ?_
        · have h2 : pN t h = false := by rw [epn]; simpa using h2
          rw [if_neg (by rw [h2]; decide)] at ed
          refine g_wbody ?_
          walk_at "t"
          refine g_divI (by decide) (by decide) ?_
          walk_at "t"
          have e2 : (9223372036854775807 : Int).fdiv 2 = 4611686018427387903 := by decide
          rw [e2]
          refine g_ite (fun h3 => ?_) fun h3 => ?_
          · rw [dif_pos (.inr (by omega))] at ed
            walk_at "t"
            refine ⟨a, dx3, _, rfl, ho3, rfl, ?_⟩
            walk_at "t"
            refine g_getN (m := 9223372036854775807) ht3 (by decide) fun H4 s4 => ?_
            have ht4 := ht3.same s4
            obtain ⟨⟨dx4, ho4⟩, _⟩ := id ht4.at_
            walk_at "t"
            refine g_iteb (fun h4 => ?_) fun h4 => ?_
            · have h4 : pN t 9223372036854775807 = false := by
                have : pN t 9223372036854775807 = decide (gtT t (KK.ki ((9223372036854775807 : Nat) : Int)) = .non) := rfl
                rw [this]; simpa using h4
              rw [if_neg (by rw [h4]; decide)] at ed
              rw [← ed] at q
              walk_at "t"
              exact q _ (s03.trans s4)
            · have h4 : pN t 9223372036854775807 = true := by
                have : pN t 9223372036854775807 = decide (gtT t (KK.ki ((9223372036854775807 : Nat) : Int)) = .non) := rfl
                rw [this]; simpa using h4
              rw [if_pos h4] at ed
              rw [← ed] at q
              walk_at "t"
              refine ⟨a, dx4, _, rfl, ho4, rfl, ?_⟩
              walk_at "t"
              exact ⟨a, num, me, h, 9223372036854775807, G, t, rfl, ht4, by decide, by omega, fun H5 s5 => q _ ((s03.trans s4).trans s5)⟩
          · rw [dif_neg (fun z => z.elim (by omega) (by omega))] at ed
            walk_at "t"
            refine g_ipM (.of_right (by decide)) ?_
            walk_at "t"
            have e5 : ((h : Int) * 2) = ((2 * h : Nat) : Int) := by omega
            rw [e5]
            exact ⟨_, by show 9223372036854775808 - 2 * h < _; omega, h, 2 * h, rfl, s03, by omega, by omega, by omega, ed, rfl⟩
        · have h2 : pN t h = true := by rw [epn]; simpa using h2
          rw [if_pos h2] at ed
          rw [← ed] at q
          walk_at "t"
          refine ⟨a, dx3, _, rfl, ho3, rfl, ?_⟩
          walk_at "t"
          exact ⟨a, num, me, l, h, G, t, rfl, ht3, by omega, by omega, fun H5 s5 => q _ (s03.trans s5)⟩
/-! border -/
theorem sc_Table_border : FnScope ["self", "low", "high", "middle"] ["self"] (defScope s_Table_border) := ⟨rfl, rfl, rfl, by decide +kernel, rfl, by decide +kernel, by decide +kernel⟩
def sp_border (C D N : Addr) : Sp := fun vs H Q _ => ∃ (a : Addr) (num me : V) (F : Fp) (t : Tb Ky), vs = [.ref a] ∧ TbS C D N H a num me F t ∧ ∀ H', Same H H' → Q (.int (brT t : Nat)) H'
theorem ok_border {f : Addr} {fd : FuncData} (F : FunD K "border" "Table.border" (defArgs s_Table_border) (defBody s_Table_border) (defScope s_Table_border) [] [] f fd) (B : Blt mg) (TT : TbC K mg D) (c_borderbeyond : Mt P w K mg base CX0 8 D "border_beyond" ["self", "low"] (sp_beyond C D N)) : FnOk P w K mg base CX0 9 f fd ["self"] (sp_border C D N) := by
  refine F.ok sc_Table_border (fun vs H Q E h => ?_) (fun cdv A outer s H vs Q E hr h => ?_)
  · obtain ⟨_, _, _, _, _, rfl, _⟩ := h; rfl
  · obtain ⟨a, num, me, G, t, rfl, ht, q⟩ := h
    have hsa := ht.sa
    refine ⟨_, PSs.nox (pss_cons (ps_par (i := 1) (j := 2) rfl sc_Table_border.nd rfl rfl (by decide) rfl rfl (pa_cons pe_int (pa_cons (pe_callB call_len_seq (by rfl) B.len (by decide +kernel) (pa_cons (pe_fld (pv 0) rfl) pa_nil)) pa_nil)) (by rfl))
  (pss_cons (ps_if (PW.pt (pw_or (pt_cmpR (op_oEq hr.units) (pv 2) pe_int (nomark _)) (pw_or1 (pt_cmpR op_notN (pe_ix ix_seq (pe_fld (pv 0) rfl) (pe_op op_oSub (pv 2) pe_int) (fun _ _ => rfl)) pe_non (nomark _))))) (pss_one (ps_ret (pe_mt c_borderbeyond (hr.mono (by first | decide | omega)) pass0 (pv 0) (pa_cons (pv 2) pa_nil)))) pss_nil)
  (pss_cons (ps_while PassesOwn.never (pt_cmpR op_oGt (pe_op op_oSub (pv 2) (pv 1)) pe_int (nomark _))
    (pss_cons (ps_set (i := 3) sc_Table_border.nd rfl (Or.inl rfl) (pe_op op_oDiv (pe_op op_oAdd (pv 1) (pv 2)) pe_int))
  (pss_one (ps_if (pt_cmpR op_isN (pe_ix ix_seq (pe_fld (pv 0) rfl) (pe_op op_oSub (pv 3) pe_int) (fun _ _ => rfl)) pe_non (nomark _)) (pss_one (ps_set (i := 2) sc_Table_border.nd rfl (Or.inl rfl) (pv 3))) (pss_one (ps_set (i := 1) sc_Table_border.nd rfl (Or.inl rfl) (pv 3)))))))
  (pss_one (ps_ret (pv 1)))))), ?_⟩
    obtain ⟨⟨dx, ho⟩, ha, hl, _⟩ := id ht.at_
    walk_at "t"
    refine g_lenL ha ?_
    walk_at "t"
    have arr_p : ∀ m : Nat, 0 < m → m ≤ t.arr.length → ∃ v, t.arr[m - 1]? = some v ∧ pN t m = decide (v = .non) := fun m h1 h2 => by
      refine ⟨_, List.getElem?_eq_getElem (show m - 1 < t.arr.length by omega), ?_⟩
      unfold pN
      rw [gt_arr h1 (List.getElem?_eq_getElem (show m - 1 < t.arr.length by omega))]
    have beyond : ¬ (0 < t.arr.length ∧ pN t t.arr.length = true) → ∀ {Q' : VK} {E' : XK}, Q' = Q → sp_beyond C D N (V.ref a :: ([.int (t.arr.length : Nat)] ++ [])) H Q' E' := fun hb Q' E' eq => by
      subst eq
      refine ⟨a, num, me, G, t, rfl, ht, fun H' s' => ?_⟩
      have q := q H' s'
      unfold brT brd at q
      rw [if_neg hb] at q
      exact q
    by_cases h0 : t.arr.length = 0
    · refine g_yes (by omega) ?_
      refine iteT ?_
      walk_at "t"
      refine ⟨a, dx, _, rfl, ho, rfl, ?_⟩
      walk_at "t"
      exact beyond (by omega) rfl
    · refine g_no (by omega) ?_
      walk_at "t"
      obtain ⟨v, ev, hp⟩ := arr_p t.arr.length (by omega) (Nat.le_refl _)
      refine g_ixL ha (atI_of (by omega) (by rw [show (((t.arr.length : Nat) : Int) - 1).toNat = t.arr.length - 1 by omega]; exact ev)) ?_
      walk_at "t"
      refine g_iten (fun h1 => ?_) fun h1 => ?_
      · walk_at "t"
        refine ⟨a, dx, _, rfl, ho, rfl, ?_⟩
        walk_at "t"
        exact beyond (by rw [hp]; simp [h1]) rfl
      · walk_at "t"
        have eb : brT t = halve (pN t) 0 t.arr.length := by unfold brT brd; rw [if_pos ⟨by omega, by rw [hp]; simp [h1]⟩]
        rw [eb] at q
        refine g_while (fun m σ' H' => H' = H ∧ ∃ l h : Nat, ∃ e3, σ' = [some (.ref a), some (.int l), some (.int h), e3] ∧ h ≤ t.arr.length ∧ halve (pN t) l h = halve (pN t) 0 t.arr.length ∧ m = h - l) _ ⟨rfl, 0, t.arr.length, _, rfl, Nat.le_refl _, rfl, rfl⟩ ?_
        rintro m _ _ ⟨rfl, l, h, e3, rfl, l2, eh, rfl⟩
        walk_at "t"
        refine g_ite (fun h1 => ?_) fun h1 => ?_
        · refine g_wbody ?_
          walk_at "t"
          refine g_divI (by decide) (by decide) ?_
          have em : ((l : Int) + (h : Int)).fdiv 2 = (((l + h) / 2 : Nat) : Int) := by
            have := fdiv_nat (l + h) 2
            rw [← this]
            rfl
          rw [em]
          walk_at "t"
          obtain ⟨u, eu, hpu⟩ := arr_p ((l + h) / 2) (by omega) (by omega)
          refine g_ixL ha (atI_of (by omega) (by rw [show ((((l + h) / 2 : Nat) : Int) - 1).toNat = (l + h) / 2 - 1 by omega]; exact eu)) ?_
          walk_at "t"
          refine g_ite (fun h2 => ?_) fun h2 => ?_
          · walk_at "t"
            exact ⟨(l + h) / 2 - l, by omega, rfl, l, (l + h) / 2, some (.int (((l + h) / 2 : Nat) : Int)), rfl, by omega, (halve_lo (by omega) (by rw [hpu]; simp [h2])).symm.trans eh, rfl⟩
          · walk_at "t"
            exact ⟨h - (l + h) / 2, by omega, rfl, (l + h) / 2, h, some (.int (((l + h) / 2 : Nat) : Int)), rfl, l2, (halve_hi (by omega) (by rw [hpu]; simp [h2])).symm.trans eh, rfl⟩
        · walk_at "t"
          rw [halve_stop (by omega)] at eh
          rw [eh]
          exact q _ (Same.refl _)
end
end Up

set_option Elab.async false
set_option linter.all false
set_option pp.maxSteps 600
set_option maxRecDepth 100000
set_option maxHeartbeats 4000000
set_option exponentiation.threshold 200000
namespace Up
open PySem PySem.Spec PyProof.Rows L2
local macro_rules | `(tactic| walk_at "u") => `(tactic| first
  | with_reducible refine g_seq ?_
  | with_reducible refine g_asg ?_
  | with_reducible refine g_op ?_
  | ((with_reducible show tVar _ _ _ _); apply g_var; exact rfl)
  | with_reducible refine g_c ?_
  | with_reducible refine g_name ?_
  | with_reducible refine g_ifs ?_
  | with_reducible refine g_tt ?_
  | with_reducible refine g_tB ?_
  | with_reducible refine g_bl ?_
  | with_reducible refine g_ret ?_
  | with_reducible refine g_cb ?_
  | with_reducible refine g_cons ?_
  | with_reducible refine g_nil ?_
  | with_reducible refine g_call ?_
  | with_reducible refine g_and ?_
  | with_reducible refine g_or ?_
  | with_reducible refine g_not ?_
  | with_reducible refine g_andV ?_
  | with_reducible refine g_orV ?_
  | with_reducible refine g_notV ?_
  | with_reducible refine g_if ?_
  | with_reducible refine g_un ?_
  | with_reducible refine g_neg ?_
  | with_reducible refine g_addI ?_
  | with_reducible refine g_subI ?_
  | with_reducible refine g_subB ?_
  | with_reducible refine g_I0 ?_
  | with_reducible refine g_cmpI ?_
  | with_reducible refine g_eqI ?_
  | with_reducible refine g_neI ?_
  | with_reducible refine g_eqS ?_
  | with_reducible refine g_neS ?_
  | with_reducible refine g_eqB ?_
  | with_reducible refine g_neB ?_
  | with_reducible refine g_bits ?_
  | with_reducible refine g_bitsI ?_
  | with_reducible refine g_fld ?_
  | with_reducible refine g_tup ?_
  | with_reducible refine g_lst ?_
  | with_reducible refine g_gtup ?_
  | with_reducible refine g_make ?_
  | with_reducible refine g_lc ?_
  | with_reducible refine g_yesT ?_
  | with_reducible refine g_intI ?_
  | with_reducible refine g_intB ?_
  | with_reducible refine g_max2 ?_
  | with_reducible refine g_abs1 ?_
  | with_reducible refine g_for ?_
  | with_reducible refine g_iList ?_
  | with_reducible refine g_iTup ?_
  | with_reducible refine g_iRng1 ?_
  | with_reducible refine g_iEnum ?_
  | with_reducible refine g_slice ?_
  | with_reducible refine g_po0 ?_
  | with_reducible refine g_po1 ?_
  | with_reducible refine g_gsub ?_
  | with_reducible refine g_par ?_
  | with_reducible refine g_par2 ?_
  | with_reducible refine g_rfl ?_
  | with_reducible refine g_meth ?_
  | with_reducible refine g_gcons ?_
  | with_reducible refine g_gnil ?_
  | with_reducible refine g_gfld ?_
  | with_reducible refine g_sfld ?_
  | with_reducible refine g_drop ?_
  | with_reducible refine g_next ?_
  | with_reducible refine iteT ?_
  | with_reducible refine iteF ?_)
local macro_rules | `(tactic| walk_at "go") => `(tactic| (repeat walk_at "u"))
local macro_rules | `(tactic| walk_at "t1") => `(tactic| (first
  | walk_at "u"
  | with_reducible refine g_chain ?_
  | with_reducible refine g_par3 ?_
  | with_reducible refine g_par3' ?_
  | with_reducible refine g_augS ?_
  | with_reducible refine g_nt ?_
  | with_reducible refine g_nf ?_
  | with_reducible refine g_methK ?_
  | with_reducible refine g_makeK ?_
  | with_reducible refine g_iRng2 ?_
  | with_reducible refine g_bm ?_
  | with_reducible refine g_fldaug ?_
  | with_reducible refine g_iStr ?_
  | with_reducible refine g_ipI ?_
  | ((with_reducible show tAug _ _ _ _ _ _); refine ⟨_, rfl, ?_⟩)
  | ((with_reducible refine show_exT ?_); first
    | refine rdT3 (by assumption) (by assumption) ?_
    | refine rdT4 (by assumption) (by assumption) ?_
    | refine rdT5 (by assumption) (by assumption) ?_
    | refine rdT1 (by assumption) (by assumption) ?_
    | refine rdT2 (by assumption) (by assumption) ?_
    | refine rdN1 (by assumption) (by assumption) ?_
    | refine rdN2 (by assumption) (by assumption) ?_
    | refine rdN3 (by assumption) (by assumption) ?_
    | refine rdN4 (by assumption) (by assumption) ?_)))
local macro_rules | `(tactic| walk_at "t") => `(tactic| (repeat walk_at "t1"))
local macro_rules | `(tactic| walk_at "v") => `(tactic| (repeat (first
  | walk_at "t1"
  | with_reducible refine g_js ?_
  | with_reducible refine g_js0 ?_
  | with_reducible refine g_fmt ?_
  | with_reducible refine g_joined ?_
  | with_reducible refine g_isBool ?_
  | with_reducible refine g_notBool ?_
  | with_reducible refine g_revL ?_
  | with_reducible refine g_self ?_
  | with_reducible refine g_selfN ?_
  | with_reducible refine g_rN ?_
  | with_reducible refine g_rNN ?_
  | with_reducible refine g_iN ?_
  | with_reducible refine g_iNN ?_
  | with_reducible refine g_sN ?_
  | with_reducible refine g_sNN ?_
  | with_reducible refine g_bN ?_
  | with_reducible refine g_bNN ?_)))

section
variable {P : Program} {w : World} {K : PySem.W.Frag} {mg : Str → Option Value} {base : Heap} {C D N : Addr} {H H' : Hp} {a : Addr} {num me : V} {F F' : Fp} {t t' : Tb Ky}
/-! room -/
theorem sc_Table_room : FnScope ["self"] ["self"] (defScope s_Table_room) := ⟨rfl, rfl, rfl, by decide +kernel, rfl, by decide +kernel, by decide +kernel⟩
def sp_room (D N : Addr) : Sp := fun vs H Q _ => ∃ (a : Addr) (num me : V) (F : Fp) (t : Tb Ky), vs = [.ref a] ∧ TbAt D N H a num me F t ∧ RetT H [.int (t.arr.length : Nat), .int (t.nds.length : Nat)] Q
theorem ok_room {f : Addr} {fd : FuncData} (F : FunD K "room" "Table.room" (defArgs s_Table_room) (defBody s_Table_room) (defScope s_Table_room) [] [] f fd) (B : Blt mg) (TT : TbC K mg D) : FnOk P w K mg base CX0 1 f fd ["self"] (sp_room D N) := by
  refine F.ok sc_Table_room (fun vs H Q E h => ?_) (fun cdv A outer s H vs Q E hr h => ?_)
  · obtain ⟨_, _, _, _, _, rfl, _⟩ := h; rfl
  · obtain ⟨a, num, me, G, t, rfl, ht, q⟩ := h
    obtain ⟨⟨dx, ho⟩, ha, hl, hlen, _⟩ := id ht
    refine ⟨_, PSs.nox (pss_one (ps_ret (pe_tupN (pa_cons (pe_callB call_len_seq (by rfl) B.len (by decide +kernel) (pa_cons (pe_fld (pv 0) rfl) pa_nil)) (pa_cons (pe_callB call_len_seq (by rfl) B.len (by decide +kernel) (pa_cons (pe_fld (pv 0) rfl) pa_nil)) pa_nil))))), ?_⟩
    walk_at "t"
    refine g_lenL ha ?_
    walk_at "t"
    refine g_lenL hl ?_
    walk_at "t"
    rw [hlen]
    exact g_new (sz rfl) fun p H1 n1 s1 h1 _ => q _ _ n1 s1 h1
/-! index_of -/
def IxR (t : Tb Ky) (k : Ky) (i : Nat) : Prop := (k.x = .non ∧ i = 0) ∨ (∃ j, whA (plA k.x) = some j ∧ 1 ≤ j ∧ j ≤ t.arr.length ∧ (i : Int) = j) ∨
  (k.x ≠ .non ∧ ¬ inside KK t (plK k) ∧ isNanA k.x = false ∧ ∃ r, Fd KK (nd t.nds) (plK k) true (st0 KK (plK k) t.nds.length) (some r) ∧ r < t.nds.length ∧ i = t.arr.length + r + 1)
def HasIx (t : Tb Ky) (k : Ky) : Prop := k.x = .non ∨ inside KK t (plK k) ∨ (isNanA k.x = false ∧ ∃ r, Fd KK (nd t.nds) (plK k) true (st0 KK (plK k) t.nds.length) (some r))
theorem IxR.le {k : Ky} {i : Nat} (h : IxR t k i) : i ≤ t.arr.length + t.nds.length := by
  rcases h with ⟨_, rfl⟩ | ⟨j, _, _, h, e⟩ | ⟨_, _, _, r, _, h, rfl⟩ <;> omega
/-! next_after -/
def ent (t : Tb Ky) (j : Nat) : Option (V × V) := if j < t.arr.length then (if t.arr.getD j .non = .non then none else some (.int ((j + 1 : Nat) : Int), t.arr.getD j .non)) else match nd t.nds (j - t.arr.length) with
  | some x => if x.val = .non then none else some (x.kv, x.val)
  | none => none
def nxt (t : Tb Ky) : Nat → Nat → Option (V × V)
  | 0, _ => none
  | c + 1, i => match ent t i with
    | some p => some p
    | none => nxt t c (i + 1)
def nxtT (t : Tb Ky) (i : Nat) : Option (V × V) := nxt t (t.arr.length + t.nds.length - i) i
def NxR (o : Option (V × V)) (H : Hp) (Q : VK) : Prop := match o with
  | none => Q .non H
  | some (x, y) => RetT H [x, y] Q
/-! a new table -/
def newT (ar n : Nat) : Tb Ky := ⟨List.replicate ar .non, List.replicate (powF n) none, powF n⟩
theorem newT_at {dx la ln : Addr} {ar n : Nat} (ho : H a = some (.ins D dx (tbF num me la ln (powF n)))) (h1 : H la = some (.lst (List.replicate ar .non))) (h2 : H ln = some (.lst (List.replicate (powF n) .non))) (ne : la ≠ ln) (z1 : ar ≤ 20000) (z2 : powF n ≤ 20000) :
    TbS C D N H a num me ⟨la, ln, List.replicate (powF n) .non⟩ (newT ar n) := by
  have at7 : TbAt D N H a num me ⟨la, ln, List.replicate (powF n) .non⟩ (newT ar n) := by
    refine ⟨⟨dx, ho⟩, h1, h2, by show (List.replicate _ _).length = (List.replicate _ _).length; simp, fun i v e => ?_, fun i j b e => ?_, ne⟩
    · show NvAt N H v (nd (List.replicate (powF n) none) i)
      rw [nd_new]
      exact List.eq_of_mem_replicate (List.mem_of_getElem? e)
    · have := List.eq_of_mem_replicate (List.mem_of_getElem? e)
      cases this
  refine ⟨at7, TW.new KK _ _, fun i x e => ?_, by show (List.replicate _ _).length ≤ _; simp; exact z1, by show (List.replicate _ _).length ≤ _; simp; exact z2⟩
  have e : nd (List.replicate (powF n) none) i = some x := e
  rw [nd_new] at e; cases e
theorem newT_lv (ar n : Nat) : lv (newT ar n) = 0 := by
  rw [lv_eq]
  have e1 : (List.replicate ar V.non).countP lvA = 0 := by
    rw [List.countP_eq_zero]
    intro v hv
    rw [List.eq_of_mem_replicate hv]
    simp [lvA]
  have e2 : (List.replicate (powF n) (none : Option (Nd Ky))).countP lvN = 0 := by
    rw [List.countP_eq_zero]
    intro v hv
    rw [List.eq_of_mem_replicate hv]
    simp [lvN]
  show (List.replicate ar V.non).countP lvA + (List.replicate (powF n) (none : Option (Nd Ky))).countP lvN = 0
  omega
/-- the promise of Table(..): a new table, whose own objects are all new -/
def NewTb (C D N : Addr) (num me : V) (ar n : Nat) (H : Hp) (Q : VK) : Prop := ∀ H' a F, H a = none → Same H H' → TbS C D N H' a num me F (newT ar n) → (∀ b, F.In a b → H b = none) → Q (.ref a) H'
theorem mkT_of {Q : VK} {E : XK} {x dx : Addr} {H1 : Hp} {num me : V} {ar n : Nat} (n1 : H x = none) (n2 : H dx = none) (s1 : Same H H1) (h1 : H1 x = some (.ins D dx [])) (k1 : ∀ b, b ≠ x → b ≠ dx → H1 b = H b) (z1 : ar ≤ 20000) (z3 : n ≤ 10000) (q : NewTb C D N num me ar n H Q) :
    sp_Tinit D [.ref x, num, .int ar, .int n, me] H1 (fun v H2 => v = .non ∧ Q (.ref x) H2) E := by
  have hp := powF_le n
  refine ⟨x, dx, num, me, ar, n, rfl, h1, by omega, by omega, by omega, fun H2 la ln k2 nla nln ne h2 hla hln => ⟨rfl, ?_⟩⟩
  have fr : ∀ b, H1 b = none → H b = none := fun b e => by
    cases z : H b with
    | none => rfl
    | some o => rw [s1 _ _ z] at e; cases e
  refine q H2 x ⟨la, ln, List.replicate (powF n) .non⟩ n1 (fun b o e => k2 b o (fun z => by rw [z, n1] at e; cases e) (s1 _ _ e)) (newT_at h2 hla hln ne z1 (by omega)) ?_
  rintro b (z | z | z | z)
  · rw [z]; exact n1
  · rw [z]; exact fr _ nla
  · rw [z]; exact fr _ nln
  · cases List.eq_of_mem_replicate z
abbrev psT : List Str := ["self", "number", "array", "nodes", "meta"]
abbrev CT1 (P : Program) (w : World) (K : PySem.W.Frag) (mg : Str → Option Value) (base : Heap) (D : Addr) : Prop := Cn P w K mg base CX0 2 "Table" D psT [.int 0, .int 0, .non] (sp_Tinit D)
abbrev CT3 (P : Program) (w : World) (K : PySem.W.Frag) (mg : Str → Option Value) (base : Heap) (D : Addr) : Prop := Cn P w K mg base CX0 2 "Table" D psT [.non] (sp_Tinit D)
theorem mkT1 {Q : VK} {E : XK} {num : V} (q : NewTb C D N num .non 0 0 H Q) : MakeR D (sp_Tinit D) ([num] ++ [.int 0, .int 0, .non]) H Q E := fun x dx H1 n1 n2 ne s1 h1 k1 => mkT_of (ar := 0) (n := 0) n1 n2 s1 h1 k1 (by decide) (by decide) q
theorem mkT3 {Q : VK} {E : XK} {num : V} {ar n : Nat} (z1 : ar ≤ 20000) (z2 : n ≤ 10000) (q : NewTb C D N num .non ar n H Q) : MakeR D (sp_Tinit D) ([num, .int ar, .int n] ++ [.non]) H Q E := fun x dx H1 n1 n2 ne s1 h1 k1 => mkT_of n1 n2 s1 h1 k1 z1 z2 q
end
end Up

set_option Elab.async false
set_option linter.all false
set_option pp.maxSteps 600
set_option maxRecDepth 100000
set_option maxHeartbeats 4000000
set_option exponentiation.threshold 200000
namespace Up
open PySem PySem.Spec PyProof.Rows L2
/-! ### keys that are the same -/
def rngA : Any → Prop
  | .num (.i n) => -9223372036854775808 ≤ n ∧ n < 9223372036854775808
  | .num (.f s t p) => FlOk s t p
  | _ => True
structure KG (k : Ky) : Prop where
  gk : Gk k
  ok : rngA k.x
theorem odd_eq {m m' a b : Nat} (h : m % 2 = 1) (h' : m' % 2 = 1) (e : m * 2 ^ a = m' * 2 ^ b) : m = m' ∧ a = b := by
  induction a generalizing b with
  | zero =>
    cases b with
    | zero => simp at e; exact ⟨e, rfl⟩
    | succ b =>
      rw [Nat.pow_zero, Nat.mul_one, Nat.pow_succ, ← Nat.mul_assoc] at e
      omega
  | succ a ih =>
    cases b with
    | zero =>
      rw [Nat.pow_zero, Nat.mul_one, Nat.pow_succ, ← Nat.mul_assoc] at e
      omega
    | succ b =>
      rw [Nat.pow_succ, Nat.pow_succ, ← Nat.mul_assoc, ← Nat.mul_assoc] at e
      obtain ⟨h1, h2⟩ := ih (b := b) (by omega)
      exact ⟨h1, by omega⟩
theorem ord0 {n m : Nm} {a b c d : Int} (h : ordN n m = some 0) (h1 : plc n = some (a, b)) (h2 : plc m = some (c, d)) : a * d = c * b := by
  unfold ordN at h
  rw [h1, h2] at h
  have h : some (b2i (decide (0 < a * d - c * b)) - b2i (decide (a * d - c * b < 0))) = some 0 := h
  injection h with h
  by_cases h3 : 0 < a * d - c * b
  · rw [decide_eq_true h3, decide_eq_false (by omega)] at h
    exact absurd h (by decide)
  · by_cases h4 : a * d - c * b < 0
    · rw [decide_eq_false h3, decide_eq_true h4] at h
      exact absurd h (by decide)
    · omega
theorem ord_refl {n : Nm} (h : plc n ≠ none) : ordN n n = some 0 := by
  unfold ordN
  cases e : plc n with
  | none => exact absurd e h
  | some q =>
    obtain ⟨a, b⟩ := q
    show some (b2i (decide (0 < a * b - a * b)) - b2i (decide (a * b - a * b < 0))) = some 0
    rw [Int.sub_self]
    rfl
theorem plc_nn {n : Nm} (h1 : rngA (.num n)) (h2 : isNanA (.num n) = false) : plc n ≠ none := by
  cases n with
  | i k => exact fun z => nomatch z
  | f s t p =>
    obtain ⟨_, h3⟩ := h1
    rcases h3 with ⟨rfl, _⟩ | ⟨rfl, _⟩ | ⟨m, rfl, _⟩
    · have : decide (V.str "nan" = V.str "nan") = false := h2
      simp at this
    · show (if ("inf" : Str) = "nan" then none else some (s * 2 ^ 1025, (1 : Int))) ≠ none
      rw [if_neg (by decide +kernel)]
      exact fun z => nomatch z
    · exact fun z => nomatch z
theorem KG.refl {k : Ky} (h : KG k) : sameA k.x k.x = true := by
  obtain ⟨x, no⟩ := k
  obtain ⟨⟨h1, h2, _⟩, h3⟩ := h
  cases x with
  | num n =>
    show decide (ordN n n = some 0) = true
    exact decide_eq_true (ord_refl (plc_nn h3 h2))
  | non => rfl
  | bl _ => simp [sameA]
  | str _ => simp [sameA]
  | obj _ => simp [sameA]
/-- a float key: its value is no int of 64 bits -/
theorem fl_cases {s : Int} {t : V} {p : Int} (ok : FlOk s t p) (nan : isNanA (.num (.f s t p)) = false) (pl : plA (.num (.f s t p)) = .num (.f s t p)) :
    (t = .str "inf" ∧ p = 0 ∧ plc (.f s t p) = some (s * 2 ^ 1025, 1)) ∨ ∃ m : Nat, t = .int (m : Int) ∧ m % 2 = 1 ∧ m < 2 ^ 53 ∧ bitsN m + p ≤ 1024 ∧ plc (.f s t p) = some (ratN s m p, ratD p) ∧ wholeF s (.int (m : Int)) p = none := by
  have hw : wholeF s t p = none := by
    have pl : plNm (.f s t p) (wholeF s t p) = .num (.f s t p) := pl
    cases e : wholeF s t p with
    | none => rfl
    | some i => rw [e] at pl; cases pl
  rcases ok.2 with ⟨rfl, _⟩ | ⟨rfl, rfl⟩ | ⟨m, rfl, f⟩
  · have : decide (V.str "nan" = V.str "nan") = false := nan
    simp at this
  · left
    refine ⟨rfl, rfl, ?_⟩
    show (if ("inf" : Str) = "nan" then none else some (s * 2 ^ 1025, (1 : Int))) = _
    rw [if_neg (by decide +kernel)]
  · right
    obtain ⟨f1, f2, f3, f4, f5, f6⟩ := f
    have hm0 : m ≠ 0 := fun z => by
      subst z
      have hp : p = 0 := f5 rfl
      subst hp
      have : wholeF s (.int 0) 0 = some 0 := by
        show (if (0 : Int) < 0 ∨ 64 < ((Builtin.Int.intBits 0 : Nat) : Int) + 0 then none else if -9223372036854775808 ≤ s * (0 * 2 ^ (0 : Int).toNat) ∧ s * (0 * 2 ^ (0 : Int).toNat) ≤ 9223372036854775807 then some (s * (0 * 2 ^ (0 : Int).toNat)) else none) = some 0
        rw [if_neg (by decide), Int.zero_mul, Int.mul_zero, if_pos (by decide)]
      rw [this] at hw; cases hw
    refine ⟨m.toNat, by rw [Int.toNat_of_nonneg f1], ?_, ?_, ?_, ?_, ?_⟩
    · have := f6 hm0
      omega
    · omega
    · have e : Builtin.Int.intBits m = bitsN m.toNat := by
        have : m = ((m.toNat : Nat) : Int) := by omega
        rw [this, intBits_nat, Int.toNat_natCast]
      rw [e] at f4
      exact f4
    · rw [Int.toNat_of_nonneg f1]; rfl
    · rw [Int.toNat_of_nonneg f1]; exact hw
theorem sgn_pos {s : Int} (hs : s = 1 ∨ s = -1) {s' : Int} (hs' : s' = 1 ∨ s' = -1) {x y : Nat} (hx : 0 < x) (e : s * (x : Int) = s' * (y : Int)) : s = s' ∧ x = y := by
  rcases hs with rfl | rfl <;> rcases hs' with rfl | rfl
  · exact ⟨rfl, by omega⟩
  · omega
  · omega
  · exact ⟨rfl, by omega⟩
theorem ratN_abs (s : Int) (m : Nat) (p : Int) : ratN s m p = s * ((m * 2 ^ p.toNat : Nat) : Int) := by
  unfold ratN
  split
  · rename_i h
    have : p.toNat = 0 := by omega
    rw [this, Nat.pow_zero, Nat.mul_one]
  · rw [Int.natCast_mul, Int.natCast_pow]; rfl
theorem ratD_nat (p : Int) : ratD p = ((2 ^ (0 - p).toNat : Nat) : Int) := by
  unfold ratD
  split
  · rw [Int.natCast_pow]; rfl
  · rename_i h
    have : (0 - p).toNat = 0 := by omega
    rw [this]; rfl
theorem bits_mul {m a : Nat} (h : m ≠ 0) : bitsN (m * 2 ^ a) = bitsN m + a := by
  have h1 := bits_lt m
  have h2 := bits_ge h
  have h3 := bits_pos h
  have l1 : bitsN (m * 2 ^ a) ≤ bitsN m + a := bits_le (by rw [Nat.pow_add]; exact Nat.mul_lt_mul_of_pos_right h1 (Nat.two_pow_pos a))
  have l2 : bitsN m - 1 + a + 1 ≤ bitsN (m * 2 ^ a) := le_bits (by rw [Nat.pow_add]; exact Nat.mul_le_mul_right _ h2)
  omega
theorem KG.eq {k k' : Ky} (h : KG k) (h' : KG k') (e : sameA k.x k'.x = true) : k.x = k'.x := by
  obtain ⟨x, no⟩ := k
  obtain ⟨y, no'⟩ := k'
  obtain ⟨⟨a1, a2, a3⟩, a4⟩ := h
  obtain ⟨⟨b1, b2, b3⟩, b4⟩ := h'
  simp only at a1 a2 a3 a4 b1 b2 b3 b4 e ⊢
  -- an int and a float are never the same
  have mix : ∀ (i : Int) (s : Int) (t : V) (p : Int), rngA (.num (.i i)) → FlOk s t p → isNanA (.num (.f s t p)) = false → plA (.num (.f s t p)) = .num (.f s t p) → (∀ c d, plc (.f s t p) = some (c, d) → i * d = c) → False := by
    intro i s t p hi ok nan pl he
    rcases fl_cases ok nan pl with ⟨_, _, hp⟩ | ⟨m, rfl, hodd, hm, hb, hp, hw⟩
    · have := he _ _ hp
      have hi : -9223372036854775808 ≤ i ∧ i < 9223372036854775808 := hi
      have h64 : (2 : Int) ^ 1025 = 2 ^ 64 * 2 ^ 961 := by rw [← Int.pow_add]
      have hpos : (0 : Int) < 2 ^ 961 := Int.pow_pos (by decide)
      rw [Int.mul_one, h64] at this
      generalize (2 : Int) ^ 961 = z at this hpos
      rcases ok.1 with rfl | rfl
      · have : i = 2 ^ 64 * z := by omega
        omega
      · have : i = - (2 ^ 64 * z) := by omega
        omega
    · have e1 := he _ _ hp
      rw [ratN_abs, ratD_nat] at e1
      have hm0 : m ≠ 0 := by omega
      by_cases hp0 : p < 0
      · have : p.toNat = 0 := by omega
        rw [this, Nat.pow_zero, Nat.mul_one] at e1
        have h2 : (0 - p).toNat = ((0 - p).toNat - 1) + 1 := by omega
        rw [h2, Nat.pow_succ] at e1
        have e2 : (i * ((2 ^ ((0 - p).toNat - 1) * 2 : Nat) : Int)).natAbs = m := by
          rw [e1]
          rcases ok.1 with rfl | rfl <;> omega
        rw [Int.natAbs_mul, Int.natAbs_natCast, ← Nat.mul_assoc] at e2
        omega
      · have h2 : (0 - p).toNat = 0 := by omega
        rw [h2, Nat.pow_zero] at e1
        have e1 : i = s * ((m * 2 ^ p.toNat : Nat) : Int) := by simpa using e1
        have hi : -9223372036854775808 ≤ i ∧ i < 9223372036854775808 := hi
        have hb2 : bitsN (m * 2 ^ p.toNat) = bitsN m + p.toNat := bits_mul hm0
        have hsz : m * 2 ^ p.toNat ≤ 9223372036854775808 := by
          rcases ok.1 with rfl | rfl <;> omega
        have hb3 : bitsN (m * 2 ^ p.toNat) ≤ 64 := bits_le (Nat.lt_of_le_of_lt hsz (by decide))
        have e3 : s * ((m : Int) * 2 ^ p.toNat) = i := by rw [e1, Int.natCast_mul, Int.natCast_pow]; rfl
        have : wholeF s (.int (m : Int)) p = some i := by
          show (if p < 0 ∨ 64 < ((Builtin.Int.intBits (m : Int) : Nat) : Int) + p then none else if -9223372036854775808 ≤ s * ((m : Int) * 2 ^ p.toNat) ∧ s * ((m : Int) * 2 ^ p.toNat) ≤ 9223372036854775807 then some (s * ((m : Int) * 2 ^ p.toNat)) else none) = some i
          rw [intBits_nat, if_neg (by omega), e3, if_pos (by omega)]
        rw [this] at hw; cases hw
  cases x with
  | num n =>
    cases y with
    | num m =>
      have e : ordN n m = some 0 := of_decide_eq_true e
      cases n with
      | i i =>
        cases m with
        | i j =>
          have := ord0 e (a := i) (b := 1) (c := j) (d := 1) rfl rfl
          have : i = j := by omega
          rw [this]
        | f s t p =>
          exfalso
          refine mix i s t p a4 b4 b2 b3 fun c d hp => ?_
          have := ord0 e (a := i) (b := 1) rfl hp
          omega
      | f s t p =>
        cases m with
        | i i =>
          exfalso
          refine mix i s t p b4 a4 a2 a3 fun c d hp => ?_
          have := ord0 e hp (c := i) (d := 1) rfl
          omega
        | f s' t' p' =>
          rcases fl_cases a4 a2 a3 with ⟨rfl, rfl, hp⟩ | ⟨m, rfl, hodd, hm, hb, hp, hw⟩ <;> rcases fl_cases b4 b2 b3 with ⟨rfl, rfl, hp'⟩ | ⟨m', rfl, hodd', hm', hb', hp', hw'⟩
          · have e1 := ord0 e hp hp'
            have hpos : (0 : Int) < 2 ^ 1025 := Int.pow_pos (by decide)
            generalize (2 : Int) ^ 1025 = z at e1 hpos
            have hs := a4.1
            have hs' := b4.1
            rcases hs with rfl | rfl <;> rcases hs' with rfl | rfl
            · rfl
            · omega
            · omega
            · rfl
          · exfalso
            have e1 := ord0 e hp hp'
            rw [ratN_abs, ratD_nat] at e1
            have e2 : 2 ^ 1025 * 2 ^ (0 - p').toNat = m' * 2 ^ p'.toNat := by
              have : (s * 2 ^ 1025 * ((2 ^ (0 - p').toNat : Nat) : Int)).natAbs = (s' * ((m' * 2 ^ p'.toNat : Nat) : Int) * 1).natAbs := by rw [e1]
              rw [Int.mul_one, Int.natAbs_mul, Int.natAbs_mul, Int.natAbs_mul, Int.natAbs_natCast, Int.natAbs_natCast, Int.natAbs_pow] at this
              have h1 : s.natAbs = 1 := by rcases a4.1 with rfl | rfl <;> rfl
              have h2 : s'.natAbs = 1 := by rcases b4.1 with rfl | rfl <;> rfl
              rw [h1, h2, Nat.one_mul, Nat.one_mul] at this
              exact this
            have hm0 : m' ≠ 0 := by omega
            have h1 := bits_mul (m := m') (a := p'.toNat) hm0
            rw [← e2, ← Nat.pow_add, bits_pow] at h1
            omega
          · exfalso
            have e1 := ord0 e hp hp'
            rw [ratN_abs, ratD_nat] at e1
            have e2 : 2 ^ 1025 * 2 ^ (0 - p).toNat = m * 2 ^ p.toNat := by
              have : (s' * 2 ^ 1025 * ((2 ^ (0 - p).toNat : Nat) : Int)).natAbs = (s * ((m * 2 ^ p.toNat : Nat) : Int) * 1).natAbs := by rw [e1]
              rw [Int.mul_one, Int.natAbs_mul, Int.natAbs_mul, Int.natAbs_mul, Int.natAbs_natCast, Int.natAbs_natCast, Int.natAbs_pow] at this
              have h1 : s.natAbs = 1 := by rcases a4.1 with rfl | rfl <;> rfl
              have h2 : s'.natAbs = 1 := by rcases b4.1 with rfl | rfl <;> rfl
              rw [h1, h2, Nat.one_mul, Nat.one_mul] at this
              exact this
            have hm0 : m ≠ 0 := by omega
            have h1 := bits_mul (m := m) (a := p.toNat) hm0
            rw [← e2, ← Nat.pow_add, bits_pow] at h1
            omega
          · have e1 := ord0 e hp hp'
            rw [ratN_abs, ratN_abs, ratD_nat, ratD_nat, Int.mul_assoc, Int.mul_assoc, ← Int.natCast_mul, ← Int.natCast_mul] at e1
            have hpos : 0 < m * 2 ^ p.toNat * 2 ^ (0 - p').toNat := Nat.mul_pos (Nat.mul_pos (by omega) (Nat.two_pow_pos _)) (Nat.two_pow_pos _)
            obtain ⟨h1, h2⟩ := sgn_pos a4.1 b4.1 hpos e1
            rw [Nat.mul_assoc, Nat.mul_assoc, ← Nat.pow_add, ← Nat.pow_add] at h2
            obtain ⟨h3, h4⟩ := odd_eq hodd hodd' h2
            have h5 : p = p' := by omega
            subst h1 h3 h5
            rfl
    | _ => cases e
  | non => exact absurd rfl a1
  | bl b =>
    cases y with
    | bl b' =>
      have e : decide (b = b') = true := e
      rw [of_decide_eq_true e]
    | _ => cases e
  | str b =>
    cases y with
    | str b' =>
      have e : decide (b = b') = true := e
      rw [of_decide_eq_true e]
    | _ => cases e
  | obj b =>
    cases y with
    | obj b' =>
      have e : decide (b = b') = true := e
      rw [of_decide_eq_true e]
    | _ => cases e
end Up

set_option Elab.async false
set_option linter.all false
set_option pp.maxSteps 600
set_option maxRecDepth 100000
set_option maxHeartbeats 4000000
set_option exponentiation.threshold 200000
namespace Up
open PySem PySem.Spec PyProof.Rows L2
/-! ### a table as a map from keys to values -/
noncomputable instance : DecidableEq Nm := fun a b => Classical.propDecidable _
noncomputable instance : DecidableEq Any := fun a b => Classical.propDecidable _
def NoOk (f : Addr → Int) (k : Ky) : Prop := ∀ a, k.x = .obj a → k.no = f a
structure TMp (f : Addr → Int) (t : Tb Ky) : Prop where
  nod : ∀ i x, nd t.nds i = some x → x.dead = false
  kg : ∀ i x, nd t.nds i = some x → KG x.key
  no : ∀ i x, nd t.nds i = some x → NoOk f x.key
  dis : ∀ i j x y, nd t.nds i = some x → nd t.nds j = some y → x.key.x = y.key.x → i = j
  out : ∀ i x, nd t.nds i = some x → inB KK t.arr.length x.key = false
section
variable {f : Addr → Int} {t t' : Tb Ky}
theorem mp_eq {k k' : Ky} (h : NoOk f k) (h' : NoOk f k') (e : k.x = k'.x) (n : Nat) : KK.mp k n = KK.mp k' n := by
  obtain ⟨x, a⟩ := k
  obtain ⟨y, b⟩ := k'
  have e : x = y := e
  subst e
  cases x with
  | obj c =>
    have h1 := h c rfl
    have h2 := h' c rfl
    have : a = b := h1.trans h2.symm
    rw [this]
  | num n => cases n <;> rfl
  | non => rfl
  | bl _ => rfl
  | str _ => rfl
theorem inB_x {k k' : Ky} (e : k.x = k'.x) (n : Nat) : inB KK n k = inB KK n k' := by
  unfold inB
  show (match whA k.x with | some i => decide (1 ≤ i) && decide (i ≤ (n : Int)) | none => false) = (match whA k'.x with | some i => decide (1 ≤ i) && decide (i ≤ (n : Int)) | none => false)
  rw [e]
/-- find always ends -/
theorem Fd.total (W : TW KK t) (k : Ky) (wd : Bool) : ∃ r, Fd KK (nd t.nds) k wd (st0 KK k t.nds.length) r := by
  obtain ⟨rk, hr⟩ := W.rnk
  have go : ∀ n (a : Option Nat), (∀ i, a = some i → rk i < n) → ∃ r, Fd KK (nd t.nds) k wd a r := by
    intro n
    induction n with
    | zero =>
      intro a h
      cases a with
      | none => exact ⟨none, .non⟩
      | some i => exact absurd (h i rfl) (Nat.not_lt_zero _)
    | succ n ih =>
      intro a h
      cases a with
      | none => exact ⟨none, .non⟩
      | some i =>
        cases e : nd t.nds i with
        | none => exact ⟨none, .emp e⟩
        | some x =>
          cases hb : (KK.sm x.key k && (wd || !x.dead)) with
          | true => exact ⟨some i, .hit e hb⟩
          | false =>
            obtain ⟨r, hr'⟩ := ih x.link (fun j ej => by
              have h1 := hr i j ⟨x, e, ej⟩
              have h2 := h i rfl
              omega)
            exact ⟨r, .go e hb hr'⟩
  cases e : st0 KK k t.nds.length with
  | none => exact go 0 none (fun i z => nomatch z)
  | some i => exact go (rk i + 1) (some i) (fun j z => by cases z; exact Nat.lt_succ_self _)
/-- find comes to the node with the key -/
theorem TMp.fd (M : TMp f t) (W : TW KK t) {k : Ky} (hk : KG k) (hn : NoOk f k) {i : Nat} {y : Nd Ky} (e : nd t.nds i = some y) (ek : y.key.x = k.x) (wd : Bool) : Fd KK (nd t.nds) k wd (st0 KK k t.nds.length) (some i) := by
  have hlen : t.nds.length ≠ 0 := by have := nd_lt e; omega
  have hr := W.rch i y e
  simp only [mp_eq (M.no i y e) hn ek] at hr
  unfold st0
  rw [if_neg hlen]
  have ry : sameA y.key.x k.x = true := by rw [ek]; exact hk.refl
  generalize KK.mp k t.nds.length = j at hr
  induction hr with
  | refl i => exact .hit e (by show (sameA y.key.x k.x && (wd || !y.dead)) = true; rw [ry, M.nod _ _ e]; simp)
  | @step j l i b _ ih =>
    obtain ⟨x, ex, hx⟩ := b
    by_cases hs : sameA x.key.x k.x = true
    · have e1 := (M.kg _ _ ex).eq hk hs
      have := M.dis _ _ _ _ ex e (e1.trans ek.symm)
      subst this
      exact .hit ex (by show (sameA x.key.x k.x && (wd || !x.dead)) = true; rw [hs, M.nod _ _ ex]; simp)
    · refine .go ex (by show (sameA x.key.x k.x && (wd || !x.dead)) = false; simp [hs]) ?_
      rw [hx]
      exact ih e
theorem TMp.fd_of (M : TMp f t) (W : TW KK t) {k : Ky} (hk : KG k) (hn : NoOk f k) {wd : Bool} {r : Option Nat} (h : Fd KK (nd t.nds) k wd (st0 KK k t.nds.length) r) : (r = none ∧ ∀ i y, nd t.nds i = some y → y.key.x ≠ k.x) ∨ ∃ i y, r = some i ∧ nd t.nds i = some y ∧ y.key.x = k.x := by
  cases r with
  | none =>
    refine .inl ⟨rfl, fun i y e z => ?_⟩
    have := h.det KK (M.fd W hk hn e z wd)
    cases this
  | some i =>
    obtain ⟨y, e, hs, _⟩ := h.at
    exact .inr ⟨i, y, rfl, e, (M.kg _ _ e).eq hk hs⟩
open Classical in
/-- the value that a key has among the nodes -/
noncomputable def ndv (t : Tb Ky) (x : Any) : V := if h : ∃ v, ∃ i y, nd t.nds i = some y ∧ y.key.x = x ∧ y.val = v then h.choose else .non
theorem TMp.ndv_eq (M : TMp f t) {x : Any} {i : Nat} {y : Nd Ky} (e : nd t.nds i = some y) (ek : y.key.x = x) : ndv t x = y.val := by
  have hx : ∃ v, ∃ i y, nd t.nds i = some y ∧ y.key.x = x ∧ y.val = v := ⟨_, i, y, e, ek, rfl⟩
  unfold ndv
  rw [dif_pos hx]
  obtain ⟨j, z, e2, ek2, ev⟩ := hx.choose_spec
  have := M.dis _ _ _ _ e2 e (ek2.trans ek.symm)
  subst this
  rw [e] at e2
  cases e2
  exact ev.symm
theorem ndv_non {x : Any} (h : ∀ i y, nd t.nds i = some y → y.key.x ≠ x) : ndv t x = .non := by
  unfold ndv
  rw [dif_neg]
  rintro ⟨v, i, y, e, ek, _⟩
  exact h i y e ek
noncomputable def getX (t : Tb Ky) (x : Any) : V := match whA x with
  | some j => if 1 ≤ j ∧ j ≤ t.arr.length then t.arr.getD (j - 1).toNat .non else ndv t x
  | none => ndv t x
theorem getX_out {x : Any} {no : Int} (h : inB KK t.arr.length ⟨x, no⟩ = false) : getX t x = ndv t x := by
  unfold getX
  unfold inB at h
  have h : (match whA x with | some i => decide (1 ≤ i) && decide (i ≤ (t.arr.length : Int)) | none => false) = false := h
  cases e : whA x with
  | none => rfl
  | some j =>
    rw [e] at h
    show (if 1 ≤ j ∧ j ≤ (t.arr.length : Int) then _ else _) = _
    rw [if_neg]
    rintro ⟨a, b⟩
    simp [a, b] at h
theorem getX_in {x : Any} {j : Int} (e : whA x = some j) (h1 : 1 ≤ j) (h2 : j ≤ t.arr.length) : getX t x = t.arr.getD (j - 1).toNat .non := by
  unfold getX
  rw [e]
  exact if_pos ⟨h1, h2⟩
/-- what get tells, of good keys -/
theorem TMp.get (M : TMp f t) (W : TW KK t) {k : Ky} (hk : KG (plK k)) (hn : NoOk f (plK k)) : gtT t k = getX t (plA k.x) := by
  by_cases hi : inside KK t (plK k)
  · obtain ⟨j, e, h1, h2⟩ := hi
    have e : whA (plA k.x) = some j := e
    rw [getX_in e h1 h2]
    have hl : (j - 1).toNat < t.arr.length := by omega
    refine GetR.eq (.inl ⟨j, e, h1, h2, ?_⟩)
    rw [List.getD_eq_getElem?_getD, List.getElem?_eq_getElem hl]
    rfl
  · have hb : inB KK t.arr.length (plK k) = false := by
      cases e : inB KK t.arr.length (plK k) with
      | false => rfl
      | true => exact absurd ((inB_iff KK).mpr e) hi
    rw [getX_out (no := k.no) hb]
    by_cases hx : ∃ i y, nd t.nds i = some y ∧ y.key.x = plA k.x
    · obtain ⟨i, y, e, ek⟩ := hx
      rw [M.ndv_eq e ek]
      exact GetR.eq (.inr ⟨hi, .inr ⟨hk.gk.nn, hk.gk.nan, some i, M.fd W hk hn e ek false, .inr ⟨i, y, rfl, e, rfl⟩⟩⟩)
    · have habs : ∀ i y, nd t.nds i = some y → y.key.x ≠ plA k.x := fun i y e z => hx ⟨i, y, e, z⟩
      rw [ndv_non habs]
      have : Fd KK (nd t.nds) (plK k) false (st0 KK (plK k) t.nds.length) none := by
        obtain ⟨r, hr⟩ := Fd.total W (plK k) false
        rcases M.fd_of W hk hn hr with ⟨rfl, _⟩ | ⟨i, y, _, e, ek⟩
        · exact hr
        · exact absurd ek (habs i y e)
      exact GetR.eq (.inr ⟨hi, .inr ⟨hk.gk.nn, hk.gk.nan, none, this, .inl ⟨rfl, rfl⟩⟩⟩)
/-! what a put does to the map -/
theorem PutN.map (M : TMp f t) (W : TW KK t) {k : Ky} {kv u : V} (hk : KG k) (hn : NoOk f k) (ho : inB KK t.arr.length k = false) (habs : ∀ i y, nd t.nds i = some y → y.key.x ≠ k.x) (h : PutN KK t k kv u t') :
    TMp f t' ∧ t'.arr = t.arr ∧ ndv t' k.x = u ∧ ∀ x, x ≠ k.x → ndv t' x = ndv t x := by
  obtain ⟨w', l', r', _⟩ := h.ok KK W
  -- the nodes: the new one, or an old one of the same key and value; live ones stay
  have key : ∃ i0 y0, nd t'.nds i0 = some y0 ∧ y0.key = k ∧ y0.val = u ∧ y0.dead = false ∧ (∀ i y, nd t'.nds i = some y → i ≠ i0 → ∃ j z, nd t.nds j = some z ∧ z.key = y.key ∧ z.val = y.val ∧ z.dead = y.dead) ∧
      (∀ j z, nd t.nds j = some z → z.val ≠ .non → ∃ i y, nd t'.nds i = some y ∧ i ≠ i0 ∧ y.key = z.key ∧ y.val = z.val) ∧ (∀ i j y y', nd t'.nds i = some y → nd t'.nds j = some y' → i ≠ i0 → j ≠ i0 → y.key.x = y'.key.x → i = j) := by
    cases h with
    | repl a ha hlt hv =>
      refine ⟨a, _, by rw [nd_set hlt]; exact fu_same, rfl, rfl, rfl, fun i y e hi => ?_, fun j z e hz => ?_, fun i j y y' e e' hi hj ek => ?_⟩
      · rw [nd_set hlt, fu_ne hi] at e
        exact ⟨i, y, e, rfl, rfl, rfl⟩
      · have hj : j ≠ a := fun z' => by rw [z'] at e; exact hz (hv z e)
        exact ⟨j, z, by rw [nd_set hlt, fu_ne hj]; exact e, hj, rfl, rfl⟩
      · rw [nd_set hlt, fu_ne hi] at e
        rw [nd_set hlt, fu_ne hj] at e'
        exact M.dis _ _ _ _ e e' ek
    | coll a fr h ha F e0 hv hh =>
      have hf : fr < t.nds.length := Nat.lt_of_lt_of_le F.lt W.frn
      have hal := nd_lt e0
      have hfa : fr ≠ a := fun z => by rw [← z, F.none] at e0; cases e0
      have enw : ∀ i, nd ((t.nds.set fr (some ⟨k, kv, u, h.link, false⟩)).set a (some { h with link := some fr })) i = if i = a then some { h with link := some fr } else if i = fr then some ⟨k, kv, u, h.link, false⟩ else nd t.nds i := fun i => by
        rw [nd_set (by rw [List.length_set]; exact hal), nd_set hf]; rfl
      have old : ∀ i y, nd ((t.nds.set fr (some ⟨k, kv, u, h.link, false⟩)).set a (some { h with link := some fr })) i = some y → i ≠ fr → ∃ z, nd t.nds i = some z ∧ z.key = y.key ∧ z.val = y.val ∧ z.dead = y.dead := fun i y e hi => by
        rw [enw] at e
        by_cases h1 : i = a
        · rw [if_pos h1] at e; cases e; rw [h1]; exact ⟨h, e0, rfl, rfl, rfl⟩
        · rw [if_neg h1, if_neg hi] at e; exact ⟨y, e, rfl, rfl, rfl⟩
      refine ⟨fr, ⟨k, kv, u, h.link, false⟩, by rw [enw, if_neg hfa, if_pos rfl], rfl, rfl, rfl, fun i y e hi => ?_, fun j z e hz => ?_, fun i j y y' e e' hi hj ek => ?_⟩
      · obtain ⟨z, h1, h2⟩ := old i y e hi
        exact ⟨i, z, h1, h2⟩
      · have hj : j ≠ fr := fun z' => by rw [z', F.none] at e; cases e
        by_cases h1 : j = a
        · rw [h1, e0] at e; cases e
          exact ⟨a, { h with link := some fr }, by rw [enw, if_pos rfl], hfa.symm, rfl, rfl⟩
        · exact ⟨j, z, by rw [enw, if_neg h1, if_neg hj]; exact e, hj, rfl, rfl⟩
      · obtain ⟨z, h1, h2, _⟩ := old i y e hi
        obtain ⟨z', h1', h2', _⟩ := old j y' e' hj
        exact M.dis _ _ _ _ h1 h1' (by rw [h2, h2']; exact ek)
    | move a fr p h q ha F e0 hv hh hp hq =>
      have hf : fr < t.nds.length := Nat.lt_of_lt_of_le F.lt W.frn
      have hal := nd_lt e0
      have hpl := nd_lt hp
      have hfa : fr ≠ a := fun z => by rw [← z, F.none] at e0; cases e0
      have hfp : fr ≠ p := fun z => by rw [← z, F.none] at hp; cases hp
      obtain ⟨rk, hr⟩ := W.rnk
      have hpa : p ≠ a := fun z => by have := hr _ _ ⟨q, hp, hq⟩; rw [z] at this; omega
      have enw : ∀ i, nd (((t.nds.set p (some { q with link := some fr })).set fr (some h)).set a (some ⟨k, kv, u, none, false⟩)) i = if i = a then some ⟨k, kv, u, none, false⟩ else if i = fr then some h else if i = p then some { q with link := some fr } else nd t.nds i := fun i => by
        rw [nd_set (by rw [List.length_set, List.length_set]; exact hal), nd_set (by rw [List.length_set]; exact hf), nd_set hpl]; rfl
      -- where a node was
      have old : ∀ i y, nd (((t.nds.set p (some { q with link := some fr })).set fr (some h)).set a (some ⟨k, kv, u, none, false⟩)) i = some y → i ≠ a → ∃ z, nd t.nds (if i = fr then a else i) = some z ∧ z.key = y.key ∧ z.val = y.val ∧ z.dead = y.dead := fun i y e hi => by
        rw [enw, if_neg hi] at e
        by_cases h1 : i = fr
        · rw [if_pos h1] at e; cases e; rw [if_pos h1]; exact ⟨h, e0, rfl, rfl, rfl⟩
        · rw [if_neg h1] at e
          rw [if_neg h1]
          by_cases h2 : i = p
          · rw [if_pos h2] at e; cases e; rw [h2]; exact ⟨q, hp, rfl, rfl, rfl⟩
          · rw [if_neg h2] at e; exact ⟨y, e, rfl, rfl, rfl⟩
      refine ⟨a, ⟨k, kv, u, none, false⟩, by rw [enw, if_pos rfl], rfl, rfl, rfl, fun i y e hi => ?_, fun j z e hz => ?_, fun i j y y' e e' hi hj ek => ?_⟩
      · obtain ⟨z, h1, h2⟩ := old i y e hi
        exact ⟨_, z, h1, h2⟩
      · have hj : j ≠ fr := fun z' => by rw [z', F.none] at e; cases e
        by_cases h1 : j = a
        · rw [h1, e0] at e; cases e
          exact ⟨fr, h, by rw [enw, if_neg hfa, if_pos rfl], hfa, rfl, rfl⟩
        · by_cases h2 : j = p
          · rw [h2, hp] at e; cases e
            exact ⟨p, { q with link := some fr }, by rw [enw, if_neg hpa, if_neg hfp.symm, if_pos rfl], hpa, rfl, rfl⟩
          · exact ⟨j, z, by rw [enw, if_neg h1, if_neg hj, if_neg h2]; exact e, h1, rfl, rfl⟩
      · obtain ⟨z, h1, h2, _⟩ := old i y e hi
        obtain ⟨z', h1', h2', _⟩ := old j y' e' hj
        have := M.dis _ _ _ _ h1 h1' (by rw [h2, h2']; exact ek)
        by_cases c1 : i = fr <;> by_cases c2 : j = fr
        · exact c1.trans c2.symm
        · rw [if_pos c1, if_neg c2] at this; exact absurd this.symm hj
        · rw [if_neg c1, if_pos c2] at this; exact absurd this hi
        · rw [if_neg c1, if_neg c2] at this; exact this
  obtain ⟨i0, y0, e0, k0, v0, d0, old, live, uni⟩ := key
  have M' : TMp f t' := by
    refine ⟨fun i x e => ?_, fun i x e => ?_, fun i x e => ?_, fun i j x y e e' ek => ?_, fun i x e => ?_⟩
    · by_cases h : i = i0
      · rw [h, e0] at e; cases e; exact d0
      · obtain ⟨j, z, h1, _, _, h2⟩ := old i x e h
        rw [← h2]; exact M.nod _ _ h1
    · by_cases h : i = i0
      · rw [h, e0] at e; cases e; rw [k0]; exact hk
      · obtain ⟨j, z, h1, h2, _⟩ := old i x e h
        rw [← h2]; exact M.kg _ _ h1
    · by_cases h : i = i0
      · rw [h, e0] at e; cases e; rw [k0]; exact hn
      · obtain ⟨j, z, h1, h2, _⟩ := old i x e h
        rw [← h2]; exact M.no _ _ h1
    · by_cases h : i = i0 <;> by_cases h' : j = i0
      · exact h.trans h'.symm
      · exfalso
        rw [h, e0] at e; cases e
        obtain ⟨l, z, h1, h2, _⟩ := old j y e' h'
        exact habs _ _ h1 (by rw [h2, ← ek, k0])
      · exfalso
        rw [h', e0] at e'; cases e'
        obtain ⟨l, z, h1, h2, _⟩ := old i x e h
        exact habs _ _ h1 (by rw [h2, ek, k0])
      · exact uni i j x y e e' h h' ek
    · rw [r']
      by_cases h : i = i0
      · rw [h, e0] at e; cases e; rw [k0]; exact ho
      · obtain ⟨j, z, h1, h2, _⟩ := old i x e h
        rw [← h2]; exact M.out _ _ h1
  refine ⟨M', r', ?_, fun x hx => ?_⟩
  · rw [M'.ndv_eq e0 (by rw [k0]), v0]
  · by_cases hl : ∃ j z, nd t.nds j = some z ∧ z.key.x = x ∧ z.val ≠ .non
    · obtain ⟨j, z, e, ek, ev⟩ := hl
      obtain ⟨i, y, e1, _, h2, h3⟩ := live j z e ev
      rw [M.ndv_eq e ek, M'.ndv_eq e1 (by rw [h2]; exact ek), h3]
    · have h1 : ndv t x = .non := by
        by_cases h : ∃ j z, nd t.nds j = some z ∧ z.key.x = x
        · obtain ⟨j, z, e, ek⟩ := h
          rw [M.ndv_eq e ek]
          cases hv : decide (z.val = .non) with
          | true => exact of_decide_eq_true hv
          | false => exact absurd ⟨j, z, e, ek, of_decide_eq_false hv⟩ hl
        · exact ndv_non fun i y e z => h ⟨i, y, e, z⟩
      have h2 : ndv t' x = .non := by
        by_cases h : ∃ j z, nd t'.nds j = some z ∧ z.key.x = x
        · obtain ⟨j, z, e, ek⟩ := h
          rw [M'.ndv_eq e ek]
          have hj : j ≠ i0 := fun z' => by rw [z', e0] at e; cases e; rw [k0] at ek; exact hx ek.symm
          obtain ⟨j', z', e', ek', ev', _⟩ := old j z e hj
          cases hv : decide (z.val = .non) with
          | true => exact of_decide_eq_true hv
          | false => exact absurd ⟨j', z', e', by rw [ek']; exact ek, by rw [ev']; exact of_decide_eq_false hv⟩ hl
        · exact ndv_non fun i y e z => h ⟨i, y, e, z⟩
      rw [h1, h2]
theorem PutS.map (M : TMp f t) (W : TW KK t) {k : Ky} {kv u : V} (hk : KG k) (hn : NoOk f k) (h : PutS KK t k kv u t') : TMp f t' ∧ ∀ x, getX t' x = if x = k.x then u else getX t x := by
  have outB : ¬ inside KK t k → inB KK t.arr.length k = false := fun hi => by
    cases e : inB KK t.arr.length k with
    | false => rfl
    | true => exact absurd ((inB_iff KK).mpr e) hi
  cases h with
  | ins j e h1 h2 =>
    have e : whA k.x = some j := e
    have hx : k.x = .num (.i j) := by
      obtain ⟨x, no⟩ := k
      cases x with
      | num n =>
        cases n with
        | i l => cases e; rfl
        | f _ _ _ => cases e
      | _ => cases e
    refine ⟨⟨M.nod, M.kg, M.no, M.dis, fun i x ex => ?_⟩, fun x => ?_⟩
    · show inB KK (t.arr.set _ _).length x.key = false
      rw [List.length_set]
      exact M.out i x ex
    · have hndv : ndv { t with arr := t.arr.set (j - 1).toNat u } x = ndv t x := rfl
      unfold getX
      rw [hndv]
      cases ew : whA x with
      | none =>
        show ndv t x = if x = k.x then u else ndv t x
        rw [if_neg (fun z => by rw [z, e] at ew; cases ew)]
      | some l =>
        show (if 1 ≤ l ∧ l ≤ ((t.arr.set (j - 1).toNat u).length : Int) then (t.arr.set (j - 1).toNat u).getD (l - 1).toNat .non else ndv t x) = if x = k.x then u else if 1 ≤ l ∧ l ≤ (t.arr.length : Int) then t.arr.getD (l - 1).toNat .non else ndv t x
        rw [List.length_set]
        have hxl : x = .num (.i l) := by
          cases x with
          | num n =>
            cases n with
            | i m => cases ew; rfl
            | f _ _ _ => cases ew
          | _ => cases ew
        by_cases hl : 1 ≤ l ∧ l ≤ (t.arr.length : Int)
        · rw [if_pos hl, if_pos hl]
          have hlt : (l - 1).toNat < t.arr.length := by omega
          rw [List.getD_eq_getElem?_getD, List.getElem?_set, List.getD_eq_getElem?_getD]
          by_cases hjl : j = l
          · subst hjl
            rw [if_pos rfl, if_pos hlt, if_pos (hxl.trans hx.symm)]
            rfl
          · rw [if_neg (by omega), if_neg (fun z => by rw [hxl, hx] at z; injection z with z; injection z with z; exact hjl z.symm)]
        · rw [if_neg hl, if_neg hl, if_neg (fun z => by rw [hxl, hx] at z; injection z with z; injection z with z; subst z; exact hl ⟨h1, h2⟩)]
  | fnd r y ni fd e0 =>
    have ekx : y.key.x = k.x := by
      obtain ⟨y', e', hs, _⟩ := fd.at
      rw [e0] at e'; cases e'
      exact (M.kg _ _ e0).eq hk hs
    have ob := outB ni
    have enw : ∀ i, nd (t.nds.set r (some { y with val := u })) i = if i = r then some { y with val := u } else nd t.nds i := fun i => by rw [nd_set (nd_lt e0)]; rfl
    have old : ∀ i x, nd (t.nds.set r (some { y with val := u })) i = some x → ∃ z, nd t.nds i = some z ∧ z.key = x.key ∧ z.dead = x.dead ∧ (i ≠ r → z.val = x.val) := fun i x e => by
      rw [enw] at e
      by_cases h1 : i = r
      · rw [if_pos h1] at e; cases e; rw [h1]; exact ⟨y, e0, rfl, rfl, fun z => absurd rfl z⟩
      · rw [if_neg h1] at e; exact ⟨x, e, rfl, rfl, fun _ => rfl⟩
    have M' : TMp f { t with nds := t.nds.set r (some { y with val := u }) } := by
      refine ⟨fun i x e => ?_, fun i x e => ?_, fun i x e => ?_, fun i j x x' e e' ek => ?_, fun i x e => ?_⟩
      · obtain ⟨z, h1, h2, h3, _⟩ := old i x e; rw [← h3]; exact M.nod _ _ h1
      · obtain ⟨z, h1, h2, _⟩ := old i x e; rw [← h2]; exact M.kg _ _ h1
      · obtain ⟨z, h1, h2, _⟩ := old i x e; rw [← h2]; exact M.no _ _ h1
      · obtain ⟨z, h1, h2, _⟩ := old i x e
        obtain ⟨z', h1', h2', _⟩ := old j x' e'
        exact M.dis _ _ _ _ h1 h1' (by rw [h2, h2']; exact ek)
      · obtain ⟨z, h1, h2, _⟩ := old i x e; rw [← h2]; exact M.out _ _ h1
    refine ⟨M', fun x => ?_⟩
    have er : nd (t.nds.set r (some { y with val := u })) r = some { y with val := u } := by rw [enw, if_pos rfl]
    have hv : ∀ x, ndv { t with nds := t.nds.set r (some { y with val := u }) } x = if x = k.x then u else ndv t x := fun x => by
      by_cases hx : x = k.x
      · rw [if_pos hx]
        exact M'.ndv_eq er (ekx.trans hx.symm)
      · rw [if_neg hx]
        by_cases h : ∃ j z, nd t.nds j = some z ∧ z.key.x = x
        · obtain ⟨j, z, e, ek⟩ := h
          have hj : j ≠ r := fun z' => by rw [z', e0] at e; cases e; exact hx (ek.symm.trans ekx)
          rw [M.ndv_eq e ek]
          exact M'.ndv_eq (i := j) (y := z) (by show nd (t.nds.set r _) j = _; rw [enw, if_neg hj]; exact e) ek
        · rw [ndv_non fun i y e z => h ⟨i, y, e, z⟩]
          refine ndv_non fun i x' e z => ?_
          obtain ⟨z', h1, h2, _⟩ := old i x' e
          exact h ⟨i, z', h1, by rw [h2]; exact z⟩
    by_cases hx : x = k.x
    · rw [if_pos hx, getX_out (t := { t with nds := t.nds.set r (some { y with val := u }) }) (no := k.no) (by rw [hx]; exact ob), hv, if_pos hx]
    · rw [if_neg hx]
      unfold getX
      rw [hv, if_neg hx]
  | skip ni fd eu =>
    refine ⟨M, fun x => ?_⟩
    by_cases hx : x = k.x
    · rw [if_pos hx, getX_out (no := k.no) (by rw [hx]; exact outB ni), eu, hx]
      rcases M.fd_of W hk hn fd with ⟨_, habs⟩ | ⟨i, y, e, _⟩
      · exact ndv_non habs
      · cases e
    · rw [if_neg hx]
  | new ni fd eu hp =>
    have ob := outB ni
    rcases M.fd_of W hk hn fd with ⟨_, habs⟩ | ⟨i, y, e, _⟩
    · obtain ⟨M', ea, ev, eo⟩ := hp.map M W hk hn ob habs
      refine ⟨M', fun x => ?_⟩
      by_cases hx : x = k.x
      · rw [if_pos hx, getX_out (no := k.no) (by rw [ea, hx]; exact ob), hx, ev]
      · rw [if_neg hx]
        unfold getX
        rw [eo x hx, ea]
    · cases e
end
end Up

set_option Elab.async false
set_option linter.all false
set_option pp.maxSteps 600
set_option maxRecDepth 100000
set_option maxHeartbeats 4000000
set_option exponentiation.threshold 200000
namespace Up
open PySem PySem.Spec PyProof.Rows L2
/-! ### many puts, growing: the map stays -/
noncomputable def lkl (l : List (Ky × V × V)) (x : Any) (d : V) : V := l.foldl (fun d e => if x = e.1.x then e.2.2 else d) d
theorem lkl_non {l : List (Ky × V × V)} {x : Any} {d : V} (h : ∀ e ∈ l, e.1.x ≠ x) : lkl l x d = d := by
  unfold lkl
  induction l generalizing d with
  | nil => rfl
  | cons e l ih =>
    rw [List.foldl_cons, if_neg (fun z => h e (List.mem_cons_self ..) z.symm)]
    exact ih fun e' he => h e' (List.mem_cons_of_mem _ he)
theorem lkl_some {l : List (Ky × V × V)} {x : Any} {d v : V} (h : ∀ e ∈ l, e.1.x = x → e.2.2 = v) (hx : ∃ e ∈ l, e.1.x = x) : lkl l x d = v := by
  unfold lkl
  induction l generalizing d with
  | nil => obtain ⟨e, he, _⟩ := hx; cases he
  | cons e l ih =>
    rw [List.foldl_cons]
    by_cases hl : ∃ e' ∈ l, e'.1.x = x
    · exact ih (fun e' he => h e' (List.mem_cons_of_mem _ he)) hl
    · have h1 := lkl_non (l := l) (x := x) (d := if x = e.1.x then e.2.2 else d) (fun e' he z => hl ⟨e', he, z⟩)
      unfold lkl at h1
      rw [h1]
      obtain ⟨e', he, ex⟩ := hx
      rcases List.mem_cons.mp he with rfl | he
      · rw [if_pos ex.symm]; exact h _ (List.mem_cons_self ..) ex
      · exact absurd ⟨e', he, ex⟩ hl
section
variable {f : Addr → Int} {t t' : Tb Ky}
theorem PutA.map {l : List (Ky × V × V)} (h : PutA KK t l t') (M : TMp f t) (W : TW KK t) (hk : ∀ e ∈ l, KG e.1 ∧ NoOk f e.1) : TMp f t' ∧ ∀ x, getX t' x = lkl l x (getX t x) := by
  induction h with
  | nil => exact ⟨M, fun x => rfl⟩
  | @cons t t1 t' k kv u l a _ ih =>
    obtain ⟨k1, k2⟩ := hk _ (List.mem_cons_self ..)
    obtain ⟨M1, g1⟩ := a.map M W k1 k2
    obtain ⟨M2, g2⟩ := ih M1 (a.ok KK W).1 fun e he => hk e (List.mem_cons_of_mem _ he)
    refine ⟨M2, fun x => ?_⟩
    rw [g2, g1]
    rfl
theorem PutA.keys {l : List (Ky × V × V)} (h : PutA KK t l t') (W : TW KK t) : ∀ i x, nd t'.nds i = some x → KeyOf t x ∨ ∃ e ∈ l, x.key = e.1 := by
  induction h with
  | nil => exact fun i x e => .inl ⟨i, x, e, rfl, rfl⟩
  | @cons t t1 t' k kv u l a _ ih =>
    intro i x e
    rcases ih (a.ok KK W).1 i x e with ⟨j, y, ey, _, ek⟩ | ⟨e', he, ek⟩
    · rcases a.keys W j y ey with ⟨j', y', ey', h1, h2⟩ | ⟨_, h2⟩
      · rename_i hkv
        exact .inl ⟨j', y', ey', h1.trans hkv, h2.trans ek⟩
      · exact .inr ⟨(k, kv, u), List.mem_cons_self .., by rw [← ek]; exact h2⟩
    · exact .inr ⟨e', List.mem_cons_of_mem _ he, ek⟩
theorem liveA_in {a : Nat} {l : List V} {q : Ky × V × V} (h : q ∈ liveA KK a l) : ∃ i : Nat, i < l.length ∧ q.1 = KK.ki ((a + i + 1 : Nat) : Int) ∧ q.2.2 = l.getD i .non ∧ l.getD i .non ≠ .non := by
  induction l generalizing a with
  | nil => cases h
  | cons v l ih =>
    unfold liveA at h
    have next : q ∈ liveA KK (a + 1) l → ∃ i : Nat, i < (v :: l).length ∧ q.1 = KK.ki ((a + i + 1 : Nat) : Int) ∧ q.2.2 = (v :: l).getD i .non ∧ (v :: l).getD i .non ≠ .non := fun h => by
      obtain ⟨i, h1, h2, h3, h4⟩ := ih h
      refine ⟨i + 1, by rw [List.length_cons]; omega, ?_, ?_, ?_⟩
      · rw [h2]; congr 1; omega
      · rw [h3]; rfl
      · exact h4
    split at h
    · exact next h
    · rcases List.mem_cons.mp h with rfl | h
      · exact ⟨0, by rw [List.length_cons]; omega, rfl, rfl, by assumption⟩
      · exact next h
theorem liveA_has {a : Nat} {l : List V} {i : Nat} (hi : i < l.length) (hv : l.getD i .non ≠ .non) : ∃ q ∈ liveA KK a l, q.1 = KK.ki ((a + i + 1 : Nat) : Int) ∧ q.2.2 = l.getD i .non := by
  induction l generalizing a i with
  | nil => exact absurd hi (Nat.not_lt_zero _)
  | cons v l ih =>
    cases i with
    | zero =>
      have hv : v ≠ .non := hv
      refine ⟨(KK.ki ((a + 1 : Nat) : Int), .int ((a + 1 : Nat) : Int), v), ?_, rfl, rfl⟩
      unfold liveA
      rw [if_neg hv]
      exact List.mem_cons_self ..
    | succ i =>
      obtain ⟨q, hq, h1, h2⟩ := ih (a := a + 1) (i := i) (by rw [List.length_cons] at hi; omega) hv
      refine ⟨q, ?_, by rw [h1]; congr 1; omega, h2⟩
      unfold liveA
      split
      · exact hq
      · exact List.mem_cons_of_mem _ hq
/-- the value of an int by the array -/
def arrX (arr : List V) (x : Any) : V := match whA x with
  | some j => if 1 ≤ j ∧ j ≤ arr.length then arr.getD (j - 1).toNat .non else .non
  | none => .non
theorem KG.int {i : Int} (h1 : -9223372036854775808 ≤ i) (h2 : i < 9223372036854775808) : KG (KK.ki i) := ⟨gk_int i, h1, h2⟩
theorem NoOk.int {i : Int} : NoOk f (KK.ki i) := fun a e => nomatch e
theorem whA_int {x : Any} {j : Int} (h : whA x = some j) : x = .num (.i j) := by
  cases x with
  | num n =>
    cases n with
    | i l => cases h; rfl
    | f _ _ _ => cases h
  | _ => cases h
theorem getD_take {l : List V} {n i : Nat} (h : i < n) : (l.take n).getD i .non = l.getD i .non := by
  rw [List.getD_eq_getElem?_getD, List.getD_eq_getElem?_getD, List.getElem?_take_of_lt h]
theorem getD_drop {l : List V} {n i : Nat} : (l.drop n).getD i .non = l.getD (n + i) .non := by
  rw [List.getD_eq_getElem?_getD, List.getD_eq_getElem?_getD, List.getElem?_drop]
theorem Rsz.map {n m : Nat} (h : Rsz KK t n m t') (M : TMp f t) (W : TW KK t) (hs : t.arr.length ≤ 100000) (hn : n ≤ 100000) : TMp f t' ∧ ∀ x, getX t' x = getX t x := by
  cases h with
  | mk h1 h2 =>
    rename_i t1
    have W0 := TW.new KK (κ := Ky) (t.arr.take n) m
    have non0 : ∀ i x, nd (List.replicate m (none : Option (Nd Ky))) i ≠ some x := fun i x e => by rw [nd_new] at e; cases e
    have M0 : TMp f (⟨t.arr.take n, List.replicate m none, m⟩ : Tb Ky) := ⟨fun i x e => absurd e (non0 i x), fun i x e => absurd e (non0 i x), fun i x e => absurd e (non0 i x), fun i j x y e => absurd e (non0 i x), fun i x e => absurd e (non0 i x)⟩
    have hA : ∀ e ∈ liveA KK n (t.arr.drop n), KG e.1 ∧ NoOk f e.1 := fun e he => by
      obtain ⟨i, hi, e1, _⟩ := liveA_in he
      rw [List.length_drop] at hi
      rw [e1]
      exact ⟨KG.int (by omega) (by omega), NoOk.int⟩
    obtain ⟨M1, g1⟩ := h1.map M0 W0 hA
    obtain ⟨w1, l1, r1, _⟩ := h1.ok KK W0
    have r1 : t1.arr.length = (t.arr.take n).length := r1
    rw [List.length_take] at r1
    have kout : ∀ i x, nd t1.nds i = some x → inB KK n x.key = false := fun i x e => by
      rcases h1.keys W0 i x e with ⟨j, y, ey, _⟩ | ⟨e', he, ek⟩
      · exact absurd ey (non0 j y)
      · obtain ⟨l, hl, e1, _⟩ := liveA_in he
        rw [ek, e1]
        unfold inB
        rw [KK.wk]
        show (decide ((1 : Int) ≤ ((n + l + 1 : Nat) : Int)) && decide (((n + l + 1 : Nat) : Int) ≤ (n : Int))) = false
        rw [decide_eq_false (p := ((n + l + 1 : Nat) : Int) ≤ (n : Int)) (by omega), Bool.and_false]
    -- behind the first row of puts
    have g1 : ∀ x, getX t1 x = arrX t.arr x := fun x => by
      rw [g1]
      have e0 : getX (⟨t.arr.take n, List.replicate m none, m⟩ : Tb Ky) x = arrX (t.arr.take n) x := by
        have hv : ndv (⟨t.arr.take n, List.replicate m none, m⟩ : Tb Ky) x = .non := ndv_non fun i y e => absurd e (non0 i y)
        unfold getX arrX
        rw [hv]
        all_goals (cases whA x <;> rfl)
      rw [e0]
      cases ew : whA x with
      | none =>
        have e1 : arrX (t.arr.take n) x = .non := by unfold arrX; rw [ew]
        have e2 : arrX t.arr x = .non := by unfold arrX; rw [ew]
        rw [e1, e2]
        refine lkl_non fun e he z => ?_
        obtain ⟨l, hl, e1, _⟩ := liveA_in he
        rw [← z, e1] at ew; cases ew
      | some j =>
        have ex := whA_int ew
        have a1 : ∀ arr : List V, arrX arr x = if 1 ≤ j ∧ j ≤ arr.length then arr.getD (j - 1).toNat .non else .non := fun arr => by unfold arrX; rw [ew]
        by_cases hj : 1 ≤ j ∧ j ≤ n
        · have : lkl (liveA KK n (t.arr.drop n)) x (arrX (t.arr.take n) x) = arrX (t.arr.take n) x := lkl_non fun e he z => by
            obtain ⟨l, hl, e1, _⟩ := liveA_in he
            rw [e1, ex] at z
            have z : Any.num (.i ((n + l + 1 : Nat) : Int)) = .num (.i j) := z
            injection z with z; injection z with z
            omega
          rw [this, a1, a1, List.length_take]
          by_cases hl : j ≤ t.arr.length
          · rw [if_pos ⟨hj.1, by omega⟩, if_pos ⟨hj.1, hl⟩, getD_take (by omega)]
          · rw [if_neg (by omega), if_neg (by omega)]
        · have e1 : arrX (t.arr.take n) x = .non := by rw [a1, List.length_take, if_neg (by omega)]
          rw [e1]
          by_cases hl : 1 ≤ j ∧ j ≤ t.arr.length
          · rw [a1, if_pos hl]
            have hi : (j - 1).toNat - n < (t.arr.drop n).length := by rw [List.length_drop]; omega
            have ed : (t.arr.drop n).getD ((j - 1).toNat - n) .non = t.arr.getD (j - 1).toNat .non := by rw [getD_drop]; congr 1; omega
            have same : ∀ e ∈ liveA KK n (t.arr.drop n), e.1.x = x → e.2.2 = t.arr.getD (j - 1).toNat .non := fun e he z => by
              obtain ⟨l, hl', e1, e2, _⟩ := liveA_in he
              rw [e1, ex] at z
              have z : Any.num (.i ((n + l + 1 : Nat) : Int)) = .num (.i j) := z
              injection z with z; injection z with z
              rw [e2, getD_drop]; congr 1; omega
            by_cases hv : t.arr.getD (j - 1).toNat .non = .non
            · rw [hv]
              refine lkl_non fun e he z => ?_
              obtain ⟨l, hl', e1, e2, e3⟩ := liveA_in he
              have := same e he z
              rw [e2, hv] at this
              exact e3 this
            · refine lkl_some same ?_
              obtain ⟨q, hq, h1, h2⟩ := liveA_has (a := n) hi (by rw [ed]; exact hv)
              refine ⟨q, hq, ?_⟩
              rw [h1, ex]
              show Any.num (.i ((n + ((j - 1).toNat - n) + 1 : Nat) : Int)) = .num (.i j)
              congr 2
              omega
          · rw [a1, if_neg hl]
            refine lkl_non fun e he z => ?_
            obtain ⟨l, hl', e1, _⟩ := liveA_in he
            rw [List.length_drop] at hl'
            rw [e1, ex] at z
            have z : Any.num (.i ((n + l + 1 : Nat) : Int)) = .num (.i j) := z
            injection z with z; injection z with z
            omega
    have elp : (padA t1.arr n).length = n := by unfold padA; rw [List.length_append, List.length_replicate]; omega
    have M2 : TMp f { t1 with arr := padA t1.arr n } := ⟨M1.nod, M1.kg, M1.no, M1.dis, fun i x e => by
      show inB KK (padA t1.arr n).length x.key = false
      rw [elp]; exact kout i x e⟩
    have g2 : ∀ x, getX { t1 with arr := padA t1.arr n } x = arrX t.arr x := fun x => by
      rw [← g1]
      have hv : ndv { t1 with arr := padA t1.arr n } x = ndv t1 x := rfl
      unfold getX
      rw [hv]
      cases ew : whA x with
      | none => rfl
      | some j =>
        show (if 1 ≤ j ∧ j ≤ ((padA t1.arr n).length : Int) then (padA t1.arr n).getD (j - 1).toNat .non else ndv t1 x) = if 1 ≤ j ∧ j ≤ (t1.arr.length : Int) then t1.arr.getD (j - 1).toNat .non else ndv t1 x
        rw [elp]
        by_cases hj : 1 ≤ j ∧ j ≤ (n : Int)
        · rw [if_pos hj]
          by_cases hl : 1 ≤ j ∧ j ≤ (t1.arr.length : Int)
          · rw [if_pos hl]
            unfold padA
            rw [List.getD_eq_getElem?_getD, List.getD_eq_getElem?_getD, List.getElem?_append_left (by omega)]
          · rw [if_neg hl]
            have e1 : (padA t1.arr n).getD (j - 1).toNat .non = .non := by
              unfold padA
              rw [List.getD_eq_getElem?_getD, List.getElem?_append_right (by omega), List.getElem?_replicate]
              split <;> rfl
            rw [e1]
            symm
            refine ndv_non fun i y e z => ?_
            have := kout i y e
            unfold inB at this
            have this : (match whA y.key.x with | some i => decide (1 ≤ i) && decide (i ≤ (n : Int)) | none => false) = false := this
            rw [z, ew] at this
            simp [hj.1, hj.2] at this
        · rw [if_neg hj, if_neg (by omega)]
    have hN : ∀ e ∈ liveN t.nds, KG e.1 ∧ NoOk f e.1 := fun e he => by
      obtain ⟨i, x, ex, rfl⟩ := liveN_mem he
      exact ⟨M.kg _ _ ex, M.no _ _ ex⟩
    obtain ⟨M3, g3⟩ := h2.map M2 (show TW KK { t1 with arr := padA t1.arr n } from w1) hN
    refine ⟨M3, fun x => ?_⟩
    rw [g3, g2]
    by_cases hx : ∃ i y, nd t.nds i = some y ∧ y.key.x = x ∧ y.val ≠ .non
    · obtain ⟨i, y, e, ek, ev⟩ := hx
      have e1 : getX t x = y.val := by
        rw [getX_out (no := y.key.no) (by rw [← ek]; exact M.out _ _ e)]
        exact M.ndv_eq e ek
      rw [e1]
      refine lkl_some (fun e' he z => ?_) ⟨(y.key, y.kv, y.val), ?_, ek⟩
      · obtain ⟨j, y', ey', rfl⟩ := liveN_mem he
        have := M.dis _ _ _ _ ey' e (z.trans ek.symm)
        subst this
        rw [e] at ey'; cases ey'; rfl
      · unfold liveN
        rw [List.mem_filterMap]
        refine ⟨some y, ?_, ?_⟩
        · have := nd_at (nd_lt e)
          rw [e] at this
          exact List.mem_of_getElem? this
        · show (if y.val = .non then none else some (y.key, y.kv, y.val)) = _
          rw [if_neg ev]
    · have hl : lkl (liveN t.nds) x (arrX t.arr x) = arrX t.arr x := lkl_non fun e he z => by
        have he' := he
        obtain ⟨i, y, ey, rfl⟩ := liveN_mem he
        refine hx ⟨i, y, ey, z, fun zv => ?_⟩
        unfold liveN at he'
        rw [List.mem_filterMap] at he'
        obtain ⟨o, _, eo⟩ := he'
        cases o with
        | none => cases eo
        | some y' =>
          have eo : (if y'.val = .non then none else some (y'.key, y'.kv, y'.val)) = some (y.key, y.kv, y.val) := eo
          by_cases hne : y'.val = .non
          · rw [if_pos hne] at eo; cases eo
          · rw [if_neg hne] at eo
            injection eo with eo
            injection eo with _ eo
            injection eo with _ eo
            exact hne (eo.trans zv)
      rw [hl]
      have hv : ndv t x = .non := by
        by_cases h : ∃ i y, nd t.nds i = some y ∧ y.key.x = x
        · obtain ⟨i, y, e, ek⟩ := h
          rw [M.ndv_eq e ek]
          cases hd : decide (y.val = .non) with
          | true => exact of_decide_eq_true hd
          | false => exact absurd ⟨i, y, e, ek, of_decide_eq_false hd⟩ hx
        · exact ndv_non fun i y e z => h ⟨i, y, e, z⟩
      unfold getX arrX
      rw [hv]
      all_goals (cases whA x <;> rfl)
theorem PutF.map (M : TMp f t) (W : TW KK t) {k : Ky} {kv u : V} (hk : KG k) (hn : NoOk f k) (hs : t.arr.length ≤ 100000) (hl : Up.lv t < 4000) (h : PutF t k kv u t') : TMp f t' ∧ ∀ x, getX t' x = if x = k.x then u else getX t x := by
  cases h with
  | ins i a b c => exact (PutS.ins (O := KK) (t := t) (kv := kv) (u := u) (k := k) i a b c).map M W hk hn
  | fnd r x a b c => exact (PutS.fnd (O := KK) (t := t) (kv := kv) (u := u) (k := k) r x a b c).map M W hk hn
  | skip a b c => exact (PutS.skip (O := KK) (t := t) (kv := kv) (u := u) (k := k) a b c).map M W hk hn
  | new a b c d =>
    rcases d with d | ⟨_, t1, g, p⟩
    · exact (PutS.new (O := KK) (t := t) (kv := kv) (u := u) (k := k) a b c d).map M W hk hn
    · have hb : grB t k ≤ 100000 := by have := bestK_le (keysK KK t k) 32; rw [keys_len] at this; unfold grB; omega
      obtain ⟨M1, g1⟩ := Rsz.map g M W hs hb
      obtain ⟨M2, g2⟩ := p.map M1 (Rsz.ok g).1 hk hn
      refine ⟨M2, fun x => ?_⟩
      rw [g2, g1]
theorem newT_map (ar n : Nat) : TMp f (newT ar n) ∧ ∀ x, getX (newT ar n) x = .non := by
  have non0 : ∀ i x, nd (newT ar n).nds i ≠ some x := fun i x e => by
    have e : nd (List.replicate (powF n) (none : Option (Nd Ky))) i = some x := e
    rw [nd_new] at e; cases e
  refine ⟨⟨fun i x e => absurd e (non0 i x), fun i x e => absurd e (non0 i x), fun i x e => absurd e (non0 i x), fun i j x y e => absurd e (non0 i x), fun i x e => absurd e (non0 i x)⟩, fun x => ?_⟩
  have hv : ndv (newT ar n) x = .non := ndv_non fun i y e => absurd e (non0 i y)
  unfold getX
  rw [hv]
  cases whA x with
  | none => rfl
  | some j =>
    show (if 1 ≤ j ∧ j ≤ ((newT ar n).arr.length : Int) then (List.replicate ar V.non).getD (j - 1).toNat .non else .non) = .non
    split
    · rw [List.getD_eq_getElem?_getD, List.getElem?_replicate]
      split <;> rfl
    · rfl
end
end Up

set_option Elab.async false
set_option linter.all false
set_option pp.maxSteps 600
set_option maxRecDepth 100000
set_option maxHeartbeats 4000000
namespace Up
open PySem PySem.Spec PyProof.Rows L2 PySem.W
/-! ### own exceptions over ArithmeticError, their __init__ walked as a def -/
structure AxC (K : PySem.W.Frag) (C : Addr) : Prop where
  ini : excInitIn K C aeT "ArithmeticError.__new__" = true
  ov : excOver K C aeT = true
  hd : hasDictIn K C = true
  sa : findIn K (.ref C) "__setattr__" = some (some (.builtin "object.__setattr__"))
  exC : subIn K (.ref C) (.type "BaseException") = some true
  tyC : typeIn K (.ref C) = some (.type "type")
  kC : keepIn K (.ref C) = true
section
variable {prog : Program} {w : World} {A : Around} {R : Result → Shared → Prop} {K : PySem.W.Frag} {x C : Addr} {name : Str} {tk : Tok} {v : Value} {hp : Heap} {g : Array GenState} {d : Drawn} {t : Nat} {os : OsState}
/-- the first field: the dict is laid -/
theorem ax_set0 {fv : Array Value} (T : AxC K C) (Y : K.In hp) (hx : hp.get? x = some { cls := .ref C, data := .fields fv }) (ht : takerIn K C name = some none)
    (q : ∀ h' tk' dx, (∀ b o, b ≠ x → hp.get? b = some o → h'.get? b = some o) → hp.objs.size ≤ dx → dx ≠ x → h'.get? x = some { cls := .ref C, dict := some dx, data := .fields fv } → h'.Ns1 dx (fun y => if y = name then some v else none) → R (.ok (.ret .none)) ⟨h', g, d, tk', os⟩) :
    codeAny (model prog w) A (.call (.builtin "object.__setattr__") ⟨[.ref x, .str name tk, v], []⟩) R ⟨hp, g, d, t, os⟩ := by
  refine osa_openX (s := ⟨hp, g, d, t, os⟩) (od := none) PySem.F.store_ArithmeticError Y ⟨hx, rfl, rfl, trivial⟩ T.ov ht fun b => ?_
  obtain ⟨cd, hc, hd'⟩ := any_some T.hd
  have ne : x ≠ hp.objs.size := Nat.ne_of_lt (Heap.lt_size hx)
  have hcl : Looks (model prog w) hp (classData C) cd := looks_clsIn Y hc
  obtain ⟨c1, c2, c3, c4, c5, c6, c7, c8, c9, c10, c11⟩ := cd
  have hd2 : c6 = true := hd'
  subst hd2
  unfold Builtin.ObjectAttr.storeInOwnDict Builtin.ObjectAttr.ownDictForStores
  repeat (first | with_reducible refine HandSPX.store_in_new ?_ ?_ | with_reducible refine wpAny_loadPart_at hx ?_ | with_reducible refine hcl.at ?_ | wp_step)
  · exact ⟨_, #[], _, (Heap.get?_update_ne _ _ _ _ ne.symm).trans (Heap.get?_push_at rfl rfl), rfl, fun e he => absurd he (by simp), fun _ => rfl⟩
  · intro h' tk' n1 sb
    have hx1 : (hp.push { cls := .type "dict", data := .dict #[] }).get? x = some { cls := .ref C, data := .fields fv } := Heap.get?_push_of_some _ hx
    exact q h' tk' hp.objs.size (fun b o hb ho => (sb.2 b (Nat.ne_of_lt (Heap.lt_size ho))).trans ((Heap.get?_update_ne _ _ _ _ hb).trans (Heap.get?_push_of_some _ ho))) (Nat.le_refl _) ne.symm
      ((sb.2 x ne).trans (Heap.get?_update_self _ hx1 rfl)) n1
/-- a later one -/
theorem ax_setD {fv : Array Value} {dx : Addr} {m0 : Str → Option Value} {nl : List Str} (T : AxC K C) (Y : K.In hp) (hx : hp.get? x = some { cls := .ref C, dict := some dx, data := .fields fv }) (hn : hp.Ns1 dx m0) (hw : Within m0 nl) (hz : nl.length ≤ 1000) (ht : takerIn K C name = some none)
    (q : ∀ h' tk', (∀ b o, b ≠ dx → hp.get? b = some o → h'.get? b = some o) → h'.Ns1 dx (fun y => if y = name then some v else m0 y) → R (.ok (.ret .none)) ⟨h', g, d, tk', os⟩) :
    codeAny (model prog w) A (.call (.builtin "object.__setattr__") ⟨[.ref x, .str name tk, v], []⟩) R ⟨hp, g, d, t, os⟩ := by
  obtain ⟨oD, esD, epD, hoD, hdD, _⟩ := hn.count hw
  refine osa_openX (s := ⟨hp, g, d, t, os⟩) (od := some oD) PySem.F.store_ArithmeticError Y ⟨hx, rfl, rfl, hoD⟩ T.ov ht fun b => ?_
  obtain ⟨cd, hc, hd'⟩ := any_some T.hd
  have hcl : Looks (model prog w) hp (classData C) cd := looks_clsIn Y hc
  obtain ⟨c1, c2, c3, c4, c5, c6, c7, c8, c9, c10, c11⟩ := cd
  have hd2 : c6 = true := hd'
  subst hd2
  unfold Builtin.ObjectAttr.storeInOwnDict Builtin.ObjectAttr.ownDictForStores
  repeat (first | with_reducible refine OEX.store_in_old hn hw hz ?_ | with_reducible refine wpAny_loadPart_at hx ?_ | with_reducible refine hcl.at ?_ | wp_step)
  intro h' tk' n1 sb
  exact q h' tk' (fun b o hb ho => (sb.2 b hb).trans ho) n1
end
theorem taker_none {K : PySem.W.Frag} {C : Addr} {f : Str} (h : findIn K (.ref C) f = some none) : takerIn K C f = some none := by
  unfold takerIn
  rw [h]
  rfl
section
variable {X : Cx} {pins : List (Addr × Obj)} {σ : L2.St} {H : Hp} {s : Shared} {a C dx : Addr} {f : Str} {y : V} {u : Value} {fs : List (Str × V)} {Q : Unit → Shared → Prop} {E : Value → Shared → Prop} {A : Around}
theorem ax_new (T : AxC X.K C) (I : L2.Inv X pins σ H s) (ea : H a = some (exo a C none)) (hno : findIn X.K (.ref C) f = some none) (ry : L2.RelV y u)
    (h : ∀ dx s', H dx = none → dx ≠ a → L2.Inv X pins σ (upd (upd H dx (exd dx [(f, y)])) a (exo a C (some dx))) s' → Q () s') : wpAny (model X.prog X.w) A (setAttr (.ref a) f u) Q E s := by
  obtain ⟨t1, oa⟩ := exo_at I.hok ea
  obtain ⟨hp, gg, dr, tt, oo⟩ := s
  refine set_plain I.kIn (ox := { cls := .ref C, dict := none, data := .fields #[.ref t1, .none, .none, .none, .bool false, .none] }) (od := none) ⟨oa, rfl, rfl, trivial⟩ T.sa (ax_set0 T I.kIn oa (taker_none hno) fun h' tk' dx kp dn dne hx hn => ?_)
  have fr : H dx = none := I.hok.fresh dn
  have old : ∀ {b : Addr} {o : Obj}, hp.get? b = some o → b ≠ dx := fun {b o} z => Nat.ne_of_lt (Nat.lt_of_lt_of_le (Heap.lt_size z) dn)
  have nota : ∀ {b : Addr}, H b = none → b ≠ a := fun {b} n z => by
    subst z
    exact absurd (ea.symm.trans n) (by simp)
  refine h dx _ fr dne (I.un (t' := tk') ⟨fun b o z n _ _ => kp b o (nota n) z, fun b o z n _ _ => ⟨o.slots, kp b o (nota n) z⟩, fun b o z n _ => ?_, fun b o z _ => ?_, fun b xs z => ?_, fun b o v z => ?_, fun b ps z => ?_⟩ fun b o z => ?_)
  · rw [upd_ne (nota n), upd_ne (old z), n]
  · by_cases hb : b = a
    · subst hb; exact ⟨_, hx⟩
    · exact ⟨o, kp b o hb z⟩
  · rw [upd_ne (at_ne ea z exo_tup), upd_ne (ne_of_none z fr), z]
  · rw [upd_ne (at_ne ea z exo_frz), upd_ne (ne_of_none z fr), z]
  · refine ⟨#[], ?_⟩
    rw [upd_ne (at_ne ea z exo_tbl), upd_ne (ne_of_none z fr), z]
    simp
  · by_cases hb : b = a
    · subst hb
      rw [upd_same] at z
      cases z
      exact exo_ok hx
    · rw [upd_ne hb] at z
      by_cases hd : b = dx
      · subst hd
        rw [upd_same] at z
        cases z
        exact exd_ok hn (relO_put (fs := []) ry fun _ => trivial)
      · rw [upd_ne hd] at z
        refine (I.hok b o z).stay (fun c v hc r => kp c v ?_ r) (fun c hc => ?_) (fun c xs hc => ?_)
        · rcases hc with hc | hc
          · rw [hc]; exact hb
          · exact at_ne ea hc exo_own
        · rw [upd_ne (at_ne ea hc exo_own), upd_ne (ne_of_none hc fr), hc]
        · rw [upd_ne (at_ne ea hc exo_tup), upd_ne (ne_of_none hc fr), hc]
theorem ax_old (T : AxC X.K C) (I : L2.Inv X pins σ H s) (ea : H a = some (exo a C (some dx))) (ed : H dx = some (exd dx fs)) (hl : fs.length ≤ 900) (hno : findIn X.K (.ref C) f = some none) (ry : L2.RelV y u)
    (h : ∀ s', L2.Inv X pins σ (upd H dx (exd dx ((f, y) :: fs))) s' → Q () s') : wpAny (model X.prog X.w) A (setAttr (.ref a) f u) Q E s := by
  obtain ⟨t1, oa⟩ := exo_at I.hok ea
  obtain ⟨mA, hns, rel⟩ := exd_at I.hok ed
  obtain ⟨hp, gg, dr, tt, oo⟩ := s
  have hw := within_of rel
  obtain ⟨oD, _, _, hoD, _, _⟩ := hns.count hw
  refine set_plain I.kIn (ox := { cls := .ref C, dict := some dx, data := .fields #[.ref t1, .none, .none, .none, .bool false, .none] }) (od := some oD) ⟨oa, rfl, rfl, hoD⟩ T.sa
    (ax_setD T I.kIn oa hns hw (by rw [List.length_map]; omega) (taker_none hno) fun h' tk' kp hn => ?_)
  have there : ∃ o, h'.get? dx = some o := by
    obtain ⟨o, _, _, z, _⟩ := hn
    exact ⟨o, z⟩
  exact h _ (I.write (t' := tk') (x := dx) (e := dx) (o := exd dx ((f, y) :: fs)) (by rw [ed]; trivial) (.inl rfl) kp there (exd_ok hn (relO_put ry rel)))
/-- ArithmeticError.__init__(self, ..) -/
theorem ax_init {us : List Value} {Q : Value → Shared → Prop} (T : AxC X.K C) (I : L2.Inv X pins σ H s) (ea : H a = some (exo a C none)) (hl : us.length ≤ sizeLine) (h : ∀ s', L2.Inv X pins σ H s' → Q .none s') :
    wpAny (model X.prog X.w) A (call (.builtin "ArithmeticError.__init__") (.ref a :: us)) Q E s := by
  obtain ⟨nm, N, qn, bs, bm, hd, sn, sub, ab, col, dd, k0, k1, k2, k3, k5, hC, hT⟩ := excInit_of I.kIn T.ini
  obtain ⟨t1, oa⟩ := exo_at I.hok ea
  obtain ⟨hp, gg, dr, tt, oo⟩ := s
  refine wpAny_call (HandSPX.init_base PySem.F.excBase_ArithmeticError hT hC oa hl fun h' t2 kp hx => ?_)
  have J := I.write (t' := tt) (x := a) (e := a) (o := exo a C none) (by rw [ea]; trivial) (.inl rfl) kp ⟨_, hx⟩ (exo_ok hx)
  have same : upd H a (exo a C none) = H := funext fun b => by
    by_cases hb : b = a
    · subst hb; rw [upd_same, ea]
    · rw [upd_ne hb]
  rw [same] at J
  exact h _ J
end
theorem typ_AE : typeOf (.type "ArithmeticError") = pure (.type "type") := by kernel_rfl
/-! readings and rules -/
def tAxI (K : PySem.W.Frag) (ta : TA) : TE := fun σ H Q => ta σ H fun vs H1 => ∃ (a C : Addr) (ws : List V), vs = .ref a :: ws ∧ ws.length ≤ 1000 ∧ AxC K C ∧ H1 a = some (exo a C none) ∧ Q .non H1
def AxNew (H : Hp) (a C : Addr) (f : Str) (y : V) (R : Hp → Prop) : Prop := ∀ dx H', H dx = none → dx ≠ a → H' a = some (exo a C (some dx)) → H' dx = some (exd dx [(f, y)]) → (∀ b, b ≠ a → b ≠ dx → H' b = H b) → R H'
def AxOld (H : Hp) (a dx : Addr) (fs : List (Str × V)) (f : Str) (y : V) (R : Hp → Prop) : Prop := ∀ H', H' dx = some (exd dx ((f, y) :: fs)) → (∀ b, b ≠ dx → H' b = H b) → R H'
def tAxS (K : PySem.W.Frag) (f : Str) (to te : TE) : TS := fun D σ H => te σ H fun y H1 => to σ H1 fun x H2 => ∃ a C : Addr, x = .ref a ∧ AxC K C ∧ findIn K (.ref C) f = some none ∧
  ((H2 a = some (exo a C none) ∧ AxNew H2 a C f y (D.nx σ)) ∨ ∃ (dx : Addr) (fs : List (Str × V)), H2 a = some (exo a C (some dx)) ∧ H2 dx = some (exd dx fs) ∧ fs.length ≤ 900 ∧ AxOld H2 a dx fs f y (D.nx σ))
section
variable {X : Cx} {o e : Expr} {es : List Expr} {to te : TE} {ta : TA} {f : Str} {p p' p1 p2 pos : Pos}
theorem pe_axI {pl : Sem Bool} (hm : X.mg "ArithmeticError" = none) (vV : findCls X.K (.type "ArithmeticError") (.type "type") "__init__" = some (.val (.builtin "ArithmeticError.__init__"))) (ha : PA X (e :: es) ta) (hg : Gl X "ArithmeticError" := by rfl)
    (hc : eval (.Call (.Attribute (.Name "ArithmeticError" p1) "__init__" p2) (e :: es) [] pos) X.env = (do
      let ov ← eval (.Name "ArithmeticError" p1) X.env
      standAt p2.atName
      let (f, first) ← holding [ov] (getMethod ov "__init__" pl)
      callWith pos f first (backTo pos (starEach (e :: es) X.env)) (backToKw pos (keywordEach [] X.env))) := by rfl)
    (he : starEach (e :: es) X.env = (false, eval e X.env) :: starEach es X.env := by rfl) (hpl : (backTo pos (starEach es X.env)).any (·.1) = false := by rfl) :
    PE X (.Call (.Attribute (.Name "ArithmeticError" p1) "__init__" p2) (e :: es) [] pos) (tAxI X.K ta) := by
  refine ⟨fun pins s σ H Q I h => methodCall_KW (ld_blt I hg hm PyProof.Rows.Boot.«ArithmeticError» ?_ (by decide) (by decide)) hc⟩
  obtain ⟨m, fr⟩ := I.fr
  refine method_type fr I.ok.mod.kin typ_AE (by decide +kernel) vV (by decide +kernel) ?_
  show wpAny _ _ (callWith pos (Value.builtin "ArithmeticError.__init__") [] (backTo pos (starEach (e :: es) X.env)) []) _ _ _
  refine PyProof.Rows.callWith_method1 (thn (ha.run pos pins _ σ H _ (I.tok _) h) fun us s1 ⟨vs, H1, I1, r1, a, C, ws, ev, hl, T, ea, q⟩ => ?_) he hpl
  subst ev
  cases r1 with
  | @cons _ u0 _ ur ra rr =>
    cases (show u0 = Value.ref a from ra)
    have n := Paired.length rr
    exact ax_init T I1 ea (by rw [← n, sizeLine_eq]; omega) fun s' J => ⟨.non, H1, J, rfl, q⟩
theorem ps_axS (ho : PE X o to) (he : PE X e te) (hs : swapsWith e (some (.Attribute o f p')) pos.line X.env = pure false := by rfl) : PS X (.Assign [.Attribute o f p'] e pos) (tAxS X.K f to te) := by
  refine ⟨fun pins s σ H D I h => plainObj_wpAny_Assign_Attribute (thn (he.run pins s σ H _ I h) fun v s1 ⟨y, H1, I1, r1, q1⟩ => thn (ho.run pins s1 σ H1 _ I1 q1) fun u s2 ⟨x, H2, I2, r2, a, C, ex, T, hno, q⟩ => ?_) hs⟩
  subst ex
  cases (show u = Value.ref a from r2)
  rcases q with ⟨ea, q⟩ | ⟨dx, fs, ea, ed, hl, q⟩
  · exact ax_new T I2 ea hno r1 fun dx s' n ne J => ⟨σ, _, J, q dx _ n ne upd_same ((upd_ne ne).trans upd_same) fun b b1 b2 => (upd_ne b1).trans (upd_ne b2)⟩
  · exact ax_old T I2 ea ed hl hno r1 fun s' J => ⟨σ, _, J, q _ upd_same fun b b1 => upd_ne b1⟩
/-- C(..) of such a class -/
theorem pmk_ax {CX : CXT} {x : Str} {C fI : Addr} {k : Nat} {fd : FuncData} {ps : List Str} {sp : Sp} {ds : List Value} {dvs : List V} (T : AxC X.K C) (iC : findIn X.K (.ref C) "__init__" = some (some (.ref fI))) (tI : typeIn X.K (.ref fI) = some (.type "function"))
    (F1 : FnOk X.prog X.w X.K X.mg X.base CX k fI fd ps sp) (hr : Room (k + 1) X.A) (hb : Binds X.K fd ps ds) (hd : Vals dvs ds) (hx : Passes CX X (fun _ _ _ => False)) (hm : X.mg x = some (.ref C)) (ha : PA X (e :: es) ta) (hg : Gl X x := by rfl)
    (hdb : (x == ("__debug__" : Str)) = false := by decide) (he : starEach (e :: es) X.env = (false, eval e X.env) :: starEach es X.env := by rfl) (hpl : (backTo pos (starEach es X.env)).any (·.1) = false := by rfl) :
    PMk X (.Call (.Name x p) (e :: es) [] pos) (tMkO C sp dvs ta) := by
  intro pins s σ H Q I h
  refine wpAny_Call_Name_kw (ld_glob I hg hm ?_ hdb)
  refine callWith_K (h₀ := X.base) I.ok.mod.kin T.kC (thn (ha.run pos pins s σ H _ I h) fun us s1 ⟨vs, H1, I1, r1, hz, q1⟩ => ⟨I1.kIn, ?_⟩) he hpl
  show wpAny _ _ (call (.ref C) us) _ _ _
  obtain ⟨hp, gg, dr, tk, oo⟩ := s1
  obtain ⟨nm, N, qn, bs, bm, hdc, sn, sub, ab, col, dd, k0, k1, k2, k3, k5, hC, hT⟩ := excInit_of I1.kIn T.ini
  have le1 : hp.objs.size ≤ hp.objs.size + 1 := Nat.le_succ _
  have free1 : H1 (hp.objs.size + 1) = none := I1.hok.fresh le1
  have todo := q1 (hp.objs.size + 1) free1
  have kp : ∀ b o, hp.get? b = some o → ((hp.push (kdv_tup us)).push (HandSPX.excO C hp.objs.size)).get? b = some o := fun b o z => Heap.get?_push_of_some _ (Heap.get?_push_of_some _ z)
  have at1 : ((hp.push (kdv_tup us)).push (HandSPX.excO C hp.objs.size)).get? (hp.objs.size + 1) = some (HandSPX.excO C hp.objs.size) := by heap_get
  have I2 := I1.laid (t' := tk) (a := hp.objs.size + 1) (o := exo (hp.objs.size + 1) C none) (h' := (hp.push (kdv_tup us)).push (HandSPX.excO C hp.objs.size)) kp le1 (exo_ok at1)
  have rels : Vals (V.ref (hp.objs.size + 1) :: (vs ++ dvs)) (Value.ref (hp.objs.size + 1) :: (us ++ ds)) := .cons rfl (r1.append hd)
  have len : (Value.ref (hp.objs.size + 1) :: us ++ ds).length = ps.length := by
    have z := rels.length
    rw [F1.len _ _ _ _ todo] at z
    exact z.symm
  have lus : us.length ≤ sizeLine := by
    have z := Paired.length r1
    rw [sizeLine_eq]
    omega
  have fun1 := F1.run _ X.stack _ _ ⟨Value.ref (hp.objs.size + 1) :: us, []⟩ (Value.ref (hp.objs.size + 1) :: (us ++ ds)) _ _ (fun _ _ _ => False) (hr.make C us []) (I2.env0.make C us []) (hb _ (Value.ref (hp.objs.size + 1) :: us) I2.kIn len) rels todo
  refine wpAny_call (HandSPX.call_own PySem.F.excBase_ArithmeticError hT hC (looks_findIn I1.kIn iC) (fun self => bind_fn I1.kIn self tI) lus (codeAny_mono fun1 fun r s' z => ?_))
  cases r with
  | error er => exact hx pins σ _ _ er s' I2 z
  | ok fl =>
    cases fl
    case ret u =>
      obtain ⟨v, H2, os2, bare2, un2, hok2, rv, ev, d, fs, ea, ed, hd1, q2⟩ := z
      subst ev
      obtain ⟨h2, g2, d2, t2, o2⟩ := s'
      exact ⟨rv, mk_end (raises_own T.exC T.tyC) I1 le1 kp un2 hok2 os2 bare2 ea ed hd1 q2⟩
    all_goals exact False.elim z
end
end Up

set_option Elab.async false
set_option linter.all false
set_option pp.maxSteps 600
set_option maxRecDepth 100000
set_option maxHeartbeats 4000000
namespace Up
open PySem PySem.Spec PyProof.Rows L2 LamX
/-! ### lambdas without parameters that are handed to a def -/
section
variable {P : Program} {w : World} {K : PySem.W.Frag} {mg : Str → Option Value} {base : Heap} {x qual : Str} {params : Arguments} {body : List Stmt} {scope : Scope} {dvs : List V} {kws : List (Str × V)} {f : Addr} {fd : FuncData}
/-- F.ok for a def whose code object is known -/
theorem FunD_okC {CX : CXT} {N ps : List Str} {k : Nat} {sp : Sp} {c : Addr} (F : FunD K x qual params body scope dvs kws f fd) (hc : fd.code = .ref c) (S : FnScope N ps scope) (len : ∀ vs H Q E, sp vs H Q E → vs.length = ps.length)
    (hbody : ∀ (A : Around) (outer : List Env) (s : Shared) (H : Hp) (vs : List V) (Q : VK) (E : XK), Room k (A.deeper (envOfC qual scope s.heap.objs.size f (.ref c))) → sp vs H Q E →
      ∃ t, PSs (cxOf CX P w K mg base N qual scope f (.ref c) A outer s H E) body t ∧ t { nx := fun _ H' => Q .non H', rt := Q } (start N vs) H) : FnOk P w K mg base CX (k + 1) f fd ps sp := by
  obtain ⟨oc, od, dV, kV, doc, pm, an, cdv, ct, osl, rfl, lk, hcd, _, _⟩ := F.ex
  have e : cdv = .ref c := hc
  subst e
  exact fn_of lk hcd S len fun A outer s H vs Q E hr hsp => hbody A outer s H vs Q E hr hsp
/-- the code object of a def, as the head tells it -/
theorem code_of {p : Str × Option Str} (F : FunD K x qual params body scope dvs kws (He.fAd K p) fd) : fd.code = .ref (He.codeOf K p) := by
  obtain ⟨oc, od, dV, kV, doc, pm, an, cdv, ct, osl, rfl, lk, hcd, _, _⟩ := F.ex
  obtain ⟨c, rfl⟩ := He.codeIn_ref hcd
  rw [He.codeOf_eq (c := c) lk rfl]
end
/-- what a lambda lets out -/
theorem lam_pass {X : Cx} {A : Around} {outer : List Env} {s : Shared} {H : Hp} {E : XK} {scope : Scope} {f c' : Addr} : Passes (L2.CX X.prog X.w) (lamCx X A outer s H E scope f c') E :=
  passes_call (takes_of rfl rfl rfl rfl) fun _ _ _ _ h => h
theorem Takes.len {X : Cx} {W : WX} (t : Takes X W) : Takes X (fun cls d σ H => σ.length = X.N.length → W cls d σ H) := fun u s' ⟨a, B, sI, pins, σ, H, cls, d, e, I, nb, up, sky, na, os, ag, w⟩ =>
  t u s' ⟨a, B, sI, pins, σ, H, cls, d, e, I, nb, up, sky, na, os, ag, w I.len⟩
/-- x(lambda: body) -/
theorem pe_lam {X : Cx} {T : List (Addr × Str)} {TT : (XK → Hp → VK → Prop) → Hp → VK → Prop} {x a : Str} {g c P : Addr} {k : Nat} {pg : Arguments} {bg : List Stmt} {sg : Scope} {Ng : List Str} {fdg : FuncData}
    {params : Arguments} {body : Expr} {scope : Scope} {t : XK → TE} {p lpos pos : Pos} (Fg : FunD X.K x x pg bg sg [] [] g fdg) (hm : X.mg x = some (.ref g)) (hb : L2.Binds X.K fdg [a] []) (Sg : FnScope Ng [a] sg) (hNg : Ng[0]? = some a) (hva : Vis sg a)
    (hG : ∀ cdg, GivesTo X Ng x sg g cdg bg a (X.env.qual ++ "<lambda>") TT) (TB : TabB X.base X.mg c P) (hcode : X.env.code = .ref c) (hmT : (P, X.env.qual ++ "<lambda>") ∈ T) (hu : ∀ p ∈ T, p.1 = P → p.2 = X.env.qual ++ "<lambda>") (hr : Room (k + 2) X.A)
    (L : LamS X.env.scope scope) (hbody : ∀ (A : Around) (outer : List Env) (s : Shared) (H : Hp) (E : XK) (f c' : Addr), Room k (A.deeper (lamEnv X scope s.heap.objs.size f c')) → PE (lamCx X A outer s H E scope f c') body (t E))
    (hg : Gl X x := by rfl) (hdef : defaultsOf params X.env = ([], []) := by rfl) (hbind : ∀ (q : Str) (cl : List (Str × Addr)) (pm cv ctv : Value), bindArgs (PySem.W.kla_fn "<lambda>" q params body scope cl pm cv ctv) ⟨[], []⟩ = pure [] := by intros; rfl)
    (hdb : (x == ("__debug__" : Str)) = false := by decide) (hd : (a == ("__debug__" : Str)) = false := by decide) (hcd : (a == ("__classdict__" : Str)) = false := by decide) :
    PE X (.Call (.Name x p) [.Lambda params body scope lpos] [] pos) (tLam T TT t) := by
  obtain ⟨oc, od, dV, kV, doc, pm, an, cdv, ct, osl, rfl, lk, hcd2, _, _⟩ := Fg.ex
  exact pe_lamcall hg hm Fg.kp lk hcd2 hb Sg hNg hva (hG cdv) TB hcode hmT hu hr L hdef hbind hbody hdb hd hcd
theorem g_lam {T : List (Addr × Str)} {TT : (XK → Hp → VK → Prop) → Hp → VK → Prop} {t : XK → TE} {σ : L2.St} {H : Hp} {Q : VK} (hT : Tabs T H) (h : ∀ H1, ExtN H H1 → Tabs T H1 → TT (fun E H' Q' => t E σ H' Q') H1 Q) : tLam T TT t σ H Q := ⟨hT, h⟩
end Up

set_option Elab.async false
set_option linter.all false
set_option maxRecDepth 100000
set_option maxHeartbeats 4000000
namespace Up
open PySem PySem.Spec PyProof.Rows L2
/-! ### the source of draws: a list of three ints that each draw changes -/
def Well (H : Hp) (w : Addr) : Prop := ∃ a b c : Int, H w = some (.lst [.int a, .int b, .int c]) ∧ 0 ≤ a ∧ 0 ≤ b ∧ b < 2147483647 ∧ 0 ≤ c
/-- all but the list at w stands -/
def Stp (w : Addr) (H H' : Hp) : Prop := ∀ b o, b ≠ w → H b = some o → H' b = some o
theorem Stp.refl (w : Addr) (H : Hp) : Stp w H H := fun _ _ _ h => h
theorem Stp.trans {w : Addr} {H H1 H2 : Hp} (a : Stp w H H1) (b : Stp w H1 H2) : Stp w H H2 := fun c o n h => b c o n (a c o n h)
theorem Stp.of {w : Addr} {H H' : Hp} (s : Same H H') : Stp w H H' := fun b o _ h => s b o h
theorem Well.same {w : Addr} {H H' : Hp} (h : Well H w) (s : Same H H') : Well H' w := by
  obtain ⟨a, b, c, h, r⟩ := h
  exact ⟨a, b, c, s _ _ h, r⟩
theorem Well.ne_none {w p : Addr} {H : Hp} (h : Well H w) (n : H p = none) : p ≠ w := by
  obtain ⟨a, b, c, h, _⟩ := h
  exact fun z => by rw [z, h] at n; cases n
/-- a place that holds no list -/
theorem Well.ne {w p : Addr} {H : Hp} {o : HO} (h : Well H w) (e : H p = some o) (n : ∀ xs, o ≠ .lst xs) : p ≠ w := by
  obtain ⟨a, b, c, h, _⟩ := h
  exact fun z => by
    rw [z, h] at e
    exact n _ (Option.some.inj e).symm
theorem Stp.ins {w p C dx : Addr} {H H' : Hp} {fs : List (Str × V)} (s : Stp w H H') (h : Well H w) (e : H p = some (.ins C dx fs)) : H' p = some (.ins C dx fs) := s _ _ (h.ne e fun _ z => by cases z) e
theorem Stp.free {w p : Addr} {H H' : Hp} (s : Stp w H H') (h : Well H' w) (e : H' p = none) : H p = none := by
  cases q : H p with
  | none => rfl
  | some o =>
    have n : p ≠ w := h.ne_none e
    rw [s p o n q] at e
    cases e
end Up

set_option Elab.async false
set_option linter.all false
set_option pp.maxSteps 600
set_option maxRecDepth 100000
set_option maxHeartbeats 4000000
set_option exponentiation.threshold 200000
namespace Up
open PySem PySem.Spec PyProof.Rows L2 LamX
/-! ### a heap of many tables, told by their addresses (for the laws about events and collections) -/
section
variable {C D N : Addr} {H H' H1 : Hp} {a : Addr} {num me : V} {F F' : Fp} {t t' : Tb Ky} {f : Addr → Int}
def Kq (D N : Addr) (H H' : Hp) : Prop := ∀ b c dx fs, c ≠ N → H b = some (.ins c dx fs) → ∃ dx' fs', H' b = some (.ins c dx' fs') ∧ (c ≠ D → dx' = dx ∧ fs' = fs) ∧ fs'.lookup ("number" : Str) = fs.lookup ("number" : Str)
theorem Kq.refl : Kq D N H H := fun b c dx fs _ e => ⟨dx, fs, e, fun _ => ⟨rfl, rfl⟩, rfl⟩
theorem Kq.trans {H1 H2 : Hp} (h : Kq D N H H1) (h2 : Kq D N H1 H2) : Kq D N H H2 := fun b c dx fs hc e => by
  obtain ⟨dx1, fs1, e1, p1, q1⟩ := h b c dx fs hc e
  obtain ⟨dx2, fs2, e2, p2, q2⟩ := h2 b c dx1 fs1 hc e1
  exact ⟨dx2, fs2, e2, fun z => ⟨(p2 z).1.trans (p1 z).1, (p2 z).2.trans (p1 z).2⟩, q2.trans q1⟩
theorem Kq.same (s : Same H H') : Kq D N H H' := fun b c dx fs _ e => ⟨dx, fs, s _ _ e, fun _ => ⟨rfl, rfl⟩, rfl⟩
/-- one object that is no instance -/
theorem Kq.one {p : Addr} {o : HO} (hp : H p = some o) (ho : ∀ c dx fs, o ≠ .ins c dx fs) (s : ∀ b, b ≠ p → H' b = H b) : Kq D N H H' := fun b c dx fs _ e => ⟨dx, fs, by
  rw [s b (fun z => by rw [z, hp] at e; injection e with e; exact ho _ _ _ e)]; exact e, fun _ => ⟨rfl, rfl⟩, rfl⟩
theorem Kq.stp {p : Addr} {o : HO} (hp : H p = some o) (ho : ∀ c dx fs, o ≠ .ins c dx fs) (s : Stp p H H') : Kq D N H H' := fun b c dx fs _ e => ⟨dx, fs, s _ _ (fun z => by rw [z, hp] at e; injection e with e; exact ho _ _ _ e) e, fun _ => ⟨rfl, rfl⟩, rfl⟩
theorem Kq.put {F' : Fp} (h : TbAt D N H a num me F t) (h' : TbAt D N H' a num me F' t') (fr : Frm a F H H') : Kq D N H H' := fun b c dx fs hc e => by
  by_cases hb : b = a
  · obtain ⟨dx1, e1⟩ := h.obj
    obtain ⟨dx2, e2⟩ := h'.obj
    rw [hb, e1] at e
    injection e with e
    injection e with c1 c2 c3
    refine ⟨dx2, _, by rw [hb, e2, ← c1], fun z => absurd c1.symm z, by rw [← c3]; rfl⟩
  · exact ⟨dx, fs, fr _ _ (h.out e hc hb) e, fun _ => ⟨rfl, rfl⟩, rfl⟩
theorem Kq.ins (h : Kq D N H H') {b c dx : Addr} {fs : List (Str × V)} (hN : c ≠ N) (hD : c ≠ D) (e : H b = some (.ins c dx fs)) : H' b = some (.ins c dx fs) := by
  obtain ⟨dx2, fs2, e2, p, _⟩ := h b c dx fs hN e
  obtain ⟨rfl, rfl⟩ := p hD
  exact e2
theorem KyAt.kq (L : Cl3 C D N) (h : Kq D N H H') {v : V} {k : Ky} (hk : KyAt C D H v k) : KyAt C D H' v k := by
  obtain ⟨x, no⟩ := k
  obtain ⟨h1, h2⟩ := hk
  refine ⟨?_, fun b e => ?_⟩
  · cases x with
    | num n =>
      cases n with
      | i j => exact h1
      | f s' tt p =>
        obtain ⟨⟨b, rfl, ⟨dx1, hf⟩, ok⟩, o⟩ := h1
        exact ⟨⟨b, rfl, ⟨dx1, h.ins L.cn L.cd hf⟩, ok⟩, o⟩
    | obj b =>
      obtain ⟨e, dx1, fs, hb⟩ := h1
      obtain ⟨dx2, fs2, e2, _⟩ := h _ _ _ _ L.dn hb
      exact ⟨e, dx2, fs2, e2⟩
    | non => exact h1
    | bl _ => exact h1
    | str _ => exact h1
  · obtain ⟨dx1, fs, e1, e2⟩ := h2 b e
    obtain ⟨dx2, fs2, e3, _, e4⟩ := h _ _ _ _ L.dn e1
    exact ⟨dx2, fs2, e3, e4.trans e2⟩
theorem TbAt.keep (h : TbAt D N H a num me F t) (s : ∀ x o, F.In a x → H x = some o → H' x = some o) : TbAt D N H' a num me F t := by
  have inn := fun c (hc : V.ref c ∈ F.vs) => h.inN hc
  obtain ⟨⟨dx, h1⟩, h2, h3, h4, h5, h6, h7⟩ := h
  refine ⟨⟨dx, s _ _ (.inl rfl) h1⟩, s _ _ (.inr (.inl rfl)) h2, s _ _ (.inr (.inr (.inl rfl))) h3, h4, fun i v e => ?_, h6, h7⟩
  have hv := h5 i v e
  cases en : nd t.nds i with
  | none => rw [en] at hv; exact hv
  | some x =>
    rw [en] at hv
    obtain ⟨b, dx2, rfl, hb⟩ := hv
    exact ⟨b, dx2, rfl, s _ _ (.inr (.inr (.inr (List.mem_of_getElem? e)))) hb⟩
theorem TbS.keep (L : Cl3 C D N) (h : TbS C D N H a num me F t) (kq : Kq D N H H') (s : ∀ x o, F.In a x → H x = some o → H' x = some o) : TbS C D N H' a num me F t :=
  ⟨h.at_.keep s, h.wf, fun i x e => ⟨(h.keys i x e).1.kq L kq, (h.keys i x e).2⟩, h.sa, h.sn⟩
/-- one table -/
structure Tn where
  num : V
  me : V
  F : Fp
  t : Tb Ky
abbrev Wm := Addr → Option Tn
def updW (W : Wm) (a : Addr) (e : Tn) : Wm := fun b => if b = a then some e else W b
theorem updW_same {W : Wm} {a : Addr} {e : Tn} : updW W a e a = some e := if_pos rfl
theorem updW_ne {W : Wm} {a b : Addr} {e : Tn} (h : b ≠ a) : updW W a e b = W b := if_neg h
theorem updW_of {W : Wm} {a b : Addr} {e e2 : Tn} (h : updW W a e b = some e2) : (b = a ∧ e2 = e) ∨ (b ≠ a ∧ W b = some e2) := by
  by_cases q : b = a
  · subst q
    rw [updW_same] at h
    cases h
    exact .inl ⟨rfl, rfl⟩
  · rw [updW_ne q] at h
    exact .inr ⟨q, h⟩
/-- tables of code objects stay where all but instances and lists stay -/
def Kx (H H' : Hp) : Prop := ∀ b o, H b = some o → (∀ c dx fs, o ≠ .ins c dx fs) → (∀ xs, o ≠ .lst xs) → H' b = some o
theorem tabs_keep {T : List (Addr × Str)} (t : Tabs T H) (s : Kx H H') : Tabs T H' := fun p hp => by
  obtain ⟨ps, h1, h2, h3⟩ := t p hp
  refine ⟨ps, s _ _ h1 (fun _ _ _ z => nomatch z) (fun _ z => nomatch z), h2, fun pos cv hc => ?_⟩
  obtain ⟨c, e1, e2⟩ := h3 pos cv hc
  exact ⟨c, e1, s _ _ e2 (fun _ _ _ z => by unfold CodeO at z; cases z) (fun _ z => by unfold CodeO at z; cases z)⟩
theorem Kx.put (h : TbAt D N H a num me F t) (fr : Frm a F H H') : Kx H H' := fun b o e h1 h2 => fr _ _ (fun z => by
  rcases z with z | z | z | z
  · obtain ⟨dx, e1⟩ := h.obj
    rw [z, e1] at e; injection e with e; exact h1 _ _ _ e.symm
  · have e1 := h.arr
    rw [z, e1] at e; injection e with e; exact h2 _ e.symm
  · have e1 := h.lst
    rw [z, e1] at e; injection e with e; exact h2 _ e.symm
  · obtain ⟨_, _, dx, _, _, e1⟩ := h.inN z
    rw [e1] at e; injection e with e; exact h1 _ _ _ e.symm) e
theorem Kx.one {p : Addr} {xs : List V} (hp : H p = some (.lst xs)) (s : ∀ b, b ≠ p → H' b = H b) : Kx H H' := fun b o e _ h2 => by
  rw [s b (fun z => by rw [z, hp] at e; injection e with e; exact h2 _ e.symm)]; exact e
theorem Kx.stp {p : Addr} {xs : List V} (hp : H p = some (.lst xs)) (s : Stp p H H') : Kx H H' := fun b o e _ h2 => s _ _ (fun z => by rw [z, hp] at e; injection e with e; exact h2 _ e.symm) e
theorem Kq.ext (x : ExtN H H') : Kq D N H H' := fun b c dx fs _ e => ⟨dx, fs, x _ _ e (fun ps z => nomatch z), fun _ => ⟨rfl, rfl⟩, rfl⟩
/-- tables, apart from one another, and objects that are none of theirs -/
structure Wo (C D N : Addr) (T : List (Addr × Str)) (f : Addr → Int) (H : Hp) (W : Wm) (ls : List (Addr × HO)) : Prop where
  ts : ∀ (a : Addr) (e : Tn), W a = some e → TbS C D N H a e.num e.me e.F e.t
  M : ∀ (a : Addr) (e : Tn), W a = some e → TMp f e.t
  dis : ∀ (a b : Addr) (e e' : Tn), W a = some e → W b = some e' → a ≠ b → ∀ x, e.F.In a x → ¬ e'.F.In b x
  hls : ∀ p ∈ ls, H p.1 = some p.2
  out : ∀ (a : Addr) (e : Tn), W a = some e → ∀ p ∈ ls, ¬ e.F.In a p.1
  nt : ∀ p ∈ ls, ∀ ps, p.2 ≠ .tbl ps
  tb : Tabs T H
section
variable {W : Wm} {ls : List (Addr × HO)} {T : List (Addr × Str)}
theorem Wo.nil (tb : Tabs T H) : Wo C D N T f H (fun _ => none) [] where
  ts := fun i e z => by cases z
  M := fun i e z => by cases z
  dis := fun i j e e' z => by cases z
  hls := fun p hp => nomatch hp
  out := fun i e z => by cases z
  nt := fun p hp => nomatch hp
  tb := tb
theorem Wo.same (h : Wo C D N T f H W ls) (s : Same H H') : Wo C D N T f H' W ls := ⟨fun i e z => (h.ts i e z).same s, h.M, h.dis, fun p hp => s _ _ (h.hls p hp), h.out, h.nt, h.tb.ext s⟩
/-- fewer objects -/
theorem Wo.less {ls' : List (Addr × HO)} (h : Wo C D N T f H W ls) (s : ∀ p ∈ ls', p ∈ ls) : Wo C D N T f H W ls' := ⟨h.ts, h.M, h.dis, fun p hp => h.hls p (s p hp), fun a e z p hp => h.out a e z p (s p hp), fun p hp => h.nt p (s p hp), h.tb⟩
/-- a lambda is made -/
theorem Wo.ext (L : Cl3 C D N) (h : Wo C D N T f H W ls) (x : ExtN H H') (tb : Tabs T H') : Wo C D N T f H' W ls := by
  refine ⟨fun a e z => ?_, h.M, h.dis, fun p hp => x _ _ (h.hls p hp) (h.nt p hp), h.out, h.nt, tb⟩
  have ta := h.ts a e z
  refine ta.keep L (Kq.ext x) fun b o hb eo => x _ _ eo fun ps z => ?_
  rcases hb with y | y | y | y
  · obtain ⟨dx, e1⟩ := ta.at_.obj
    rw [y, e1] at eo; injection eo with eo; rw [← eo] at z; cases z
  · have e1 := ta.at_.arr
    rw [y, e1] at eo; injection eo with eo; rw [← eo] at z; cases z
  · have e1 := ta.at_.lst
    rw [y, e1] at eo; injection eo with eo; rw [← eo] at z; cases z
  · obtain ⟨_, _, dx, _, _, e1⟩ := ta.at_.inN y
    rw [e1] at eo; injection eo with eo; rw [← eo] at z; cases z
theorem Wo.notab (h : Wo C D N T f H W ls) {l : Addr} {o : HO} (e : H l = some o) (ho : ∀ c dx fs, o ≠ .ins c dx fs) (hl : ∀ xs, o ≠ .lst xs) {a : Addr} {y : Tn} (hy : W a = some y) : ¬ y.F.In a l := fun z => by
  have ta := (h.ts a y hy).at_
  rcases z with z | z | z | z
  · obtain ⟨dx, e1⟩ := ta.obj
    rw [z, e1] at e; injection e with e; exact ho _ _ _ e.symm
  · have e1 := ta.arr
    rw [z, e1] at e; injection e with e; exact hl _ e.symm
  · have e1 := ta.lst
    rw [z, e1] at e; injection e with e; exact hl _ e.symm
  · obtain ⟨_, _, dx, _, _, e1⟩ := ta.inN z
    rw [e1] at e; injection e with e; exact ho _ _ _ e.symm
/-- an object more -/
theorem Wo.add (h : Wo C D N T f H W ls) {l : Addr} {o : HO} (n : H l = none) (s : Same H H') (e : H' l = some o) (no : ∀ ps, o ≠ .tbl ps := by intro ps z; cases z) : Wo C D N T f H' W ((l, o) :: ls) := by
  have h2 := h.same s
  refine ⟨h2.ts, h2.M, h2.dis, fun p hp => ?_, fun i e hi p hp => ?_, fun p hp => ?_, h2.tb⟩
  · rcases List.mem_cons.mp hp with rfl | hp
    · exact e
    · exact h2.hls p hp
  · rcases List.mem_cons.mp hp with rfl | hp
    · exact (h.ts i e hi).at_.out_fresh n
    · exact h2.out i e hi p hp
  · rcases List.mem_cons.mp hp with rfl | hp
    · exact no
    · exact h2.nt p hp
/-- one of the objects, a list, is changed -/
theorem Wo.chg {l : Addr} {xs xs' : List V} (L : Cl3 C D N) (h : Wo C D N T f H W ((l, .lst xs) :: ls)) (nl : ∀ p ∈ ls, p.1 ≠ l) (e : H' l = some (.lst xs')) (s : ∀ b, b ≠ l → H' b = H b) : Wo C D N T f H' W ((l, .lst xs') :: ls) := by
  have hl : H l = some (.lst xs) := h.hls _ List.mem_cons_self
  have kq : Kq D N H H' := Kq.one hl (fun c dx fs z => nomatch z) s
  refine ⟨fun i e hi => (h.ts i e hi).keep L kq fun x o hx ex => ?_, h.M, h.dis, fun p hp => ?_, fun i e hi p hp => ?_, fun p hp => ?_, tabs_keep h.tb (Kx.one hl s)⟩
  · rw [s x (fun z => h.out i e hi _ List.mem_cons_self (by rw [z] at hx; exact hx))]; exact ex
  · rcases List.mem_cons.mp hp with rfl | hp
    · exact e
    · rw [s _ (nl p hp)]; exact h.hls p (List.mem_cons_of_mem _ hp)
  · rcases List.mem_cons.mp hp with rfl | hp
    · exact h.out i e hi (l, .lst xs) List.mem_cons_self
    · exact h.out i e hi p (List.mem_cons_of_mem _ hp)
  · rcases List.mem_cons.mp hp with rfl | hp
    · exact fun ps z => nomatch z
    · exact h.nt p (List.mem_cons_of_mem _ hp)
/-- the well is drawn from -/
theorem Wo.stp {l : Addr} {xs xs' : List V} (L : Cl3 C D N) (h : Wo C D N T f H W ((l, .lst xs) :: ls)) (nl : ∀ p ∈ ls, p.1 ≠ l) (e : H' l = some (.lst xs')) (s : Stp l H H') : Wo C D N T f H' W ((l, .lst xs') :: ls) := by
  have hl : H l = some (.lst xs) := h.hls _ List.mem_cons_self
  have kq : Kq D N H H' := Kq.stp hl (fun c dx fs z => nomatch z) s
  refine ⟨fun i e hi => (h.ts i e hi).keep L kq fun x o hx ex => ?_, h.M, h.dis, fun p hp => ?_, fun i e hi p hp => ?_, fun p hp => ?_, tabs_keep h.tb (Kx.stp hl s)⟩
  · exact s _ _ (fun z => h.out i e hi _ List.mem_cons_self (by rw [z] at hx; exact hx)) ex
  · rcases List.mem_cons.mp hp with rfl | hp
    · exact e
    · exact s _ _ (nl p hp) (h.hls p (List.mem_cons_of_mem _ hp))
  · rcases List.mem_cons.mp hp with rfl | hp
    · exact h.out i e hi (l, .lst xs) List.mem_cons_self
    · exact h.out i e hi p (List.mem_cons_of_mem _ hp)
  · rcases List.mem_cons.mp hp with rfl | hp
    · exact fun ps z => nomatch z
    · exact h.nt p (List.mem_cons_of_mem _ hp)
/-- a deed at one of the tables -/
theorem Wo.deed (L : Cl3 C D N) (h : Wo C D N T f H W ls) {e : Tn} (hi : W a = some e) {t' : Tb Ky} (M' : TMp f t') (l : Left C D N a e.num e.me e.F H H' t') : ∃ F', Wo C D N T f H' (updW W a { e with F := F', t := t' }) ls ∧ Kq D N H H' ∧ Frm a e.F H H' := by
  obtain ⟨F', ts, fr, fs⟩ := l
  have te := h.ts a e hi
  have kq := Kq.put te.at_ ts.at_ fr
  have ap : ∀ (j : Addr) (e2 : Tn), W j = some e2 → j ≠ a → ∀ x, F'.In a x → ¬ e2.F.In j x := fun j e2 hj q x hx hy => by
    rcases fs x hx with z | z
    · exact h.dis a j e e2 hi hj (fun z => q z.symm) x z hy
    · obtain ⟨o, eo⟩ := (h.ts j e2 hj).at_.inS hy
      rw [z] at eo; cases eo
  refine ⟨F', ⟨fun j e2 z => ?_, fun j e2 z => ?_, fun j k e2 e3 z z3 ne x hx => ?_, fun p hp => ?_, fun j e2 z p hp => ?_, h.nt, tabs_keep h.tb (Kx.put te.at_ fr)⟩, kq, fr⟩
  · rcases updW_of z with ⟨rfl, rfl⟩ | ⟨q, hj⟩
    · exact ts
    · exact (h.ts j e2 hj).keep L kq fun x o hx ex => fr _ _ (fun y => h.dis a j e e2 hi hj (fun z => q z.symm) x y hx) ex
  · rcases updW_of z with ⟨rfl, rfl⟩ | ⟨q, hj⟩
    · exact M'
    · exact h.M j e2 hj
  · rcases updW_of z with ⟨rfl, rfl⟩ | ⟨q, hj⟩
    · rcases updW_of z3 with ⟨rfl, _⟩ | ⟨q3, hk⟩
      · exact absurd rfl ne
      · exact ap k e3 hk q3 x hx
    · rcases updW_of z3 with ⟨rfl, rfl⟩ | ⟨q3, hk⟩
      · exact fun y => ap j e2 hj q x y hx
      · exact h.dis j k e2 e3 hj hk ne x hx
  · exact fr _ _ (h.out a e hi p hp) (h.hls p hp)
  · rcases updW_of z with ⟨rfl, rfl⟩ | ⟨q, hj⟩
    · intro y
      rcases fs p.1 y with y | y
      · exact h.out j e hi p hp y
      · rw [h.hls p hp] at y; cases y
    · exact h.out j e2 hj p hp
/-- a put -/
theorem Wo.put (L : Cl3 C D N) (h : Wo C D N T f H W ls) {e : Tn} (hi : W a = some e) {v u : V} {k : Ky} {Q : VK} {E : XK} (hk : KyAt C D H v k) (hn : k.x ≠ .non) (hna : isNanA k.x = false) (kg : KG (plK k)) (no : NoOk f (plK k)) (hl : Up.lv e.t < 4000)
    (q : ∀ H' F' t', Wo C D N T f H' (updW W a { e with F := F', t := t' }) ls → (∀ x, getX t' x = if x = plA k.x then u else getX e.t x) → Up.lv t' ≤ Up.lv e.t + 1 → Kq D N H H' → Frm a e.F H H' → Q .non H') : sp_putG C D N PutNF Rm4 (V.ref a :: ([v, u] ++ [])) H Q E := by
  have te := h.ts a e hi
  refine ⟨a, v, u, e.num, e.me, k, e.F, e.t, rfl, te, hk, hn, hna, .inl hl, fun H' t' px l => ?_⟩
  have lvp := PutF.lv te.wf px
  obtain ⟨M', g⟩ := PutF.map (h.M a e hi) te.wf kg no (Nat.le_trans te.sa (by decide)) hl px
  obtain ⟨F', w', kq, fr⟩ := h.deed L hi M' l
  exact q H' F' t' w' g lvp kq fr
/-- a get -/
theorem Wo.get (h : Wo C D N T f H W ls) {e : Tn} (hi : W a = some e) {v : V} {k : Ky} {Q : VK} {E : XK} (hk : KyAt C D H v k) (kg : KG (plK k)) (no : NoOk f (plK k)) (q : ∀ H', Same H H' → Q (getX e.t (plA k.x)) H') : sp_get C D N (V.ref a :: ([v] ++ [])) H Q E := by
  refine ⟨a, v, e.num, e.me, k, e.F, e.t, rfl, h.ts a e hi, hk, fun H' s _ => ?_⟩
  rw [(h.M a e hi).get (h.ts a e hi).wf kg no]
  exact q H' s
/-- a new table -/
theorem Wo.new (h : Wo C D N T f H W ls) {num me : V} {ar n : Nat} {Q : VK} (q : ∀ H' a F, H a = none → Same H H' → Wo C D N T f H' (updW W a ⟨num, me, F, newT ar n⟩) ls → Q (.ref a) H') : NewTb C D N num me ar n H Q := fun H' a F na s ts fr => by
  refine q H' a F na s ⟨fun i e z => ?_, fun i e z => ?_, fun i j e e2 z z2 ne x hx => ?_, fun p hp => s _ _ (h.hls p hp), fun i e z p hp => ?_, h.nt, h.tb.ext s⟩
  · rcases updW_of z with ⟨rfl, rfl⟩ | ⟨_, z⟩
    · exact ts
    · exact (h.ts i e z).same s
  · rcases updW_of z with ⟨rfl, rfl⟩ | ⟨_, z⟩
    · exact (newT_map ar _).1
    · exact h.M i e z
  · rcases updW_of z with ⟨q1, q2⟩ | ⟨_, w1⟩
    · rcases updW_of z2 with ⟨q3, q4⟩ | ⟨_, w2⟩
      · exact absurd (q1.trans q3.symm) ne
      · subst q1 q2
        intro y
        obtain ⟨o, eo⟩ := (h.ts j e2 w2).at_.inS y
        rw [fr x hx] at eo; cases eo
    · rcases updW_of z2 with ⟨q3, q4⟩ | ⟨_, w2⟩
      · subst q3 q4
        intro y
        obtain ⟨o, eo⟩ := (h.ts i e w1).at_.inS hx
        rw [fr x y] at eo; cases eo
      · exact h.dis i j e e2 w1 w2 ne x hx
  · rcases updW_of z with ⟨rfl, rfl⟩ | ⟨_, z⟩
    · intro y
      have := fr _ y
      rw [h.hls p hp] at this; cases this
    · exact h.out i e z p hp
/-- a table's metatable is set -/
theorem Wo.meta (L : Cl3 C D N) (h : Wo C D N T f H W ls) {e : Tn} (hi : W a = some e) {dx : Addr} {me' : V} (ho : H a = some (.ins D dx (tbF e.num e.me e.F.la e.F.ln e.t.free))) :
    Wo C D N T f (upd H a (.ins D dx (tbF e.num me' e.F.la e.F.ln e.t.free))) (updW W a { e with me := me' }) ls ∧ Kq D N H (upd H a (.ins D dx (tbF e.num me' e.F.la e.F.ln e.t.free))) := by
  have te := h.ts a e hi
  have kq : Kq D N H (upd H a (.ins D dx (tbF e.num me' e.F.la e.F.ln e.t.free))) := fun b c d fs hc eb => by
    by_cases hb : b = a
    · rw [hb, ho] at eb
      injection eb with eb
      injection eb with c1 c2 c3
      refine ⟨dx, _, by rw [hb, upd_same, c1], fun z => absurd c1.symm z, by rw [← c3]; rfl⟩
    · exact ⟨d, fs, by rw [upd_ne hb]; exact eb, fun _ => ⟨rfl, rfl⟩, rfl⟩
  have kx : Kx H (upd H a (.ins D dx (tbF e.num me' e.F.la e.F.ln e.t.free))) := fun b o eb h1 _ => by
    rw [upd_ne (fun z => by rw [z, ho] at eb; injection eb with eb; exact h1 _ _ _ eb.symm)]; exact eb
  refine ⟨⟨fun j e2 z => ?_, fun j e2 z => ?_, fun j k e2 e3 z z3 ne x hx => ?_, fun p hp => ?_, fun j e2 z p hp => ?_, h.nt, tabs_keep h.tb kx⟩, kq⟩
  · rcases updW_of z with ⟨rfl, rfl⟩ | ⟨q, hj⟩
    · have inn := fun c (hc : V.ref c ∈ e.F.vs) => te.at_.inN hc
      refine ⟨⟨⟨dx, upd_same⟩, ?_, ?_, te.at_.len, fun m v ev => ?_, te.at_.inj, te.at_.ne⟩, te.wf, fun m x ex => ⟨(te.keys m x ex).1.kq L kq, (te.keys m x ex).2⟩, te.sa, te.sn⟩
      · rw [upd_ne (fun z => by have := te.at_.arr; rw [z, ho] at this; cases this)]; exact te.at_.arr
      · rw [upd_ne (fun z => by have := te.at_.lst; rw [z, ho] at this; cases this)]; exact te.at_.lst
      · have hv := te.at_.nds m v ev
        show NvAt N _ v (nd e.t.nds m)
        cases en : nd e.t.nds m with
        | none => rw [en] at hv; exact hv
        | some x =>
          rw [en] at hv
          obtain ⟨b, d2, rfl, hb⟩ := hv
          refine ⟨b, d2, rfl, ?_⟩
          rw [upd_ne (fun z => by rw [z, ho] at hb; injection hb with hb; injection hb with c1; exact L.dn c1)]
          exact hb
    · exact (h.ts j e2 hj).keep L kq fun x o hx ex => by
        rw [upd_ne (fun z => h.dis a j e e2 hi hj (fun z => q z.symm) x (.inl z) hx)]; exact ex
  · rcases updW_of z with ⟨rfl, rfl⟩ | ⟨q, hj⟩
    · exact h.M j e hi
    · exact h.M j e2 hj
  · rcases updW_of z with ⟨rfl, rfl⟩ | ⟨q, hj⟩
    · rcases updW_of z3 with ⟨rfl, _⟩ | ⟨q3, hk⟩
      · exact absurd rfl ne
      · exact h.dis _ k e e3 hi hk ne x hx
    · rcases updW_of z3 with ⟨rfl, rfl⟩ | ⟨q3, hk⟩
      · exact h.dis j _ e2 e hj hi ne x hx
      · exact h.dis j k e2 e3 hj hk ne x hx
  · rw [upd_ne (fun z => h.out a e hi p hp (.inl z))]; exact h.hls p hp
  · rcases updW_of z with ⟨rfl, rfl⟩ | ⟨q, hj⟩
    · exact h.out j e hi p hp
    · exact h.out j e2 hj p hp
/-- tables are told apart from all else -/
theorem Wo.obj (h : Wo C D N T f H W ls) {e : Tn} (hi : W a = some e) : ∃ dx, H a = some (.ins D dx (tbF e.num e.me e.F.la e.F.ln e.t.free)) := (h.ts a e hi).at_.obj
end
end
end Up

set_option Elab.async false
set_option linter.all false
set_option pp.maxSteps 600
set_option maxRecDepth 100000
set_option maxHeartbeats 4000000
set_option exponentiation.threshold 200000
namespace Up
open PySem PySem.Spec PyProof.Rows L2
local macro_rules | `(tactic| walk_at "u") => `(tactic| first
  | with_reducible refine g_seq ?_
  | with_reducible refine g_asg ?_
  | with_reducible refine g_op ?_
  | ((with_reducible show tVar _ _ _ _); apply g_var; exact rfl)
  | with_reducible refine g_c ?_
  | with_reducible refine g_name ?_
  | with_reducible refine g_ifs ?_
  | with_reducible refine g_tt ?_
  | with_reducible refine g_tB ?_
  | with_reducible refine g_bl ?_
  | with_reducible refine g_ret ?_
  | with_reducible refine g_cb ?_
  | with_reducible refine g_cons ?_
  | with_reducible refine g_nil ?_
  | with_reducible refine g_call ?_
  | with_reducible refine g_and ?_
  | with_reducible refine g_or ?_
  | with_reducible refine g_not ?_
  | with_reducible refine g_andV ?_
  | with_reducible refine g_orV ?_
  | with_reducible refine g_notV ?_
  | with_reducible refine g_if ?_
  | with_reducible refine g_un ?_
  | with_reducible refine g_neg ?_
  | with_reducible refine g_addI ?_
  | with_reducible refine g_subI ?_
  | with_reducible refine g_subB ?_
  | with_reducible refine g_I0 ?_
  | with_reducible refine g_cmpI ?_
  | with_reducible refine g_eqI ?_
  | with_reducible refine g_neI ?_
  | with_reducible refine g_eqS ?_
  | with_reducible refine g_neS ?_
  | with_reducible refine g_eqB ?_
  | with_reducible refine g_neB ?_
  | with_reducible refine g_bits ?_
  | with_reducible refine g_bitsI ?_
  | with_reducible refine g_fld ?_
  | with_reducible refine g_tup ?_
  | with_reducible refine g_lst ?_
  | with_reducible refine g_gtup ?_
  | with_reducible refine g_make ?_
  | with_reducible refine g_lc ?_
  | with_reducible refine g_yesT ?_
  | with_reducible refine g_intI ?_
  | with_reducible refine g_intB ?_
  | with_reducible refine g_max2 ?_
  | with_reducible refine g_abs1 ?_
  | with_reducible refine g_for ?_
  | with_reducible refine g_iList ?_
  | with_reducible refine g_iTup ?_
  | with_reducible refine g_iRng1 ?_
  | with_reducible refine g_iEnum ?_
  | with_reducible refine g_slice ?_
  | with_reducible refine g_po0 ?_
  | with_reducible refine g_po1 ?_
  | with_reducible refine g_gsub ?_
  | with_reducible refine g_par ?_
  | with_reducible refine g_par2 ?_
  | with_reducible refine g_rfl ?_
  | with_reducible refine g_meth ?_
  | with_reducible refine g_gcons ?_
  | with_reducible refine g_gnil ?_
  | with_reducible refine g_gfld ?_
  | with_reducible refine g_sfld ?_
  | with_reducible refine g_drop ?_
  | with_reducible refine g_next ?_
  | with_reducible refine iteT ?_
  | with_reducible refine iteF ?_)
local macro_rules | `(tactic| walk_at "go") => `(tactic| (repeat walk_at "u"))

/-! ### what is thrown -/
section
variable {P : Program} {w : World} {K : PySem.W.Frag} {mg : Str → Option Value} {base : Heap} {C CT : Addr}
structure ThK (K : PySem.W.Frag) (mg : Str → Option Value) (C : Addr) : Prop where
  ax : AxC K C
  nV : PySem.W.findIn K (.ref C) "value" = some none
  nL : PySem.W.findIn K (.ref C) "level" = some none
  xf : XfC K C
  te : PySem.W.exmOne K (.ref C) (.ref C) = some true
  ae : mg "ArithmeticError" = none
  vV : PySem.W.findCls K (.type "ArithmeticError") (.type "type") "__init__" = some (.val (.builtin "ArithmeticError.__init__"))
  mg : mg "Thrown" = some (.ref C)
theorem sc_Thrown_init : FnScope ["self", "value", "level"] ["self", "value", "level"] (defScope s_Thrown_init) := ⟨rfl, rfl, rfl, by decide +kernel, rfl, by decide +kernel, by decide +kernel⟩
abbrev thrF (v l : V) : List (Str × V) := [("level", l), ("value", v)]
def sp_ThrInit (C : Addr) : Sp := fun vs H Q _ => ∃ (a : Addr) (v l : V), vs = [.ref a, v, l] ∧ H a = some (exo a C none) ∧ ∀ d H', H d = none → d ≠ a → H' a = some (exo a C (some d)) → H' d = some (exd d (thrF v l)) → (∀ b, b ≠ a → b ≠ d → H' b = H b) → Q .non H'
theorem ok_ThrInit {f : Addr} {fd : FuncData} (F : FunD K "__init__" "Thrown.__init__" (defArgs s_Thrown_init) (defBody s_Thrown_init) (defScope s_Thrown_init) [.int 1] [] f fd) (T : ThK K mg CT) : FnOk P w K mg base CX0 1 f fd ["self", "value", "level"] (sp_ThrInit CT) := by
  refine F.ok sc_Thrown_init (fun vs H Q E h => ?_) (fun cdv A outer s H vs Q E hr h => ?_)
  · obtain ⟨_, _, _, rfl, _⟩ := h; rfl
  · obtain ⟨a, v, l, rfl, ha, q⟩ := h
    refine ⟨_, PSs.nox (pss_cons (ps_expr (pe_axI T.ae T.vV (pa_cons (pv 0) (pa_cons (pv 1) pa_nil)))) (pss_cons (ps_axS (pv 0) (pv 1)) (pss_one (ps_axS (pv 0) (pv 2))))), ?_⟩
    refine g_seq (g_drop ?_)
    refine ⟨_, rfl, _, rfl, a, CT, [v], rfl, by simp, T.ax, ha, ?_⟩
    refine g_seq ?_
    refine ⟨_, rfl, _, rfl, a, CT, rfl, T.ax, T.nV, .inl ⟨ha, fun d H1 nd ne h1 h2 kp => ?_⟩⟩
    refine ⟨_, rfl, _, rfl, a, CT, rfl, T.ax, T.nL, .inr ⟨d, _, h1, h2, by simp, fun H2 h3 kp2 => ?_⟩⟩
    exact q d H2 nd ne ((kp2 a (Ne.symm ne)).trans h1) h3 fun b b1 b2 => (kp2 b b2).trans (kp b b1 b2)
def CThr (P : Program) (w : World) (K : PySem.W.Frag) (mg : Str → Option Value) (base : Heap) (C : Addr) : Prop := ThK K mg C ∧ ∃ fI fd ds, PySem.W.findIn K (.ref C) "__init__" = some (some (.ref fI)) ∧ PySem.W.typeIn K (.ref fI) = some (.type "function") ∧
  FnOk P w K mg base CX0 1 fI fd ["self", "value", "level"] (sp_ThrInit C) ∧ Binds K fd ["self", "value", "level"] ds ∧ Vals [.int 1] ds
/-! raise, made of a reading -/
def tRai (t : L2.St → Hp → XK → Prop) (W : WX) : TS := fun _ σ H => t σ H fun cls d H' => W cls d σ H'
theorem g_rai {t : L2.St → Hp → XK → Prop} {W : WX} {D : Ends} {σ : L2.St} {H : Hp} (h : t σ H fun cls d H' => W cls d σ H') : tRai t W D σ H := h
def MkOR (C : Addr) (sp : Sp) (dvs : List V) (Q : XK) (vs : List V) (H1 : Hp) : Prop := vs.length ≤ 1000 ∧ ∀ a, H1 a = none → sp (.ref a :: (vs ++ dvs)) (upd H1 a (exo a C none))
  (fun v H2 => v = .non ∧ ∃ (d : Addr) (fs : List (Str × V)), H2 a = some (exo a C (some d)) ∧ H2 d = some (exd d fs) ∧ H1 d = none ∧ Q (.ref C) (some d) (upd (del H2 a) d (.xd fs))) (fun _ _ _ => False)
theorem g_mko {sp : Sp} {dvs : List V} {ta : TA} {σ : L2.St} {H : Hp} {Q : XK} (h : ta σ H fun vs H1 => MkOR C sp dvs Q vs H1) : tMkO C sp dvs ta σ H Q := h
def ThrR (C : Addr) (v : V) (H : Hp) (E : XK) : Prop := ∀ d H', Same H H' → H' d = some (.xd (thrF v (.int 1))) → E (.ref C) (some d) H'
theorem ThrR.later {v : V} {H H1 : Hp} {E : XK} (q : ThrR C v H E) (s : Same H H1) : ThrR C v H1 E := fun d H' s' h => q d H' (s.trans s') h
theorem g_thr {v : V} {H : Hp} {Q : XK} (q : ThrR C v H Q) : MkOR C (sp_ThrInit C) [.int 1] Q [v] H := by
  refine ⟨by simp, fun a na => ?_⟩
  refine ⟨a, v, .int 1, rfl, upd_same, fun d H' nd dne ha hd kp => ⟨rfl, d, _, ha, hd, ?_, q d _ (fun b o e => ?_) upd_same⟩⟩
  · rw [upd_ne dne] at nd
    exact nd
  · rw [upd_ne dne] at nd
    have b1 := ne_of_none e na
    have b2 := ne_of_none e nd
    rw [upd_ne b2, del_ne b1, kp b b1 b2, upd_ne b1]
    exact e
theorem ps_thr {X : Cx} {W : WX} {e : Expr} {te : TE} {p pos pos2 : Pos} (T : CThr X.prog X.w X.K X.mg X.base C) (hr : Room 2 X.A) (hc : X.calm = true) (tk : Takes X W) (he : PE X e te) (hg : Gl X "Thrown" := by rfl)
    (hst : starEach (e :: []) X.env = (false, eval e X.env) :: starEach [] X.env := by rfl) (hpl : (backTo pos (starEach [] X.env)).any (·.1) = false := by rfl) :
    PS X (.Raise (some (.Call (.Name "Thrown" p) [e] [] pos)) none pos2) (tRai (tMkO C (sp_ThrInit C) [.int 1] (tCons te tNil)) W) := by
  obtain ⟨T, fI, fd, ds, iC, tI, F, hb, hd⟩ := T
  exact ps_raise hc tk (pmk_ax T.ax iC tI F hr hb hd pass0 T.mg (pa_cons he pa_nil (hs := hst)) hg (by decide) hst hpl)
theorem pe_fnS {X : Cx} {CX : CXT} {k : Nat} {x : Str} {ps : List Str} {sp : Sp} {E : L2.St → XK} {p pos : Pos} {e : Expr} {es : List Expr} {t : TA} (F : Fn X.prog X.w X.K X.mg X.base CX k x ps [] sp) (hr : Room k X.A) (hx : ∀ σ, PassesAt CX X σ (E σ)) (ha : PA X (e :: es) t) (hg : Gl X x := by rfl)
    (hdb : (x == ("__debug__" : Str)) = false := by decide) (he : starEach (e :: es) X.env = (false, eval e X.env) :: starEach es X.env := by rfl) (hpl : (backTo pos (starEach es X.env)).any (·.1) = false := by rfl) :
    PE X (.Call (.Name x p) (e :: es) [] pos) (tCallS sp E t) := by
  obtain ⟨f, fd, ds, F, hm, hk, hb, hd⟩ := F
  cases hd
  exact pe_callS F hr hg hm hk hb hx ha hdb he hpl
theorem thr_value (v l : V) : (thrF v l).lookup ("value" : Str) = some v := by
  have h1 : (("value" : Str) == ("level" : Str)) = false := by decide +kernel
  have h2 : (("value" : Str) == ("value" : Str)) = true := by decide +kernel
  simp only [List.lookup, h1, h2]
end
end Up

set_option Elab.async false
set_option linter.all false
set_option pp.maxSteps 600
set_option maxRecDepth 100000
set_option maxHeartbeats 4000000
set_option exponentiation.threshold 200000
namespace Up
open PySem PySem.Spec PyProof.Rows L2 LamX
local macro_rules | `(tactic| walk_at "u") => `(tactic| first
  | with_reducible refine g_seq ?_
  | with_reducible refine g_asg ?_
  | with_reducible refine g_op ?_
  | ((with_reducible show tVar _ _ _ _); apply g_var; exact rfl)
  | with_reducible refine g_c ?_
  | with_reducible refine g_name ?_
  | with_reducible refine g_ifs ?_
  | with_reducible refine g_tt ?_
  | with_reducible refine g_tB ?_
  | with_reducible refine g_bl ?_
  | with_reducible refine g_ret ?_
  | with_reducible refine g_cb ?_
  | with_reducible refine g_cons ?_
  | with_reducible refine g_nil ?_
  | with_reducible refine g_call ?_
  | with_reducible refine g_and ?_
  | with_reducible refine g_or ?_
  | with_reducible refine g_not ?_
  | with_reducible refine g_andV ?_
  | with_reducible refine g_orV ?_
  | with_reducible refine g_notV ?_
  | with_reducible refine g_if ?_
  | with_reducible refine g_un ?_
  | with_reducible refine g_neg ?_
  | with_reducible refine g_addI ?_
  | with_reducible refine g_subI ?_
  | with_reducible refine g_subB ?_
  | with_reducible refine g_I0 ?_
  | with_reducible refine g_cmpI ?_
  | with_reducible refine g_eqI ?_
  | with_reducible refine g_neI ?_
  | with_reducible refine g_eqS ?_
  | with_reducible refine g_neS ?_
  | with_reducible refine g_eqB ?_
  | with_reducible refine g_neB ?_
  | with_reducible refine g_bits ?_
  | with_reducible refine g_bitsI ?_
  | with_reducible refine g_fld ?_
  | with_reducible refine g_tup ?_
  | with_reducible refine g_lst ?_
  | with_reducible refine g_gtup ?_
  | with_reducible refine g_make ?_
  | with_reducible refine g_lc ?_
  | with_reducible refine g_yesT ?_
  | with_reducible refine g_intI ?_
  | with_reducible refine g_intB ?_
  | with_reducible refine g_max2 ?_
  | with_reducible refine g_abs1 ?_
  | with_reducible refine g_for ?_
  | with_reducible refine g_iList ?_
  | with_reducible refine g_iTup ?_
  | with_reducible refine g_iRng1 ?_
  | with_reducible refine g_iEnum ?_
  | with_reducible refine g_slice ?_
  | with_reducible refine g_po0 ?_
  | with_reducible refine g_po1 ?_
  | with_reducible refine g_gsub ?_
  | with_reducible refine g_par ?_
  | with_reducible refine g_par2 ?_
  | with_reducible refine g_rfl ?_
  | with_reducible refine g_meth ?_
  | with_reducible refine g_gcons ?_
  | with_reducible refine g_gnil ?_
  | with_reducible refine g_gfld ?_
  | with_reducible refine g_sfld ?_
  | with_reducible refine g_drop ?_
  | with_reducible refine g_next ?_
  | with_reducible refine iteT ?_
  | with_reducible refine iteF ?_)
local macro_rules | `(tactic| walk_at "go") => `(tactic| (repeat walk_at "u"))
local macro_rules | `(tactic| walk_at "t1") => `(tactic| (first
  | walk_at "u"
  | with_reducible refine g_chain ?_
  | with_reducible refine g_par3 ?_
  | with_reducible refine g_par3' ?_
  | with_reducible refine g_augS ?_
  | with_reducible refine g_nt ?_
  | with_reducible refine g_nf ?_
  | with_reducible refine g_methK ?_
  | with_reducible refine g_makeK ?_
  | with_reducible refine g_iRng2 ?_
  | with_reducible refine g_bm ?_
  | with_reducible refine g_fldaug ?_
  | with_reducible refine g_iStr ?_
  | with_reducible refine g_ipI ?_
  | ((with_reducible show tAug _ _ _ _ _ _); refine ⟨_, rfl, ?_⟩)
  | ((with_reducible refine show_exT ?_); first
    | refine rdT3 (by assumption) (by assumption) ?_
    | refine rdT4 (by assumption) (by assumption) ?_
    | refine rdT5 (by assumption) (by assumption) ?_
    | refine rdT1 (by assumption) (by assumption) ?_
    | refine rdT2 (by assumption) (by assumption) ?_
    | refine rdN1 (by assumption) (by assumption) ?_
    | refine rdN2 (by assumption) (by assumption) ?_
    | refine rdN3 (by assumption) (by assumption) ?_
    | refine rdN4 (by assumption) (by assumption) ?_)))
local macro_rules | `(tactic| walk_at "t") => `(tactic| (repeat walk_at "t1"))
local macro_rules | `(tactic| walk_at "v") => `(tactic| (repeat (first
  | walk_at "t1"
  | with_reducible refine g_js ?_
  | with_reducible refine g_js0 ?_
  | with_reducible refine g_fmt ?_
  | with_reducible refine g_joined ?_
  | with_reducible refine g_isBool ?_
  | with_reducible refine g_notBool ?_
  | with_reducible refine g_revL ?_
  | with_reducible refine g_self ?_
  | with_reducible refine g_selfN ?_
  | with_reducible refine g_rN ?_
  | with_reducible refine g_rNN ?_
  | with_reducible refine g_iN ?_
  | with_reducible refine g_iNN ?_
  | with_reducible refine g_sN ?_
  | with_reducible refine g_sNN ?_
  | with_reducible refine g_bN ?_
  | with_reducible refine g_bNN ?_)))

section
variable {P : Program} {w : World} {K : PySem.W.Frag} {mg : Str → Option Value} {base : Heap} {C D N NA CT : Addr} {H H' H1 : Hp} {a : Addr} {f : Addr → Int} {W W' : Wm} {ls : List (Addr × HO)} {T : List (Addr × Str)} {v : V} {name : Str}
/-- a def that may throw, where it throws nothing -/
theorem FnOk.noX {k : Nat} {g : Addr} {fd : FuncData} {ps : List Str} {sp sp' : Sp} (F : FnOk P w K mg base (L2.CX P w) k g fd ps sp) (h : ∀ vs H Q E, sp' vs H Q E → sp vs H Q (fun _ _ _ => False)) : FnOk P w K mg base CX0 k g fd ps sp' :=
  ⟨fun vs H Q E q => F.len _ _ _ _ (h _ _ _ _ q), fun A outer s H args us vs Q E hr he hb hv hs => PySem.codeAny_mono (F.run A outer s H args us vs Q (fun _ _ _ => False) hr he hb hv (h _ _ _ _ hs)) fun r s' z => by
    cases r with
    | ok o =>
      cases o with
      | ret u => exact z
      | _ => exact z
    | error e =>
      obtain ⟨_, _, _, _, _, _, _, _, _, _, _, _, z⟩ := z
      exact z.elim⟩
/-! ### the values of events -/
inductive Vk where
  | nil
  | bl (b : Bool)
  | int (i : Int)
  | str (s : Str)
  | flt (s : Int) (t : V) (p : Int)
  | tab (a : Addr)
  | fn (a : Addr)
def natF (n m : V) : List (Str × V) := [("name", n), ("act", m)]
def NatAt (NA : Addr) (H : Hp) (a : Addr) : Prop := ∃ dx n m, H a = some (.ins NA dx (natF n m))
def VkAt (C NA : Addr) (H : Hp) (W : Wm) (v : V) : Vk → Prop
  | .nil => v = .non
  | .bl b => v = .bl b
  | .int i => v = .int i
  | .str s => v = .str s
  | .flt s t p => ∃ a, v = .ref a ∧ FlAt C H a s t p ∧ FlOk s t p
  | .tab a => v = .ref a ∧ ∃ e, W a = some e
  | .fn a => v = .ref a ∧ NatAt NA H a
def WLe (W W' : Wm) : Prop := ∀ a e, W a = some e → ∃ e', W' a = some e'
theorem WLe.refl : WLe W W := fun a e h => ⟨e, h⟩
theorem WLe.trans {W2 : Wm} (h : WLe W W') (h2 : WLe W' W2) : WLe W W2 := fun a e z => by
  obtain ⟨e1, z1⟩ := h a e z
  exact h2 a e1 z1
theorem WLe.upd {e : Tn} : WLe W (updW W a e) := fun b e2 z => by
  by_cases q : b = a
  · subst q; exact ⟨_, updW_same⟩
  · exact ⟨e2, by rw [updW_ne q]; exact z⟩
structure FnC (K : PySem.W.Frag) (mg : Str → Option Value) (C D N NA : Addr) : Prop where
  own : OwnC K NA
  nN : NoAttr K NA "name"
  nA : NoAttr K NA "act"
  nd : NA ≠ D
  nc : NA ≠ C
  nn : NA ≠ N
  mgN : mg "Native" = some (.ref NA)
  nf : PySem.W.kitOne K (.ref NA) (.ref C) = some false
  nT : PySem.W.kitOne K (.ref NA) (.ref D) = some false
  fT : PySem.W.kitOne K (.ref C) (.ref D) = some false
  tT : PySem.W.kitOne K (.ref D) (.ref D) = some true
  bT : ∀ t ∈ (["NoneType", "bool", "int", "str"] : List String), PySem.W.kitOne K (.type t) (.ref D) = some false
  yN : PySem.W.kitOne K (.ref NA) (.ref NA) = some true
  cN : PySem.W.kitOne K (.ref C) (.ref NA) = some false
  dN : PySem.W.kitOne K (.ref D) (.ref NA) = some false
  bN : ∀ t ∈ (["NoneType", "bool", "int", "str"] : List String), PySem.W.kitOne K (.type t) (.ref NA) = some false
/-- the classes of functions, as is_function asks them -/
structure FnA (K : PySem.W.Frag) (mg : Str → Option Value) (C D NA FU WR : Addr) : Prop where
  mgF : mg "Function" = some (.ref FU)
  mgW : mg "Wrapped" = some (.ref WR)
  yes : PySem.W.kitAny K (.ref NA) [.ref FU, .ref NA, .ref WR] = some true
  fl : PySem.W.kitAny K (.ref C) [.ref FU, .ref NA, .ref WR] = some false
  tb : PySem.W.kitAny K (.ref D) [.ref FU, .ref NA, .ref WR] = some false
  ty : ∀ t ∈ (["NoneType", "bool", "int", "str"] : List String), PySem.W.kitAny K (.type t) [.ref FU, .ref NA, .ref WR] = some false
theorem NatAt.kq (FC : FnC K mg C D N NA) (h : Kq D N H H') (z : NatAt NA H a) : NatAt NA H' a := by
  obtain ⟨dx, n, m, e⟩ := z
  exact ⟨dx, n, m, h.ins FC.nn FC.nd e⟩
theorem VkAt.go (L : Cl3 C D N) (FC : FnC K mg C D N NA) (h : Kq D N H H') (hw : WLe W W') : ∀ {k : Vk}, VkAt C NA H W v k → VkAt C NA H' W' v k
  | .nil, z => z
  | .bl _, z => z
  | .int _, z => z
  | .str _, z => z
  | .flt _ _ _, ⟨b, e, ⟨dx, z⟩, o⟩ => ⟨b, e, ⟨dx, h.ins L.cn L.cd z⟩, o⟩
  | .tab _, ⟨e, t, z⟩ => ⟨e, hw _ _ z⟩
  | .fn _, ⟨e, z⟩ => ⟨e, z.kq FC h⟩
theorem VkAt.same (s : Same H H') : ∀ {k : Vk}, VkAt C NA H W v k → VkAt C NA H' W v k
  | .nil, z => z
  | .bl _, z => z
  | .int _, z => z
  | .str _, z => z
  | .flt _ _ _, ⟨b, e, ⟨dx, z⟩, o⟩ => ⟨b, e, ⟨dx, s _ _ z⟩, o⟩
  | .tab _, z => z
  | .fn _, ⟨e, dx, n, m, z⟩ => ⟨e, dx, n, m, s _ _ z⟩
def Vk.isT : Vk → Bool
  | .tab _ => true
  | _ => false
def Vk.isFn : Vk → Bool
  | .fn _ => true
  | _ => false
/-- its kind, as the classes are asked -/
structure KnW (K : PySem.W.Frag) (C D NA : Addr) (H : Hp) (v : V) (k : Vk) (t : Value) : Prop where
  kn : Kn K H v t
  tb : PySem.W.kitOne K t (.ref D) = some k.isT
theorem VkAt.kn (TF : FlC K mg C) (TT : TbC K mg D) (FC : FnC K mg C D N NA) (hw : Wo C D N T f H W ls) : ∀ {k : Vk}, VkAt C NA H W v k → ∃ t, KnW K C D NA H v k t ∧ PySem.W.kitOne K t (.ref NA) = some k.isFn ∧ ∀ FU WR, FnA K mg C D NA FU WR → PySem.W.kitAny K t [.ref FU, .ref NA, .ref WR] = some k.isFn
  | .nil, z => by
    cases (show v = _ from z)
    exact ⟨_, ⟨kn_non, FC.bT _ (by simp)⟩, FC.bN _ (by simp), fun FU WR h => h.ty _ (by simp)⟩
  | .bl _, z => by
    cases (show v = _ from z)
    exact ⟨_, ⟨kn_bl, FC.bT _ (by simp)⟩, FC.bN _ (by simp), fun FU WR h => h.ty _ (by simp)⟩
  | .int _, z => by
    cases (show v = _ from z)
    exact ⟨_, ⟨kn_int, FC.bT _ (by simp)⟩, FC.bN _ (by simp), fun FU WR h => h.ty _ (by simp)⟩
  | .str _, z => by
    cases (show v = _ from z)
    exact ⟨_, ⟨kn_str, FC.bT _ (by simp)⟩, FC.bN _ (by simp), fun FU WR h => h.ty _ (by simp)⟩
  | .flt _ _ _, z => by
    obtain ⟨b, rfl, ⟨dx, e⟩, _⟩ := z
    exact ⟨_, ⟨kn_ins TF.own e, FC.fT⟩, FC.cN, fun FU WR h => h.fl⟩
  | .tab _, z => by
    obtain ⟨rfl, e, he⟩ := z
    obtain ⟨dx, ho⟩ := hw.obj he
    exact ⟨_, ⟨kn_ins TT.own ho, FC.tT⟩, FC.dN, fun FU WR h => h.tb⟩
  | .fn _, z => by
    obtain ⟨rfl, dx, n, m, e⟩ := z
    exact ⟨_, ⟨kn_ins FC.own e, FC.nT⟩, FC.yN, fun FU WR h => h.yes⟩
/-- isinstance(v, Native) -/
theorem VkAt.isN (TF : FlC K mg C) (TT : TbC K mg D) (FC : FnC K mg C D N NA) (hw : Wo C D N T f H W ls) {k : Vk} (h : VkAt C NA H W v k) : ∃ t, TyX K H v t ∧ PySem.W.kitOne K t (.ref NA) = some k.isFn := by
  obtain ⟨t, ⟨hk, _⟩, h1, _⟩ := h.kn TF TT FC hw
  exact ⟨t, hk.ty, h1⟩
/-! kind_word, kind_name -/
def sp_kw (s : Str) : Sp := fun vs H Q _ => ∃ x, vs = [x] ∧ Q (.str s) H
theorem sc_Table_kindword : FnScope ["self"] ["self"] (defScope s_Table_kindword) := ⟨rfl, rfl, rfl, by decide +kernel, rfl, by decide +kernel, by decide +kernel⟩
theorem ok_kwT {g : Addr} {fd : FuncData} (F : FunD K "kind_word" "Table.kind_word" (defArgs s_Table_kindword) (defBody s_Table_kindword) (defScope s_Table_kindword) [] [] g fd) : FnOk P w K mg base CX0 1 g fd ["self"] (sp_kw "table") := by
  refine F.ok sc_Table_kindword (fun vs H Q E h => ?_) (fun cdv A outer s H vs Q E hr h => ?_)
  · obtain ⟨_, rfl, _⟩ := h; rfl
  · obtain ⟨x, rfl, q⟩ := h
    refine ⟨_, PSs.nox (pss_one (ps_ret pe_str)), ?_⟩
    walk_at "t"
    exact q
theorem sc_Native_kindword : FnScope ["self"] ["self"] (defScope s_Native_kindword) := ⟨rfl, rfl, rfl, by decide +kernel, rfl, by decide +kernel, by decide +kernel⟩
theorem ok_kwN {g : Addr} {fd : FuncData} (F : FunD K "kind_word" "Native.kind_word" (defArgs s_Native_kindword) (defBody s_Native_kindword) (defScope s_Native_kindword) [] [] g fd) : FnOk P w K mg base CX0 1 g fd ["self"] (sp_kw "function") := by
  refine F.ok sc_Native_kindword (fun vs H Q E h => ?_) (fun cdv A outer s H vs Q E hr h => ?_)
  · obtain ⟨_, rfl, _⟩ := h; rfl
  · obtain ⟨x, rfl, q⟩ := h
    refine ⟨_, PSs.nox (pss_one (ps_ret pe_str)), ?_⟩
    walk_at "t"
    exact q
theorem sc_Float_kindword : FnScope ["self"] ["self"] (defScope s_Float_kindword) := ⟨rfl, rfl, rfl, by decide +kernel, rfl, by decide +kernel, by decide +kernel⟩
theorem ok_kwF {g : Addr} {fd : FuncData} (F : FunD K "kind_word" "Float.kind_word" (defArgs s_Float_kindword) (defBody s_Float_kindword) (defScope s_Float_kindword) [] [] g fd) : FnOk P w K mg base CX0 1 g fd ["self"] (sp_kw "number") := by
  refine F.ok sc_Float_kindword (fun vs H Q E h => ?_) (fun cdv A outer s H vs Q E hr h => ?_)
  · obtain ⟨_, rfl, _⟩ := h; rfl
  · obtain ⟨x, rfl, q⟩ := h
    refine ⟨_, PSs.nox (pss_one (ps_ret pe_str)), ?_⟩
    walk_at "t"
    exact q
def Vk.isF : Vk → Bool
  | .flt _ _ _ => true
  | _ => false
/-- the words of kinds, of floats only where the text has it -/
structure CKw (P : Program) (w : World) (K : PySem.W.Frag) (mg : Str → Option Value) (base : Heap) (C D NA : Addr) (fl : Bool) : Prop where
  t : Mt P w K mg base CX0 1 D "kind_word" ["self"] (sp_kw "table")
  n : Mt P w K mg base CX0 1 NA "kind_word" ["self"] (sp_kw "function")
  f : fl = true → Mt P w K mg base CX0 1 C "kind_word" ["self"] (sp_kw "number")
def kindS : Vk → Str
  | .nil => "nil"
  | .bl _ => "boolean"
  | .int _ => "number"
  | .str _ => "string"
  | .flt _ _ _ => "number"
  | .tab _ => "table"
  | .fn _ => "function"
def kwC (C D NA : Addr) : Vk → Addr
  | .flt _ _ _ => C
  | .fn _ => NA
  | _ => D
def kwS : Vk → Str
  | .flt _ _ _ => "number"
  | .fn _ => "function"
  | _ => "table"
theorem sc_kindname : FnScope ["value"] ["value"] (defScope s_kindname) := ⟨rfl, rfl, rfl, by decide +kernel, rfl, by decide +kernel, by decide +kernel⟩
def sp_kindname (C D N NA : Addr) (fl : Bool) : Sp := fun vs H Q _ => ∃ v k T f W ls, vs = [v] ∧ Wo C D N T f H W ls ∧ VkAt C NA H W v k ∧ (k.isF = true → fl = true) ∧ Q (.str (kindS k)) H
theorem ok_kindname {fl : Bool} {g : Addr} {fd : FuncData} (F : FunD K "kind_name" "kind_name" (defArgs s_kindname) (defBody s_kindname) (defScope s_kindname) [] [] g fd) (B : Blt mg) (TF : FlC K mg C) (TT : TbC K mg D) (FC : FnC K mg C D N NA) (CK : CKw P w K mg base C D NA fl) : FnOk P w K mg base CX0 2 g fd ["value"] (sp_kindname C D N NA fl) := by
  refine F.ok sc_kindname (fun vs H Q E h => ?_) (fun cdv A outer s H vs Q E hr h => ?_)
  · obtain ⟨_, _, _, _, _, _, rfl, _⟩ := h; rfl
  · obtain ⟨v, k, T, f, W, ls, rfl, hw, hv, hf, q⟩ := h
    have c_kindword : Mt P w K mg base CX0 1 (kwC C D NA k) "kind_word" ["self"] (sp_kw (kwS k)) := by
      cases k with
      | flt _ _ _ => exact CK.f (hf rfl)
      | fn _ => exact CK.n
      | _ => exact CK.t
    obtain ⟨t, ⟨hk, _⟩, _⟩ := hv.kn TF TT FC hw
    refine ⟨_, PSs.nox (pss_cons (ps_if (pt_cmpR op_isN (pv 0) pe_non (nomark _)) (pss_one (ps_ret pe_str)) pss_nil)
  (pss_cons (ps_if (pt_val (pe_callB call_isi (by rfl) B.isinstance (by decide +kernel) (pa_cons (pv 0) (pa_cons (pe_tyBool B) pa_nil)))) (pss_one (ps_ret pe_str)) pss_nil)
  (pss_cons (ps_if (pt_val (pe_callB call_isi (by rfl) B.isinstance (by decide +kernel) (pa_cons (pv 0) (pa_cons (pe_tyInt B) pa_nil)))) (pss_one (ps_ret pe_str)) pss_nil)
  (pss_one (ps_ret (pe_ifExp (pt_val (pe_callB call_isi (by rfl) B.isinstance (by decide +kernel) (pa_cons (pv 0) (pa_cons (pe_tyStr B) pa_nil)))) pe_str (pe_mt0 c_kindword (hr.mono (by first | decide | omega)) pass0 (pv 0)))))))), ?_⟩
    walk_at "t"
    cases k with
    | nil =>
      cases (show v = _ from hv)
      refine g_yes rfl ?_
      walk_at "t"
      exact q
    | bl b =>
      cases (show v = _ from hv)
      refine g_no (fun z => nomatch z) ?_
      walk_at "t"
      refine g_isiBool hk ?_
      walk_at "t"
      refine iteT ?_
      walk_at "t"
      exact q
    | int i =>
      cases (show v = _ from hv)
      refine g_no (fun z => nomatch z) ?_
      walk_at "t"
      refine g_isiBool hk ?_
      walk_at "t"
      refine iteF ?_
      walk_at "t"
      refine g_isiInt hk ?_
      walk_at "t"
      refine iteT ?_
      walk_at "t"
      exact q
    | str i =>
      cases (show v = _ from hv)
      refine g_no (fun z => nomatch z) ?_
      walk_at "t"
      refine g_isiBool hk ?_
      walk_at "t"
      refine iteF ?_
      walk_at "t"
      refine g_isiInt hk ?_
      walk_at "t"
      refine iteF ?_
      walk_at "t"
      refine g_isiStr hk ?_
      walk_at "t"
      refine iteT ?_
      walk_at "t"
      exact q
    | flt s t p =>
      obtain ⟨b, rfl, ⟨dx, e⟩, _⟩ := hv
      refine g_no (fun z => nomatch z) ?_
      walk_at "t"
      refine g_isiBool hk ?_
      walk_at "t"
      refine iteF ?_
      walk_at "t"
      refine g_isiInt hk ?_
      walk_at "t"
      refine iteF ?_
      walk_at "t"
      refine g_isiStr hk ?_
      walk_at "t"
      refine iteF ?_
      walk_at "t"
      refine ⟨b, dx, _, rfl, e, rfl, ?_⟩
      walk_at "t"
      exact ⟨_, rfl, q⟩
    | tab a =>
      obtain ⟨rfl, en, he⟩ := hv
      obtain ⟨dx, e⟩ := hw.obj he
      refine g_no (fun z => nomatch z) ?_
      walk_at "t"
      refine g_isiBool hk ?_
      walk_at "t"
      refine iteF ?_
      walk_at "t"
      refine g_isiInt hk ?_
      walk_at "t"
      refine iteF ?_
      walk_at "t"
      refine g_isiStr hk ?_
      walk_at "t"
      refine iteF ?_
      walk_at "t"
      refine ⟨a, dx, _, rfl, e, rfl, ?_⟩
      walk_at "t"
      exact ⟨_, rfl, q⟩
    | fn a =>
      obtain ⟨rfl, dx, n, m, e⟩ := hv
      refine g_no (fun z => nomatch z) ?_
      walk_at "t"
      refine g_isiBool hk ?_
      walk_at "t"
      refine iteF ?_
      walk_at "t"
      refine g_isiInt hk ?_
      walk_at "t"
      refine iteF ?_
      walk_at "t"
      refine g_isiStr hk ?_
      walk_at "t"
      refine iteF ?_
      walk_at "t"
      refine ⟨a, dx, _, rfl, e, rfl, ?_⟩
      walk_at "t"
      exact ⟨_, rfl, q⟩
abbrev CKind (P : Program) (w : World) (K : PySem.W.Frag) (mg : Str → Option Value) (base : Heap) (C D N NA : Addr) (fl : Bool) : Prop := Fn P w K mg base CX0 2 "kind_name" ["value"] [] (sp_kindname C D N NA fl)
/-! Native(..) -/
theorem sc_Native_init : FnScope ["self", "name", "act"] ["self", "name", "act"] (defScope s_Native_init) := ⟨rfl, rfl, rfl, by decide +kernel, rfl, by decide +kernel, by decide +kernel⟩
def sp_Natinit (NA : Addr) : Sp := fun vs H Q _ => ∃ (x dx : Addr) (n m : V), vs = [.ref x, n, m] ∧ H x = some (.ins NA dx []) ∧ ∀ H', (∀ b o, b ≠ x → H b = some o → H' b = some o) → H' x = some (.ins NA dx (natF n m)) → Q .non H'
theorem ok_Natinit {g : Addr} {fd : FuncData} (F : FunD K "__init__" "Native.__init__" (defArgs s_Native_init) (defBody s_Native_init) (defScope s_Native_init) [] [] g fd) (FC : FnC K mg C D N NA) : FnOk P w K mg base CX0 1 g fd ["self", "name", "act"] (sp_Natinit NA) := by
  refine F.ok sc_Native_init (fun vs H Q E h => ?_) (fun cdv A outer s H vs Q E hr h => ?_)
  · obtain ⟨_, _, _, _, rfl, _⟩ := h; rfl
  · obtain ⟨x, dx, n, m, rfl, hx, q⟩ := h
    refine ⟨_, PSs.nox (pss_cons (ps_fld (pv 0) (pv 1) rfl)
  (pss_one (ps_fld (pv 0) (pv 2) rfl))), ?_⟩
    walk_at "t"
    refine ⟨x, NA, dx, _, rfl, hx, FC.own.cl, FC.nN, Nat.le_of_ble_eq_true rfl, ?_⟩
    walk_at "t"
    refine ⟨x, NA, dx, _, rfl, upd_same, FC.own.cl, FC.nA, Nat.le_of_ble_eq_true rfl, ?_⟩
    walk_at "t"
    exact q _ (fun b o hb e => by rw [upd_ne hb, upd_ne hb]; exact e) upd_same
abbrev CNat (P : Program) (w : World) (K : PySem.W.Frag) (mg : Str → Option Value) (base : Heap) (NA : Addr) : Prop := Cn P w K mg base CX0 1 "Native" NA ["self", "name", "act"] [] (sp_Natinit NA)
theorem mkNat {Q : VK} {E : XK} {n m : V} (q : ∀ H' a dx, H a = none → Same H H' → H' a = some (.ins NA dx (natF n m)) → Q (.ref a) H') : MakeR NA (sp_Natinit NA) ([n, m] ++ []) H Q E := by
  intro x dx H1 n1 n2 ne s1 h1 _
  exact ⟨x, dx, n, m, rfl, h1, fun H2 k h2 => ⟨rfl, q H2 x dx n1 (fun b o e => k b o (ne_of_none e n1) (s1 _ _ e)) h2⟩⟩
/-! is_function -/
theorem sc_isfunction : FnScope ["value"] ["value"] (defScope s_isfunction) := ⟨rfl, rfl, rfl, by decide +kernel, rfl, by decide +kernel, by decide +kernel⟩
def sp_isfunction (C D N NA : Addr) : Sp := fun vs H Q _ => ∃ v k T f W ls, vs = [v] ∧ Wo C D N T f H W ls ∧ VkAt C NA H W v k ∧ ∀ H', Same H H' → Q (.bl k.isFn) H'
theorem ok_isfunction {g FU WR : Addr} {fd : FuncData} (F : FunD K "is_function" "is_function" (defArgs s_isfunction) (defBody s_isfunction) (defScope s_isfunction) [] [] g fd) (B : Blt mg) (TF : FlC K mg C) (TT : TbC K mg D) (FC : FnC K mg C D N NA) (FA : FnA K mg C D NA FU WR) : FnOk P w K mg base CX0 1 g fd ["value"] (sp_isfunction C D N NA) := by
  refine F.ok sc_isfunction (fun vs H Q E h => ?_) (fun cdv A outer s H vs Q E hr h => ?_)
  · obtain ⟨_, _, _, _, _, _, rfl, _⟩ := h; rfl
  · obtain ⟨v, k, T, f, W, ls, rfl, hw, hv, q⟩ := h
    obtain ⟨t, ⟨hk, _⟩, _, ha⟩ := hv.kn TF TT FC hw
    have g_Native := FC.mgN
    have g_Function := FA.mgF
    have g_Wrapped := FA.mgW
    refine ⟨_, PSs.nox (pss_one (ps_ret (pe_callB call_isiT (by rfl) B.isinstance (by decide +kernel) (pa_cons (pv 0) (pa_cons (pe_tupN (pa_cons (pe_gref g_Function) (pa_cons (pe_gref g_Native) (pa_cons (pe_gref g_Wrapped) pa_nil)))) pa_nil))))), ?_⟩
    walk_at "t"
    refine g_new (sz rfl) fun p H1 n1 s1 h1 _ => ?_
    exact ⟨v, p, _, t, _, _, rfl, h1, .cons (.own _) (.cons (.own _) (.cons (.own _) .nil)), (TyX.same s1 hk.ty), ha _ _ FA, q _ s1⟩
abbrev CIsFn (P : Program) (w : World) (K : PySem.W.Frag) (mg : Str → Option Value) (base : Heap) (C D N NA : Addr) : Prop := Fn P w K mg base CX0 1 "is_function" ["value"] [] (sp_isfunction C D N NA)
/-! meta_of -/
def MetaOk (W : Wm) : Prop := ∀ a e, W a = some e → e.me = .non ∨ ∃ m em, e.me = .ref m ∧ W m = some em
/-- the metatable of a value -/
def metaT (W : Wm) : V → Option Tn
  | .ref a => match W a with
    | some e => match e.me with
      | .ref m => W m
      | _ => none
    | none => none
  | _ => none
/-- a field of a value's metatable -/
noncomputable def metaV (W : Wm) (v : V) (name : Str) : V := match metaT W v with
  | some e => getX e.t (.str name)
  | none => .non
theorem ky_strW {x : Str} : KyAt C D H (.str x) ⟨.str x, 0⟩ := ⟨rfl, fun a e => nomatch e⟩
theorem kg_str {x : Str} {no : Int} : KG (plK ⟨.str x, no⟩) := ⟨⟨fun z => (nomatch z), rfl, rfl⟩, trivial⟩
theorem no_str {x : Str} {no : Int} : NoOk f (plK ⟨.str x, no⟩) := fun a z => nomatch z
theorem Wo.gets {Q : VK} {E : XK} (h : Wo C D N T f H W ls) {e : Tn} (hi : W a = some e) (x : Str) (q : ∀ H', Same H H' → Q (getX e.t (.str x)) H') : sp_get C D N (V.ref a :: ([.str x] ++ [])) H Q E := h.get hi ky_strW kg_str no_str q
theorem sc_metaof : FnScope ["value", "name"] ["value", "name"] (defScope s_metaof) := ⟨rfl, rfl, rfl, by decide +kernel, rfl, by decide +kernel, by decide +kernel⟩
theorem notab_fn (FC : FnC K mg C D N NA) (hw : Wo C D N T f H W ls) (h : NatAt NA H a) : W a = none := by
  cases e : W a with
  | none => rfl
  | some x =>
    obtain ⟨dx, ho⟩ := hw.obj e
    obtain ⟨_, _, _, h⟩ := h
    rw [ho] at h
    injection h with h
    injection h with h
    exact absurd h.symm FC.nd
theorem notab_fl (L : Cl3 C D N) (hw : Wo C D N T f H W ls) {s : Int} {t : V} {p : Int} (h : FlAt C H a s t p) : W a = none := by
  cases e : W a with
  | none => rfl
  | some x =>
    obtain ⟨dx, ho⟩ := hw.obj e
    obtain ⟨_, h⟩ := h
    rw [ho] at h
    injection h with h
    injection h with h
    exact absurd h.symm L.cd
theorem VkAt.noT (L : Cl3 C D N) (FC : FnC K mg C D N NA) (hw : Wo C D N T f H W ls) : ∀ {k : Vk}, VkAt C NA H W v k → k.isT = false → metaT W v = none
  | .nil, z, _ => by cases (show v = _ from z); rfl
  | .bl _, z, _ => by cases (show v = _ from z); rfl
  | .int _, z, _ => by cases (show v = _ from z); rfl
  | .str _, z, _ => by cases (show v = _ from z); rfl
  | .flt _ _ _, ⟨b, e, h, _⟩, _ => by
    subst e
    have := notab_fl L hw h
    unfold metaT
    simp only [this]
  | .fn _, ⟨e, h⟩, _ => by
    subst e
    have := notab_fn FC hw h
    unfold metaT
    simp only [this]
def sp_metaof (C D N NA : Addr) : Sp := fun vs H Q _ => ∃ v k T f W ls name, vs = [v, .str name] ∧ Wo C D N T f H W ls ∧ MetaOk W ∧ VkAt C NA H W v k ∧ ∀ H', Same H H' → Q (metaV W v name) H'
theorem ok_metaof {g : Addr} {fd : FuncData} (F : FunD K "meta_of" "meta_of" (defArgs s_metaof) (defBody s_metaof) (defScope s_metaof) [] [] g fd) (B : Blt mg) (L : Cl3 C D N) (TF : FlC K mg C) (TT : TbC K mg D) (FC : FnC K mg C D N NA) (c_get : Mt P w K mg base CX0 6 D "get" ["self", "key"] (sp_get C D N)) : FnOk P w K mg base CX0 7 g fd ["value", "name"] (sp_metaof C D N NA) := by
  have g_Table := TT.mg
  refine F.ok sc_metaof (fun vs H Q E h => ?_) (fun cdv A outer s H vs Q E hr h => ?_)
  · obtain ⟨_, _, _, _, _, _, _, rfl, _⟩ := h; rfl
  · obtain ⟨v, k, T, f, W, ls, name, rfl, hw, hm, hv, q⟩ := h
    obtain ⟨t, ⟨hk, ht⟩, _⟩ := hv.kn TF TT FC hw
    refine ⟨_, PSs.nox (pss_cons (ps_if (PW.pt (pw_or (pt_not (pt_val (pe_callB call_isi (by rfl) B.isinstance (by decide +kernel) (pa_cons (pv 0) (pa_cons (pe_gref g_Table) pa_nil))))) (pw_or1 (pt_cmpR op_isN (pe_fld (pv 0) rfl) pe_non (nomark _))))) (pss_one (ps_ret pe_non)) pss_nil)
  (pss_one (ps_ret (pe_mt c_get (hr.mono (by first | decide | omega)) pass0 (pe_fld (pv 0) rfl) (pa_cons (pv 1) pa_nil))))), ?_⟩
    walk_at "t"
    refine g_isi hk.ty (.own _) ht ?_
    walk_at "t"
    cases hkt : k.isT with
    | false =>
      have e : metaV W v name = .non := by
        unfold metaV
        rw [hv.noT L FC hw hkt]
      rw [e] at q
      refine iteT ?_
      walk_at "t"
      exact q _ (Same.refl _)
    | true =>
      cases k with
      | tab a =>
        obtain ⟨rfl, e, he⟩ := hv
        obtain ⟨dx, ho⟩ := hw.obj he
        refine iteF ?_
        walk_at "t"
        rcases hm a e he with z | ⟨m, em, z, hm2⟩
        · have e2 : metaV W (.ref a) name = .non := by
            unfold metaV metaT
            simp only [he, z]
          rw [e2] at q
          refine g_yes z ?_
          walk_at "t"
          exact q _ (Same.refl _)
        · have e2 : metaV W (.ref a) name = getX em.t (.str name) := by
            unfold metaV metaT
            simp only [he, z, hm2]
          rw [e2] at q
          refine g_no (by rw [z]; exact fun y => nomatch y) ?_
          walk_at "t"
          obtain ⟨dm, hom⟩ := hw.obj hm2
          refine ⟨m, dm, _, z, hom, rfl, ?_⟩
          walk_at "t"
          rw [z]
          exact hw.gets hm2 name q
      | _ => cases hkt
abbrev CMeta (P : Program) (w : World) (K : PySem.W.Frag) (mg : Str → Option Value) (base : Heap) (C D N NA : Addr) : Prop := Fn P w K mg base CX0 7 "meta_of" ["value", "name"] [] (sp_metaof C D N NA)
end
end Up

set_option Elab.async false
set_option linter.all false
set_option maxRecDepth 100000
set_option maxHeartbeats 4000000
namespace Up
open PySem PySem.Spec PyProof.Rows L2
/-! ### x is True, x is False; f-strings; xs[::-1] -/
def rIsBool : R2 := fun x y H Q => ∃ b, y = .bl b ∧ Q (.bl (decide (x = .bl b))) H
def rNotBool : R2 := fun x y H Q => ∃ b, y = .bl b ∧ Q (.bl (!decide (x = .bl b))) H
section
variable {X : Cx}
theorem op_isBool : OpR X (compareOp .Is) rIsBool := by
  intro pins s σ H x y v u Q I rx ry h
  obtain ⟨b, rfl, q⟩ := h
  cases (show u = Value.bool b from ry)
  by_cases e : x = .bl b
  · subst e
    cases (show v = Value.bool b from rx)
    exact wpAny_is_self rfl ⟨.bl true, H, I, rfl, by simpa using q⟩
  · have ne : v ≠ Value.bool b := fun z => by
      subst z
      cases x with
      | bl c => exact e (by cases (show Value.bool b = Value.bool c from rx); rfl)
      | _ => first | (obtain ⟨t, z⟩ := rx; cases z) | cases rx
    exact wpAny_is_other (by cases x <;> first | (obtain ⟨t, rfl⟩ := rx; rfl) | (cases rx; rfl)) ne ⟨.bl false, H, I, rfl, by simpa [e] using q⟩
theorem op_notBool : OpR X (compareOp .IsNot) rNotBool := by
  intro pins s σ H x y v u Q I rx ry h
  obtain ⟨b, rfl, q⟩ := h
  cases (show u = Value.bool b from ry)
  by_cases e : x = .bl b
  · subst e
    cases (show v = Value.bool b from rx)
    exact wpAny_isNot_self rfl ⟨.bl false, H, I, rfl, by simpa using q⟩
  · have ne : v ≠ Value.bool b := fun z => by
      subst z
      cases x with
      | bl c => exact e (by cases (show Value.bool b = Value.bool c from rx); rfl)
      | _ => first | (obtain ⟨t, z⟩ := rx; cases z) | cases rx
    exact wpAny_isNot_other (by cases x <;> first | (obtain ⟨t, rfl⟩ := rx; rfl) | (cases rx; rfl)) ne ⟨.bl true, H, I, rfl, by simpa [e] using q⟩
end
theorem upd_sm {H H4 : Hp} {p : Addr} {o : HO} (S : Same H H4) (h : H p = none) : Same H (upd H4 p o) := fun b u e => by rw [upd_ne (ne_of_none e h)]; exact S b u e
section
variable {σ : L2.St} {H : Hp} {Q : VK} {te : TE}
theorem g_isBool {x : V} {b : Bool} (h : Q (.bl (decide (x = .bl b))) H) : rIsBool x (.bl b) H Q := ⟨b, rfl, h⟩
theorem g_notBool {x : V} {b : Bool} (h : Q (.bl (!decide (x = .bl b))) H) : rNotBool x (.bl b) H Q := ⟨b, rfl, h⟩
theorem g_joined {ts : List TE} (h : tJs ts Str.empty σ H fun out H1 => Q (.str out) H1) : (fun σ H Q => tJs ts Str.empty σ H fun out H1 => Q (.str out) H1 : TE) σ H Q := h
theorem g_js {t : TE} {ts : List TE} {acc : Str} {R : Str → Hp → Prop} (h : t σ H fun x H1 => ∃ y : Str, x = .str y ∧ (acc ++ y).length ≤ sizeLine ∧ tJs ts (acc ++ y) σ H1 R) : tJs (t :: ts) acc σ H R := h
theorem g_js0 {acc : Str} {R : Str → Hp → Prop} (h : R acc H) : tJs [] acc σ H R := h
theorem g_jsS {acc a : Str} {T : Str → Prop} (hz : (acc ++ a).length ≤ sizeLine) (h : T a) : ∃ y : Str, V.str a = .str y ∧ (acc ++ y).length ≤ sizeLine ∧ T y := ⟨a, rfl, hz, h⟩
theorem g_fmt (h : te σ H fun x H1 => (∃ y : Str, x = .str y ∧ y.length ≤ sizeLine ∧ Q (.str y) H1) ∨ ∃ i : Int, x = .int i ∧ i.natAbs.log2 < 1920 ∧ Q (.str (toString i)) H1) : tFmt te σ H Q := h
theorem g_fmtS {y : Str} {T : Str → Prop} {U : Prop} (hz : y.length ≤ sizeLine) (h : T y) : (∃ y', V.str y = .str y' ∧ y'.length ≤ sizeLine ∧ T y') ∨ U := .inl ⟨y, rfl, hz, h⟩
theorem g_revL {K : PySem.W.Frag} (h : te σ H fun x H1 => ∃ a xs, x = .ref a ∧ SqL K H1 a xs ∧ ∀ p, H1 p = none → Q (.ref p) (upd H1 p (.lst xs.reverse))) : tRevL K te σ H Q := h
theorem g_callTy {r : List V → Hp → VK → Prop} {t : TA} (h : t σ H fun vs H1 => r vs H1 Q) : tCB r t σ H Q := h
theorem fstr_msg (x : Str) : ((Str.empty ++ x : Str)) = x := by
  show (⟨#[] ++ x.cps⟩ : Str) = x
  rw [Array.empty_append]
theorem un1 {n : Nat} (h : n + 64 < cLine) : n + 1 < cLine := by omega
theorem g_dgetR {td ty : TE} (h : td σ H fun x H1 => ty σ H1 fun y H2 => ∃ a v, x = .ref a ∧ DGet H2 a y (some v) ∧ Q v H2) : tDGet td ty σ H Q := h
/-- t[lo:hi], not the whole -/
def oSlT (K : PySem.W.Frag) : V → Option Int → Option Int → Hp → VK → Prop := fun x lo hi H Q => ∃ a xs, x = .ref a ∧ SqT K H a xs ∧ ¬ (HT.sIx xs.length 0 lo = 0 ∧ HT.sIx xs.length xs.length hi = xs.length) ∧ NewAt H (.tup (cutV xs lo hi)) Q
theorem sl_tupN {X : Cx} : SlR X (oSlT X.K) := by
  intro pins s σ H x v vl vu lo hi sl Q I rx hs pl pu h
  obtain ⟨a, xs, e, hq, hw, q⟩ := h
  exact sl_tup pins s σ H x v vl vu lo hi sl Q I rx hs pl pu ⟨a, xs, e, hq, hw, q.all⟩
theorem g_self {x : V} {A B : Prop} (h : A) : if decide (x = x) = true then A else B := by rw [if_pos (by simp)]; exact h
theorem g_selfN {x : V} {A B : Prop} (h : B) : if (!decide (x = x)) = true then A else B := by rw [if_neg (by simp)]; exact h
theorem g_rN {a : Addr} {A B : Prop} (h : B) : if decide (V.ref a = V.non) = true then A else B := by rw [if_neg (by simp)]; exact h
theorem g_rNN {a : Addr} {A B : Prop} (h : A) : if (!decide (V.ref a = V.non)) = true then A else B := by rw [if_pos (by simp)]; exact h
theorem g_iN {a : Int} {A B : Prop} (h : B) : if decide (V.int a = V.non) = true then A else B := by rw [if_neg (by simp)]; exact h
theorem g_iNN {a : Int} {A B : Prop} (h : A) : if (!decide (V.int a = V.non)) = true then A else B := by rw [if_pos (by simp)]; exact h
theorem g_sN {a : Str} {A B : Prop} (h : B) : if decide (V.str a = V.non) = true then A else B := by rw [if_neg (by simp)]; exact h
theorem g_sNN {a : Str} {A B : Prop} (h : A) : if (!decide (V.str a = V.non)) = true then A else B := by rw [if_pos (by simp)]; exact h
theorem g_bN {a : Bool} {A B : Prop} (h : B) : if decide (V.bl a = V.non) = true then A else B := by rw [if_neg (by simp)]; exact h
theorem g_bNN {a : Bool} {A B : Prop} (h : A) : if (!decide (V.bl a = V.non)) = true then A else B := by rw [if_pos (by simp)]; exact h
end
end Up

set_option Elab.async false
set_option linter.all false
set_option pp.maxSteps 600
set_option maxRecDepth 100000
set_option maxHeartbeats 4000000
set_option exponentiation.threshold 200000
namespace Up
open PySem PySem.Spec PyProof.Rows L2 LamX
local macro_rules | `(tactic| walk_at "u") => `(tactic| first
  | with_reducible refine g_seq ?_
  | with_reducible refine g_asg ?_
  | with_reducible refine g_op ?_
  | ((with_reducible show tVar _ _ _ _); apply g_var; exact rfl)
  | with_reducible refine g_c ?_
  | with_reducible refine g_name ?_
  | with_reducible refine g_ifs ?_
  | with_reducible refine g_tt ?_
  | with_reducible refine g_tB ?_
  | with_reducible refine g_bl ?_
  | with_reducible refine g_ret ?_
  | with_reducible refine g_cb ?_
  | with_reducible refine g_cons ?_
  | with_reducible refine g_nil ?_
  | with_reducible refine g_call ?_
  | with_reducible refine g_and ?_
  | with_reducible refine g_or ?_
  | with_reducible refine g_not ?_
  | with_reducible refine g_andV ?_
  | with_reducible refine g_orV ?_
  | with_reducible refine g_notV ?_
  | with_reducible refine g_if ?_
  | with_reducible refine g_un ?_
  | with_reducible refine g_neg ?_
  | with_reducible refine g_addI ?_
  | with_reducible refine g_subI ?_
  | with_reducible refine g_subB ?_
  | with_reducible refine g_I0 ?_
  | with_reducible refine g_cmpI ?_
  | with_reducible refine g_eqI ?_
  | with_reducible refine g_neI ?_
  | with_reducible refine g_eqS ?_
  | with_reducible refine g_neS ?_
  | with_reducible refine g_eqB ?_
  | with_reducible refine g_neB ?_
  | with_reducible refine g_bits ?_
  | with_reducible refine g_bitsI ?_
  | with_reducible refine g_fld ?_
  | with_reducible refine g_tup ?_
  | with_reducible refine g_lst ?_
  | with_reducible refine g_gtup ?_
  | with_reducible refine g_make ?_
  | with_reducible refine g_lc ?_
  | with_reducible refine g_yesT ?_
  | with_reducible refine g_intI ?_
  | with_reducible refine g_intB ?_
  | with_reducible refine g_max2 ?_
  | with_reducible refine g_abs1 ?_
  | with_reducible refine g_for ?_
  | with_reducible refine g_iList ?_
  | with_reducible refine g_iTup ?_
  | with_reducible refine g_iRng1 ?_
  | with_reducible refine g_iEnum ?_
  | with_reducible refine g_slice ?_
  | with_reducible refine g_po0 ?_
  | with_reducible refine g_po1 ?_
  | with_reducible refine g_gsub ?_
  | with_reducible refine g_par ?_
  | with_reducible refine g_par2 ?_
  | with_reducible refine g_rfl ?_
  | with_reducible refine g_meth ?_
  | with_reducible refine g_gcons ?_
  | with_reducible refine g_gnil ?_
  | with_reducible refine g_gfld ?_
  | with_reducible refine g_sfld ?_
  | with_reducible refine g_drop ?_
  | with_reducible refine g_next ?_
  | with_reducible refine iteT ?_
  | with_reducible refine iteF ?_)
local macro_rules | `(tactic| walk_at "go") => `(tactic| (repeat walk_at "u"))
local macro_rules | `(tactic| walk_at "t1") => `(tactic| (first
  | walk_at "u"
  | with_reducible refine g_chain ?_
  | with_reducible refine g_par3 ?_
  | with_reducible refine g_par3' ?_
  | with_reducible refine g_augS ?_
  | with_reducible refine g_nt ?_
  | with_reducible refine g_nf ?_
  | with_reducible refine g_methK ?_
  | with_reducible refine g_makeK ?_
  | with_reducible refine g_iRng2 ?_
  | with_reducible refine g_bm ?_
  | with_reducible refine g_fldaug ?_
  | with_reducible refine g_iStr ?_
  | with_reducible refine g_ipI ?_
  | ((with_reducible show tAug _ _ _ _ _ _); refine ⟨_, rfl, ?_⟩)
  | ((with_reducible refine show_exT ?_); first
    | refine rdT3 (by assumption) (by assumption) ?_
    | refine rdT4 (by assumption) (by assumption) ?_
    | refine rdT5 (by assumption) (by assumption) ?_
    | refine rdT1 (by assumption) (by assumption) ?_
    | refine rdT2 (by assumption) (by assumption) ?_
    | refine rdN1 (by assumption) (by assumption) ?_
    | refine rdN2 (by assumption) (by assumption) ?_
    | refine rdN3 (by assumption) (by assumption) ?_
    | refine rdN4 (by assumption) (by assumption) ?_)))
local macro_rules | `(tactic| walk_at "t") => `(tactic| (repeat walk_at "t1"))
local macro_rules | `(tactic| walk_at "v") => `(tactic| (repeat (first
  | walk_at "t1"
  | with_reducible refine g_js ?_
  | with_reducible refine g_js0 ?_
  | with_reducible refine g_fmt ?_
  | with_reducible refine g_joined ?_
  | with_reducible refine g_isBool ?_
  | with_reducible refine g_notBool ?_
  | with_reducible refine g_revL ?_
  | with_reducible refine g_self ?_
  | with_reducible refine g_selfN ?_
  | with_reducible refine g_rN ?_
  | with_reducible refine g_rNN ?_
  | with_reducible refine g_iN ?_
  | with_reducible refine g_iNN ?_
  | with_reducible refine g_sN ?_
  | with_reducible refine g_sNN ?_
  | with_reducible refine g_bN ?_
  | with_reducible refine g_bNN ?_)))

section
variable {P : Program} {w : World} {K : PySem.W.Frag} {mg : Str → Option Value} {base : Heap} {C D N NA CT : Addr} {H H' H1 : Hp} {a : Addr} {f : Addr → Int} {W W' : Wm} {ls : List (Addr × HO)} {T : List (Addr × Str)} {v : V} {name : Str}
/-- a value's metatable -/
def meV (W : Wm) : V → V
  | .ref a => match W a with
    | some e => e.me
    | none => .non
  | _ => .non
theorem VkAt.noM (L : Cl3 C D N) (FC : FnC K mg C D N NA) (hw : Wo C D N T f H W ls) : ∀ {k : Vk}, VkAt C NA H W v k → k.isT = false → meV W v = .non
  | .nil, z, _ => by cases (show v = _ from z); rfl
  | .bl _, z, _ => by cases (show v = _ from z); rfl
  | .int _, z, _ => by cases (show v = _ from z); rfl
  | .str _, z, _ => by cases (show v = _ from z); rfl
  | .flt _ _ _, ⟨b, e, h, _⟩, _ => by
    subst e
    have := notab_fl L hw h
    unfold meV
    simp only [this]
  | .fn _, ⟨e, h⟩, _ => by
    subst e
    have := notab_fn FC hw h
    unfold meV
    simp only [this]
/-! set_meta -/
theorem sc_setmeta : FnScope ["table", "meta"] ["table", "meta"] (defScope s_setmeta) := ⟨rfl, rfl, rfl, by decide +kernel, rfl, by decide +kernel, by decide +kernel⟩
def sp_setmeta (C D N NA CT : Addr) : Sp := fun vs H Q E => ∃ a u T f W ls e, vs = [.ref a, u] ∧ Wo C D N T f H W ls ∧ MetaOk W ∧ W a = some e ∧
  ((metaV W (.ref a) "__metatable" = .non ∧ ∀ H', Wo C D N T f H' (updW W a { e with me := u }) ls → Kq D N H H' → Q .non H') ∨ (metaV W (.ref a) "__metatable" ≠ .non ∧ ThrR CT (.str "cannot change a protected metatable") H E))
theorem ok_setmeta {g : Addr} {fd : FuncData} (F : FunD K "set_meta" "set_meta" (defArgs s_setmeta) (defBody s_setmeta) (defScope s_setmeta) [] [] g fd) (B : Blt mg) (L : Cl3 C D N) (TT : TbC K mg D) (c_Thrown : CThr P w K mg base CT) (c_metaof : CMeta P w K mg base C D N NA) : FnOk P w K mg base (L2.CX P w) 8 g fd ["table", "meta"] (sp_setmeta C D N NA CT) := by
  refine F.ok sc_setmeta (fun vs H Q E h => ?_) (fun cdv A outer s H vs Q E hr h => ?_)
  · obtain ⟨_, _, _, _, _, _, _, rfl, _⟩ := h; rfl
  · obtain ⟨a, u, T, f, W, ls, e, rfl, hw, hm, he, q⟩ := h
    refine ⟨_, (pss_cons (ps_if (pt_cmpR op_notN (pe_fn c_metaof (hr.mono (by first | decide | omega)) pass0 (pa_cons (pv 0) (pa_cons pe_str pa_nil))) pe_non (nomark _)) (pss_one (ps_thr c_Thrown (hr.mono (by decide)) rfl (takes_of rfl rfl rfl rfl) pe_str)) pss_nil)
  (pss_one (ps_fld (pv 0) (pv 1) rfl))), ?_⟩
    walk_at "t"
    refine ⟨.ref a, .tab a, T, f, W, ls, _, rfl, hw, hm, ⟨rfl, e, he⟩, fun H1 s1 => ?_⟩
    have hw := hw.same s1
    obtain ⟨dx, ho⟩ := hw.obj he
    walk_at "t"
    rcases q with ⟨h1, q⟩ | ⟨h1, q⟩
    · refine g_iten (fun z => absurd h1 z) fun _ => ?_
      walk_at "t"
      refine ⟨a, D, dx, _, rfl, ho, TT.own.cl, TT.n2, Nat.le_of_ble_eq_true rfl, ?_⟩
      walk_at "t"
      obtain ⟨w2, kq⟩ := hw.meta L (me' := u) he ho
      exact q _ w2 ((Kq.same s1).trans kq)
    · refine g_iten (fun _ => ?_) fun z => absurd z h1
      refine g_rai ?_
      refine g_mko ?_
      walk_at "t"
      exact g_thr (q.later s1)
abbrev CSetM (P : Program) (w : World) (K : PySem.W.Frag) (mg : Str → Option Value) (base : Heap) (C D N NA CT : Addr) : Prop := Fn P w K mg base (L2.CX P w) 8 "set_meta" ["table", "meta"] [] (sp_setmeta C D N NA CT)
def sp_setmeta0 (C D N : Addr) : Sp := fun vs H Q _ => ∃ a u T f W ls e, vs = [.ref a, u] ∧ Wo C D N T f H W ls ∧ MetaOk W ∧ W a = some e ∧ metaV W (.ref a) "__metatable" = .non ∧ ∀ H', Wo C D N T f H' (updW W a { e with me := u }) ls → Kq D N H H' → Q .non H'
abbrev CSetM0 (P : Program) (w : World) (K : PySem.W.Frag) (mg : Str → Option Value) (base : Heap) (C D N : Addr) : Prop := Fn P w K mg base CX0 8 "set_meta" ["table", "meta"] [] (sp_setmeta0 C D N)
theorem CSetM.no (h : CSetM P w K mg base C D N NA CT) : CSetM0 P w K mg base C D N := by
  obtain ⟨g, fd, ds, F, h⟩ := h
  exact ⟨g, fd, ds, Up.FnOk.noX F fun vs H Q E ⟨a, u, T, f, W, ls, e, h1, h2, h3, h4, h5, h6⟩ => ⟨a, u, T, f, W, ls, e, h1, h2, h3, h4, .inl ⟨h5, h6⟩⟩, h⟩
/-! told_meta -/
theorem sc_toldmeta : FnScope ["value", "found"] ["value"] (defScope s_toldmeta) := ⟨rfl, rfl, rfl, by decide +kernel, rfl, by decide +kernel, by decide +kernel⟩
noncomputable def toldV (W : Wm) (v : V) : V := if metaV W v "__metatable" = .non then meV W v else metaV W v "__metatable"
def sp_toldmeta (C D N NA : Addr) : Sp := fun vs H Q _ => ∃ v k T f W ls, vs = [v] ∧ Wo C D N T f H W ls ∧ MetaOk W ∧ VkAt C NA H W v k ∧ ∀ H', Same H H' → Q (toldV W v) H'
theorem ok_toldmeta {g : Addr} {fd : FuncData} (F : FunD K "told_meta" "told_meta" (defArgs s_toldmeta) (defBody s_toldmeta) (defScope s_toldmeta) [] [] g fd) (B : Blt mg) (L : Cl3 C D N) (TF : FlC K mg C) (TT : TbC K mg D) (FC : FnC K mg C D N NA) (c_get : Mt P w K mg base CX0 6 D "get" ["self", "key"] (sp_get C D N)) : FnOk P w K mg base CX0 7 g fd ["value"] (sp_toldmeta C D N NA) := by
  have g_Table := TT.mg
  refine F.ok sc_toldmeta (fun vs H Q E h => ?_) (fun cdv A outer s H vs Q E hr h => ?_)
  · obtain ⟨_, _, _, _, _, _, rfl, _⟩ := h; rfl
  · obtain ⟨v, k, T, f, W, ls, rfl, hw, hm, hv, q⟩ := h
    obtain ⟨t, ⟨hk, ht⟩, _⟩ := hv.kn TF TT FC hw
    refine ⟨_, PSs.nox (pss_cons (ps_if (PW.pt (pw_or (pt_not (pt_val (pe_callB call_isi (by rfl) B.isinstance (by decide +kernel) (pa_cons (pv 0) (pa_cons (pe_gref g_Table) pa_nil))))) (pw_or1 (pt_cmpR op_isN (pe_fld (pv 0) rfl) pe_non (nomark _))))) (pss_one (ps_ret pe_non)) pss_nil)
  (pss_cons (ps_set (i := 1) sc_toldmeta.nd rfl (Or.inl rfl) (pe_mt c_get (hr.mono (by first | decide | omega)) pass0 (pe_fld (pv 0) rfl) (pa_cons pe_str pa_nil)))
  (pss_one (ps_ret (pe_ifExp (pt_cmpR op_isN (pv 1) pe_non (nomark _)) (pe_fld (pv 0) rfl) (pv 1)))))), ?_⟩
    walk_at "t"
    refine g_isi hk.ty (.own _) ht ?_
    walk_at "t"
    cases hkt : k.isT with
    | false =>
      have e : toldV W v = .non := by
        unfold toldV metaV
        rw [hv.noT L FC hw hkt, hv.noM L FC hw hkt]
        rfl
      rw [e] at q
      refine iteT ?_
      walk_at "t"
      exact q _ (Same.refl _)
    | true =>
      cases k with
      | tab a =>
        obtain ⟨rfl, e, he⟩ := hv
        obtain ⟨dx, ho⟩ := hw.obj he
        have em : meV W (.ref a) = e.me := by
          unfold meV
          simp only [he]
        refine iteF ?_
        walk_at "t"
        rcases hm a e he with z | ⟨m, en, z, hm2⟩
        · have e2 : toldV W (.ref a) = .non := by
            unfold toldV
            rw [em, z]
            unfold metaV metaT
            simp only [he, z]
            rfl
          rw [e2] at q
          refine g_yes z ?_
          walk_at "t"
          exact q _ (Same.refl _)
        · have e2 : metaV W (.ref a) "__metatable" = getX en.t (.str "__metatable") := by
            unfold metaV metaT
            simp only [he, z, hm2]
          refine g_no (by rw [z]; exact fun y => nomatch y) ?_
          walk_at "t"
          obtain ⟨dm, hom⟩ := hw.obj hm2
          refine ⟨m, dm, _, z, hom, rfl, ?_⟩
          walk_at "t"
          rw [z]
          refine hw.gets hm2 _ fun H1 s1 => ?_
          have ho1 := s1 _ _ ho
          rw [z] at ho1
          walk_at "t"
          have q := q H1 s1
          unfold toldV at q
          rw [e2, em, z] at q
          refine g_ite (fun h1 => ?_) fun h1 => ?_
          · rw [if_pos h1] at q
            walk_at "t"
            exact q
          · rw [if_neg h1] at q
            walk_at "t"
            exact q
      | _ => cases hkt
abbrev CTold (P : Program) (w : World) (K : PySem.W.Frag) (mg : Str → Option Value) (base : Heap) (C D N NA : Addr) : Prop := Fn P w K mg base CX0 7 "told_meta" ["value"] [] (sp_toldmeta C D N NA)
/-! is_closable -/
theorem sc_isclosable : FnScope ["value"] ["value"] (defScope s_isclosable) := ⟨rfl, rfl, rfl, by decide +kernel, rfl, by decide +kernel, by decide +kernel⟩
noncomputable def closB (W : Wm) (v : V) : Bool := decide (v = .non) || (decide (v = .bl false) || !decide (metaV W v "__close" = .non))
def sp_isclosable (C D N NA : Addr) : Sp := fun vs H Q _ => ∃ v k T f W ls, vs = [v] ∧ Wo C D N T f H W ls ∧ MetaOk W ∧ VkAt C NA H W v k ∧ ∀ H', Same H H' → Q (.bl (closB W v)) H'
theorem ok_isclosable {g : Addr} {fd : FuncData} (F : FunD K "is_closable" "is_closable" (defArgs s_isclosable) (defBody s_isclosable) (defScope s_isclosable) [] [] g fd) (B : Blt mg) (c_metaof : CMeta P w K mg base C D N NA) : FnOk P w K mg base CX0 8 g fd ["value"] (sp_isclosable C D N NA) := by
  refine F.ok sc_isclosable (fun vs H Q E h => ?_) (fun cdv A outer s H vs Q E hr h => ?_)
  · obtain ⟨_, _, _, _, _, _, rfl, _⟩ := h; rfl
  · obtain ⟨v, k, T, f, W, ls, rfl, hw, hm, hv, q⟩ := h
    unfold closB at q
    refine ⟨_, PSs.nox (pss_one (ps_ret (pe_or (pe_cmpR op_isN (pv 0) pe_non (nomark _)) (pe_or (pe_cmpR op_isBool (pv 0) pe_bl (nomark _)) (pe_one (pe_cmpR op_notN (pe_fn c_metaof (hr.mono (by first | decide | omega)) pass0 (pa_cons (pv 0) (pa_cons pe_str pa_nil))) pe_non (nomark _))))))), ?_⟩
    walk_at "t"
    refine g_ite (fun h1 => ?_) fun h1 => ?_
    · rw [decide_eq_true h1, Bool.true_or] at q
      walk_at "t"
      exact q _ (Same.refl _)
    · rw [decide_eq_false h1, Bool.false_or] at q
      walk_at "t"
      refine g_isBool ?_
      walk_at "t"
      refine g_ite (fun h2 => ?_) fun h2 => ?_
      · rw [decide_eq_true h2, Bool.true_or] at q
        walk_at "t"
        exact q _ (Same.refl _)
      · rw [decide_eq_false h2, Bool.false_or] at q
        walk_at "t"
        refine ⟨v, k, T, f, W, ls, _, rfl, hw, hm, hv, fun H1 s1 => ?_⟩
        walk_at "t"
        exact q _ s1
abbrev CClos (P : Program) (w : World) (K : PySem.W.Frag) (mg : Str → Option Value) (base : Heap) (C D N NA : Addr) : Prop := Fn P w K mg base CX0 8 "is_closable" ["value"] [] (sp_isclosable C D N NA)
/-! call_target -/
inductive CtR where
  | ok (v : V) (as : List V)
  | thr (msg : Str)
def callMsg (k : Vk) : Str := ("attempt to call a " ++ kindS k) ++ " value"
def longMsg : Str := "'__call' chain too long; possibly a loop"
inductive CtS (C NA : Addr) (fl : Bool) (H : Hp) (W : Wm) : Nat → V → List V → CtR → Prop
  | long {c : V} {as : List V} : CtS C NA fl H W 0 c as (.thr longMsg)
  | fn {n : Nat} {c : V} {as : List V} {k : Vk} : VkAt C NA H W c k → k.isFn = true → CtS C NA fl H W (n + 1) c as (.ok c as)
  | bad {n : Nat} {c : V} {as : List V} {k : Vk} : VkAt C NA H W c k → k.isFn = false → metaV W c "__call" = .non → (k.isF = true → fl = true) → CtS C NA fl H W (n + 1) c as (.thr (callMsg k))
  | go {n : Nat} {c : V} {as : List V} {k : Vk} {u : V} {r : CtR} : VkAt C NA H W c k → k.isFn = false → metaV W c "__call" = u → u ≠ .non → CtS C NA fl H W n u (c :: as) r → CtS C NA fl H W (n + 1) c as r
theorem CtS.same {fl : Bool} (s : Same H H') {n : Nat} {c : V} {as : List V} {r : CtR} (h : CtS C NA fl H W n c as r) : CtS C NA fl H' W n c as r := by
  induction h with
  | long => exact .long
  | fn h1 h2 => exact .fn (h1.same s) h2
  | bad h1 h2 h3 h4 => exact .bad (h1.same s) h2 h3 h4
  | go h1 h2 h3 h4 _ ih => exact .go (h1.same s) h2 h3 h4 ih
def CtQ (CT : Addr) (H : Hp) (Q : VK) (E : XK) : CtR → Prop
  | .ok v as => ∀ H' p l, H p = none → H l = none → Same H H' → H' p = some (.tup [v, .ref l]) → H' l = some (.lst as) → Q (.ref p) H'
  | .thr m => ThrR CT (.str m) H E
theorem sc_calltarget : FnScope ["called", "args", "turn", "event"] ["called", "args"] (defScope s_calltarget) := ⟨rfl, rfl, rfl, by decide +kernel, rfl, by decide +kernel, by decide +kernel⟩
def sp_calltarget (C D N NA CT : Addr) (fl : Bool) : Sp := fun vs H Q E => ∃ c la as T f W ls r, vs = [c, .ref la] ∧ Wo C D N T f H W ls ∧ MetaOk W ∧ H la = some (.lst as) ∧ as.length ≤ 500 ∧ CtS C NA fl H W 100 c as r ∧ CtQ CT H Q E r
theorem kind_len (k : Vk) : (kindS k).length ≤ 20 := by cases k <;> simp only [kindS] <;> decide +kernel
theorem ok_calltarget {fl : Bool} {g : Addr} {fd : FuncData} (F : FunD K "call_target" "call_target" (defArgs s_calltarget) (defBody s_calltarget) (defScope s_calltarget) [] [] g fd) (B : Blt mg) (i_MOST_CALLED : ∃ t, mg "MOST_CALLED" = some (.int 100 t)) (c_Thrown : CThr P w K mg base CT) (c_isfunction : CIsFn P w K mg base C D N NA) (c_metaof : CMeta P w K mg base C D N NA) (c_kindname : CKind P w K mg base C D N NA fl) :
    FnOk P w K mg base (L2.CX P w) 8 g fd ["called", "args"] (sp_calltarget C D N NA CT fl) := by
  refine F.ok sc_calltarget (fun vs H Q E h => ?_) (fun cdv A outer s H vs Q E hr h => ?_)
  · obtain ⟨_, _, _, _, _, _, _, _, rfl, _⟩ := h; rfl
  · obtain ⟨c, la, as, T, f, W, ls, r, rfl, hw, hm, hla, hz, hc, q⟩ := h
    have i_MC := i_MOST_CALLED
    refine ⟨_, (pss_cons (ps_set (i := 1) sc_calltarget.nd rfl (Or.inl rfl) (pe_callTy call_list_of (by rfl) B.list (by decide +kernel) (pa_cons (pv 1) pa_nil)))
  (pss_cons (ps_for (passes_of rfl) rfl (pi_range1 (by rfl) B.range (pa_cons (pe_gint i_MOST_CALLED) pa_nil)) (pg_name (i := 2) sc_calltarget.nd rfl (Or.inl rfl))
    (pss_cons (ps_if (pt_val (pe_fn c_isfunction (hr.mono (by first | decide | omega)) pass0 (pa_cons (pv 0) pa_nil))) (pss_one (ps_ret (pe_tupN (pa_cons (pv 0) (pa_cons (pv 1) pa_nil))))) pss_nil)
  (pss_cons (ps_set (i := 3) sc_calltarget.nd rfl (Or.inl rfl) (pe_fn c_metaof (hr.mono (by first | decide | omega)) pass0 (pa_cons (pv 0) (pa_cons pe_str pa_nil))))
  (pss_cons (ps_if (pt_cmpR op_isN (pv 3) pe_non (nomark _)) (pss_one (ps_thr c_Thrown (hr.mono (by decide)) rfl (takes_of rfl rfl rfl rfl) (pe_joined (.cons pe_str (.cons (pe_fmt (pe_fn c_kindname (hr.mono (by first | decide | omega)) pass0 (pa_cons (pv 0) pa_nil))) (.cons pe_str .nil)))))) pss_nil)
  (pss_cons (ps_set (i := 1) sc_calltarget.nd rfl (Or.inl rfl) (pe_op op_oAdd (pe_lstN (pa_cons (pv 0) pa_nil)) (pv 1)))
  (pss_one (ps_set (i := 0) sc_calltarget.nd rfl (Or.inl rfl) (pv 3))))))))
  (pss_one (ps_thr c_Thrown (hr.mono (by decide)) rfl (takes_of rfl rfl rfl rfl) pe_str)))), ?_⟩
    walk_at "v"
    refine ⟨la, _, rfl, .inl (SqL.of hla), fun l1 n1 => ?_⟩
    walk_at "v"
    refine ⟨by decide, by decide, ?_⟩
    refine for_range (n := 100) (fun i σ' H' => ∃ (n : Nat) (c : V) (as : List V) (l : Addr) (e2 e3 : Option V), n + i = 100 ∧ σ' = [some c, some (.ref l), e2, e3] ∧ Same H H' ∧ H' l = some (.lst as) ∧ H l = none ∧ as.length ≤ 500 + i ∧ CtS C NA fl H' W n c as r)
      ⟨100, c, as, l1, none, none, rfl, rfl, upd_sm (Same.refl _) n1, upd_same, n1, hz, hc.same (upd_sm (Same.refl _) n1)⟩ ?_ ?_
    · rintro i _ H1 hi ⟨n, c, as, l, e2, e3, hn, rfl, s1, hl, nl, hz, hc⟩
      have hw1 := hw.same s1
      walk_at "v"
      cases hc with
      | long => omega
      | @fn n _ _ k hv hk =>
        refine ⟨c, k, T, f, W, ls, rfl, hw1, hv, fun H2 s2 => ?_⟩
        rw [hk]
        walk_at "v"
        refine g_new (sz rfl) fun p H3 n3 s3 h3 _ => ?_
        exact q H3 p l ((s1.trans s2).free n3) nl ((s1.trans s2).trans s3) h3 (s3 _ _ (s2 _ _ hl))
      | @bad n _ _ k hv hk hm2 hfl =>
        refine ⟨c, k, T, f, W, ls, rfl, hw1, hv, fun H2 s2 => ?_⟩
        rw [hk]
        walk_at "v"
        refine ⟨c, k, T, f, W, ls, _, rfl, hw1.same s2, hm, hv.same s2, fun H3 s3 => ?_⟩
        rw [hm2]
        walk_at "v"
        refine g_rai ?_
        refine g_mko ?_
        walk_at "v"
        refine g_jsS (sz (by decide +kernel)) ?_
        walk_at "v"
        refine ⟨c, k, T, f, W, ls, rfl, (hw1.same s2).same s3, (hv.same s2).same s3, hfl, ?_⟩
        refine g_fmtS (by cases k <;> simp only [kindS] <;> exact sz (by decide +kernel)) ?_
        refine g_jsS (by cases k <;> simp only [kindS] <;> exact sz (by decide +kernel)) ?_
        walk_at "v"
        refine g_jsS (by cases k <;> simp only [kindS] <;> exact sz (by decide +kernel)) ?_
        walk_at "v"
        rw [fstr_msg]
        exact g_thr (ThrR.later (show ThrR CT (.str (callMsg k)) H E from q) ((s1.trans s2).trans s3))
      | @go n _ _ k u _ hv hk hm2 hu hc =>
        refine ⟨c, k, T, f, W, ls, rfl, hw1, hv, fun H2 s2 => ?_⟩
        rw [hk]
        walk_at "v"
        refine ⟨c, k, T, f, W, ls, _, rfl, hw1.same s2, hm, hv.same s2, fun H3 s3 => ?_⟩
        rw [hm2]
        walk_at "v"
        refine g_no hu ?_
        walk_at "v"
        refine g_new (sz rfl) fun l4 H4 n4 s4 h4 _ => ?_
        walk_at "v"
        refine .inl ⟨l4, l, _, _, rfl, rfl, SqL.of h4, SqL.of (s4 _ _ (s3 _ _ (s2 _ _ hl))), sz (Nat.ble_eq.mpr (by simp; omega)), fun l5 H5 n5 s5 h5 _ => ?_⟩
        walk_at "v"
        have S4 := ((s1.trans s2).trans s3).trans s4
        exact ⟨n, u, c :: as, l5, _, _, by omega, rfl, S4.trans s5, h5, S4.free n5, by simp; omega, hc.same (((s2.trans s3).trans s4).trans s5)⟩
    · rintro _ H1 ⟨n, c, as, l, e2, e3, hn, rfl, s1, hl, nl, hz, hc⟩
      have : n = 0 := by omega
      subst this
      cases hc
      show tRai (tMkO CT (sp_ThrInit CT) [V.int 1] (tCons (tC (V.str longMsg)) tNil)) (fun cls d x H => E cls d H) { nx := fun _ H' => Q V.non H', rt := Q } [some c, some (V.ref l), e2, e3] H1
      refine g_rai ?_
      refine g_mko ?_
      walk_at "v"
      exact g_thr (ThrR.later (show ThrR CT (.str longMsg) H E from q) s1)
abbrev CCallT (P : Program) (w : World) (K : PySem.W.Frag) (mg : Str → Option Value) (base : Heap) (C D N NA CT : Addr) (fl : Bool) : Prop := Fn P w K mg base (L2.CX P w) 8 "call_target" ["called", "args"] [] (sp_calltarget C D N NA CT fl)
end
end Up

set_option Elab.async false
set_option linter.all false
set_option pp.maxSteps 600
set_option maxRecDepth 100000
set_option maxHeartbeats 4000000
set_option exponentiation.threshold 200000
namespace Up
open PySem PySem.Spec PyProof.Rows L2 LamX
section
variable {P : Program} {w : World} {K : PySem.W.Frag} {mg : Str → Option Value} {base : Heap} {C D N NA CT : Addr} {H H' H1 : Hp} {a : Addr} {f : Addr → Int} {W W' : Wm} {ls : List (Addr × HO)} {T : List (Addr × Str)} {v u : V} {name : Str} {k k' : Vk}
/-! ### what comes of a deed -/
inductive Dd where
  | val (v : V)
  | num (n : Nm)
  | call (f : V) (as : List V) (sh : Str)
  | thr (msg : Str)
def DdQ (C CT : Addr) (H : Hp) (Q : VK) (E : XK) : Dd → Prop
  | .val v => ∀ H' p, H p = none → Same H H' → H' p = some (.tup [.str "value", v]) → Q (.ref p) H'
  | .num n => ∀ H' p v, H p = none → Same H H' → NumAt C H' v n → H' p = some (.tup [.str "value", v]) → Q (.ref p) H'
  | .call f as sh => ∀ H' p l, H p = none → H l = none → Same H H' → H' p = some (.tup [.str "call", f, .ref l, .str sh]) → H' l = some (.lst as) → Q (.ref p) H'
  | .thr m => ThrR CT (.str m) H E
theorem DdQ.later {Q : VK} {E : XK} {d : Dd} (h : DdQ C CT H Q E d) (s : Same H H') : DdQ C CT H' Q E d := by
  cases d with
  | val v => exact fun H2 p np s2 hp => h H2 p (s.free np) (s.trans s2) hp
  | num n => exact fun H2 p v np s2 hv hp => h H2 p v (s.free np) (s.trans s2) hv hp
  | call f as sh => exact fun H2 p l np nl s2 hp hl => h H2 p l (s.free np) (s.free nl) (s.trans s2) hp hl
  | thr m => exact ThrR.later h s
theorem DdQ.mkv {Q : VK} {E : XK} {v : V} (h : DdQ C CT H Q E (.val v)) : [V.str "value", v].length ≤ sizeLine ∧ NewAt H (.tup [.str "value", v]) Q := ⟨sz rfl, fun p H' np s hp _ => h H' p np s hp⟩
end
end Up

set_option Elab.async false
set_option linter.all false
set_option pp.maxSteps 600
set_option maxRecDepth 100000
set_option maxHeartbeats 4000000
set_option exponentiation.threshold 200000
namespace Up
open PySem PySem.Spec PyProof.Rows L2 LamX
local macro_rules | `(tactic| walk_at "u") => `(tactic| first
  | with_reducible refine g_seq ?_
  | with_reducible refine g_asg ?_
  | with_reducible refine g_op ?_
  | ((with_reducible show tVar _ _ _ _); apply g_var; exact rfl)
  | with_reducible refine g_c ?_
  | with_reducible refine g_name ?_
  | with_reducible refine g_ifs ?_
  | with_reducible refine g_tt ?_
  | with_reducible refine g_tB ?_
  | with_reducible refine g_bl ?_
  | with_reducible refine g_ret ?_
  | with_reducible refine g_cb ?_
  | with_reducible refine g_cons ?_
  | with_reducible refine g_nil ?_
  | with_reducible refine g_call ?_
  | with_reducible refine g_and ?_
  | with_reducible refine g_or ?_
  | with_reducible refine g_not ?_
  | with_reducible refine g_andV ?_
  | with_reducible refine g_orV ?_
  | with_reducible refine g_notV ?_
  | with_reducible refine g_if ?_
  | with_reducible refine g_un ?_
  | with_reducible refine g_neg ?_
  | with_reducible refine g_addI ?_
  | with_reducible refine g_subI ?_
  | with_reducible refine g_subB ?_
  | with_reducible refine g_I0 ?_
  | with_reducible refine g_cmpI ?_
  | with_reducible refine g_eqI ?_
  | with_reducible refine g_neI ?_
  | with_reducible refine g_eqS ?_
  | with_reducible refine g_neS ?_
  | with_reducible refine g_eqB ?_
  | with_reducible refine g_neB ?_
  | with_reducible refine g_bits ?_
  | with_reducible refine g_bitsI ?_
  | with_reducible refine g_fld ?_
  | with_reducible refine g_tup ?_
  | with_reducible refine g_lst ?_
  | with_reducible refine g_gtup ?_
  | with_reducible refine g_make ?_
  | with_reducible refine g_lc ?_
  | with_reducible refine g_yesT ?_
  | with_reducible refine g_intI ?_
  | with_reducible refine g_intB ?_
  | with_reducible refine g_max2 ?_
  | with_reducible refine g_abs1 ?_
  | with_reducible refine g_for ?_
  | with_reducible refine g_iList ?_
  | with_reducible refine g_iTup ?_
  | with_reducible refine g_iRng1 ?_
  | with_reducible refine g_iEnum ?_
  | with_reducible refine g_slice ?_
  | with_reducible refine g_po0 ?_
  | with_reducible refine g_po1 ?_
  | with_reducible refine g_gsub ?_
  | with_reducible refine g_par ?_
  | with_reducible refine g_par2 ?_
  | with_reducible refine g_rfl ?_
  | with_reducible refine g_meth ?_
  | with_reducible refine g_gcons ?_
  | with_reducible refine g_gnil ?_
  | with_reducible refine g_gfld ?_
  | with_reducible refine g_sfld ?_
  | with_reducible refine g_drop ?_
  | with_reducible refine g_next ?_
  | with_reducible refine iteT ?_
  | with_reducible refine iteF ?_)
local macro_rules | `(tactic| walk_at "go") => `(tactic| (repeat walk_at "u"))
local macro_rules | `(tactic| walk_at "t1") => `(tactic| (first
  | walk_at "u"
  | with_reducible refine g_chain ?_
  | with_reducible refine g_par3 ?_
  | with_reducible refine g_par3' ?_
  | with_reducible refine g_augS ?_
  | with_reducible refine g_nt ?_
  | with_reducible refine g_nf ?_
  | with_reducible refine g_methK ?_
  | with_reducible refine g_makeK ?_
  | with_reducible refine g_iRng2 ?_
  | with_reducible refine g_bm ?_
  | with_reducible refine g_fldaug ?_
  | with_reducible refine g_iStr ?_
  | with_reducible refine g_ipI ?_
  | ((with_reducible show tAug _ _ _ _ _ _); refine ⟨_, rfl, ?_⟩)
  | ((with_reducible refine show_exT ?_); first
    | refine rdT3 (by assumption) (by assumption) ?_
    | refine rdT4 (by assumption) (by assumption) ?_
    | refine rdT5 (by assumption) (by assumption) ?_
    | refine rdT1 (by assumption) (by assumption) ?_
    | refine rdT2 (by assumption) (by assumption) ?_
    | refine rdN1 (by assumption) (by assumption) ?_
    | refine rdN2 (by assumption) (by assumption) ?_
    | refine rdN3 (by assumption) (by assumption) ?_
    | refine rdN4 (by assumption) (by assumption) ?_)))
local macro_rules | `(tactic| walk_at "t") => `(tactic| (repeat walk_at "t1"))
local macro_rules | `(tactic| walk_at "v") => `(tactic| (repeat (first
  | walk_at "t1"
  | with_reducible refine g_js ?_
  | with_reducible refine g_js0 ?_
  | with_reducible refine g_fmt ?_
  | with_reducible refine g_joined ?_
  | with_reducible refine g_isBool ?_
  | with_reducible refine g_notBool ?_
  | with_reducible refine g_revL ?_
  | with_reducible refine g_self ?_
  | with_reducible refine g_selfN ?_
  | with_reducible refine g_rN ?_
  | with_reducible refine g_rNN ?_
  | with_reducible refine g_iN ?_
  | with_reducible refine g_iNN ?_
  | with_reducible refine g_sN ?_
  | with_reducible refine g_sNN ?_
  | with_reducible refine g_bN ?_
  | with_reducible refine g_bNN ?_)))

section
variable {P : Program} {w : World} {K : PySem.W.Frag} {mg : Str → Option Value} {base : Heap} {C D N NA CT : Addr} {H H' H1 : Hp} {a : Addr} {f : Addr → Int} {W W' : Wm} {ls : List (Addr × HO)} {T : List (Addr × Str)} {v u : V} {name : Str} {k k' : Vk}
/-! ### reading and storing by events -/
def ixMsg (k : Vk) : Str := ("attempt to index a " ++ kindS k) ++ " value"
theorem ix_jmsg {k : Vk} : (((Str.empty ++ "attempt to index a " : Str) ++ kindS k : Str) ++ " value" : Str) = ixMsg k := by rw [fstr_msg]; rfl
theorem VkAt.fnNon {C NA : Addr} {H : Hp} {W : Wm} {v : V} {k : Vk} (h : VkAt C NA H W v k) (hf : k.isFn = true) : v ≠ .non := by
  cases k with
  | fn a => obtain ⟨rfl, _⟩ := h; exact fun z => nomatch z
  | _ => cases hf
def ixLong : Str := "'__index' chain too long; possibly a loop"
/-- a reading, round by round -/
inductive IxS (C NA : Addr) (fl : Bool) (H : Hp) (W : Wm) (kv : V) (key : Any) : Nat → V → Dd → Prop
  | long {c : V} : IxS C NA fl H W kv key 0 c (.thr ixLong)
  | bad {n : Nat} {c : V} {k : Vk} : VkAt C NA H W c k → k.isT = false → (k.isF = true → fl = true) → IxS C NA fl H W kv key (n + 1) c (.thr (ixMsg k))
  | hit {n : Nat} {a : Addr} {e : Tn} {u : V} : W a = some e → getX e.t key = u → u ≠ .non → IxS C NA fl H W kv key (n + 1) (.ref a) (.val u)
  | nil {n : Nat} {a : Addr} {e : Tn} : W a = some e → getX e.t key = .non → metaV W (.ref a) "__index" = .non → IxS C NA fl H W kv key (n + 1) (.ref a) (.val .non)
  | call {n : Nat} {a : Addr} {e : Tn} {u : V} {k : Vk} : W a = some e → getX e.t key = .non → metaV W (.ref a) "__index" = u → VkAt C NA H W u k → k.isFn = true → IxS C NA fl H W kv key (n + 1) (.ref a) (.call u [.ref a, kv] "one")
  | go {n : Nat} {a : Addr} {e : Tn} {u : V} {k : Vk} {d : Dd} : W a = some e → getX e.t key = .non → metaV W (.ref a) "__index" = u → u ≠ .non → VkAt C NA H W u k → k.isFn = false → IxS C NA fl H W kv key n u d → IxS C NA fl H W kv key (n + 1) (.ref a) d
theorem IxS.same {fl : Bool} {kv : V} {key : Any} (s : Same H H') {n : Nat} {c : V} {d : Dd} (h : IxS C NA fl H W kv key n c d) : IxS C NA fl H' W kv key n c d := by
  induction h with
  | long => exact .long
  | bad h1 h2 h3 => exact .bad (h1.same s) h2 h3
  | hit h1 h2 h3 => exact .hit h1 h2 h3
  | nil h1 h2 h3 => exact .nil h1 h2 h3
  | call h1 h2 h3 h4 h5 => exact .call h1 h2 h3 (h4.same s) h5
  | go h1 h2 h3 h4 h5 h6 _ ih => exact .go h1 h2 h3 h4 (h5.same s) h6 ih
theorem sc_indexdeed : FnScope ["thing", "key", "turn", "value", "event"] ["thing", "key"] (defScope s_indexdeed) := ⟨rfl, rfl, rfl, by decide +kernel, rfl, by decide +kernel, by decide +kernel⟩
def sp_index (C D N NA CT : Addr) (fl : Bool) : Sp := fun vs H Q E => ∃ c kv k T f W ls d, vs = [c, kv] ∧ Wo C D N T f H W ls ∧ MetaOk W ∧ KyAt C D H kv k ∧ KG (plK k) ∧ NoOk f (plK k) ∧ IxS C NA fl H W kv (plA k.x) 2000 c d ∧ DdQ C CT H Q E d
theorem ok_index {fl : Bool} {g : Addr} {fd : FuncData} (F : FunD K "index_deed" "index_deed" (defArgs s_indexdeed) (defBody s_indexdeed) (defScope s_indexdeed) [] [] g fd) (B : Blt mg) (i_MOST_ROUNDS : ∃ t, mg "MOST_ROUNDS" = some (.int 2000 t)) (TF : FlC K mg C) (TT : TbC K mg D) (FC : FnC K mg C D N NA) (c_Thrown : CThr P w K mg base CT) (c_isfunction : CIsFn P w K mg base C D N NA) (c_metaof : CMeta P w K mg base C D N NA) (c_kindname : CKind P w K mg base C D N NA fl)
    (c_get : Mt P w K mg base CX0 6 D "get" ["self", "key"] (sp_get C D N)) : FnOk P w K mg base (L2.CX P w) 8 g fd ["thing", "key"] (sp_index C D N NA CT fl) := by
  have g_Table := TT.mg
  refine F.ok sc_indexdeed (fun vs H Q E h => ?_) (fun cdv A outer s H vs Q E hr h => ?_)
  · obtain ⟨_, _, _, _, _, _, _, _, rfl, _⟩ := h; rfl
  · obtain ⟨c, kv, k, T, f, W, ls, d, rfl, hw, hm, hk, kg, no, hc, q⟩ := h
    refine ⟨_, (pss_cons (ps_for (passes_of rfl) rfl (pi_range1 (by rfl) B.range (pa_cons (pe_gint i_MOST_ROUNDS) pa_nil)) (pg_name (i := 2) sc_indexdeed.nd rfl (Or.inl rfl))
    (pss_cons (ps_if (pt_val (pe_callB call_isi (by rfl) B.isinstance (by decide +kernel) (pa_cons (pv 0) (pa_cons (pe_gref g_Table) pa_nil)))) (pss_cons (ps_set (i := 3) sc_indexdeed.nd rfl (Or.inl rfl) (pe_mt c_get (hr.mono (by first | decide | omega)) pass0 (pv 0) (pa_cons (pv 1) pa_nil)))
  (pss_cons (ps_set (i := 4) sc_indexdeed.nd rfl (Or.inl rfl) (pe_cut (pe_ifExp (pt_cmpR op_notN (pv 3) pe_non (nomark _)) pe_non (pe_fn c_metaof (hr.mono (by first | decide | omega)) pass0 (pa_cons (pv 0) (pa_cons pe_str pa_nil))))))
  (pss_one (ps_if (pt_cmpR op_isN (pv 4) pe_non (nomark _)) (pss_one (ps_ret (pe_tupN (pa_cons pe_str (pa_cons (pv 3) pa_nil))))) pss_nil)))) (pss_one (ps_thr c_Thrown (hr.mono (by decide)) rfl (takes_of rfl rfl rfl rfl) (pe_joined (.cons pe_str (.cons (pe_fmt (pe_fn c_kindname (hr.mono (by first | decide | omega)) pass0 (pa_cons (pv 0) pa_nil))) (.cons pe_str .nil)))))))
  (pss_cons (ps_if (pt_val (pe_fn c_isfunction (hr.mono (by first | decide | omega)) pass0 (pa_cons (pv 4) pa_nil))) (pss_one (ps_ret (pe_tupN (pa_cons pe_str (pa_cons (pv 4) (pa_cons (pe_lstN (pa_cons (pv 0) (pa_cons (pv 1) pa_nil))) (pa_cons pe_str pa_nil))))))) pss_nil)
  (pss_one (ps_set (i := 0) sc_indexdeed.nd rfl (Or.inl rfl) (pv 4))))))
  (pss_one (ps_thr c_Thrown (hr.mono (by decide)) rfl (takes_of rfl rfl rfl rfl) pe_str))), ?_⟩
    walk_at "v"
    refine ⟨by decide, by decide, ?_⟩
    refine for_range (n := 2000) (fun i σ' H' => ∃ (n : Nat) (c : V) (e2 e3 e4 : Option V), n + i = 2000 ∧ σ' = [some c, some kv, e2, e3, e4] ∧ Same H H' ∧ IxS C NA fl H' W kv (plA k.x) n c d) ⟨2000, c, none, none, none, rfl, rfl, Same.refl _, hc⟩ ?_ ?_
    · rintro i _ H1 hi ⟨n, c, e2, e3, e4, hn, rfl, s1, hc⟩
      have hw1 := hw.same s1
      have hk1 := hk.same s1
      have q1 := q.later s1
      walk_at "v"
      cases hc with
      | long => omega
      | @bad n _ kk hv ht hfl =>
        obtain ⟨t, ⟨hkn, htb⟩, _⟩ := hv.kn TF TT FC hw1
        rw [ht] at htb
        refine g_isi hkn.ty (.own _) htb ?_
        walk_at "v"
        refine g_rai ?_
        refine g_mko ?_
        walk_at "v"
        refine g_jsS (sz (by decide +kernel)) ?_
        walk_at "v"
        refine ⟨c, kk, T, f, W, ls, rfl, hw1, hv, hfl, ?_⟩
        refine g_fmtS (by cases kk <;> simp only [kindS] <;> exact sz (by decide +kernel)) ?_
        refine g_jsS (by cases kk <;> simp only [kindS] <;> exact sz (by decide +kernel)) ?_
        walk_at "v"
        refine g_jsS (by cases kk <;> simp only [kindS] <;> exact sz (by decide +kernel)) ?_
        walk_at "v"
        rw [ix_jmsg]
        exact g_thr q1
      | @hit n a e u he hg hu =>
        obtain ⟨dx, ho⟩ := hw1.obj he
        refine g_isi (kn_ins TT.own ho).ty (.own _) FC.tT ?_
        walk_at "v"
        refine ⟨a, dx, _, rfl, ho, rfl, ?_⟩
        walk_at "v"
        refine hw1.get he hk1 kg no fun H2 s2 => ?_
        rw [hg]
        walk_at "v"
        refine g_cutE (fun z H' => z = .non ∧ Same H2 H') ?_ ?_
        · walk_at "v"
          refine g_iten (fun _ => ?_) fun z => absurd z hu
          walk_at "v"
          exact Same.refl _
        · rintro _ H3 ⟨rfl, s3⟩
          walk_at "v"
          exact ((q1.later s2).later s3).mkv
      | @nil n a e he hg hm2 =>
        obtain ⟨dx, ho⟩ := hw1.obj he
        refine g_isi (kn_ins TT.own ho).ty (.own _) FC.tT ?_
        walk_at "v"
        refine ⟨a, dx, _, rfl, ho, rfl, ?_⟩
        walk_at "v"
        refine hw1.get he hk1 kg no fun H2 s2 => ?_
        rw [hg]
        walk_at "v"
        refine g_cutE (fun z H' => z = .non ∧ Same H2 H') ?_ ?_
        · walk_at "v"
          refine ⟨_, .tab a, T, f, W, ls, _, rfl, hw1.same s2, hm, ⟨rfl, e, he⟩, fun H3 s3 => ?_⟩
          rw [hm2]
          exact ⟨rfl, s3⟩
        · rintro _ H3 ⟨rfl, s3⟩
          walk_at "v"
          exact ((q1.later s2).later s3).mkv
      | @call n a e u kk he hg hm2 hv hf =>
        have hun : u ≠ .non := hv.fnNon hf
        obtain ⟨dx, ho⟩ := hw1.obj he
        refine g_isi (kn_ins TT.own ho).ty (.own _) FC.tT ?_
        walk_at "v"
        refine ⟨a, dx, _, rfl, ho, rfl, ?_⟩
        walk_at "v"
        refine hw1.get he hk1 kg no fun H2 s2 => ?_
        rw [hg]
        walk_at "v"
        refine g_cutE (fun z H' => z = u ∧ Same H2 H') ?_ ?_
        · walk_at "v"
          refine ⟨_, .tab a, T, f, W, ls, _, rfl, hw1.same s2, hm, ⟨rfl, e, he⟩, fun H3 s3 => ?_⟩
          rw [hm2]
          exact ⟨rfl, s3⟩
        · rintro _ H3 ⟨rfl, s3⟩
          walk_at "v"
          refine g_no hun ?_
          walk_at "v"
          refine ⟨_, kk, T, f, W, ls, rfl, (hw1.same s2).same s3, (hv.same s2).same s3, fun H4 s4 => ?_⟩
          rw [hf]
          walk_at "v"
          refine g_new (sz rfl) fun l H5 n5 s5 h5 _ => ?_
          walk_at "v"
          refine g_new (sz rfl) fun p H6 n6 s6 h6 _ => ?_
          have S4 := (s2.trans s3).trans s4
          exact q1 H6 p l ((S4.trans s5).free n6) (S4.free n5) ((S4.trans s5).trans s6) h6 (s6 _ _ h5)
      | @go n a e u kk d he hg hm2 hun hv hf hc =>
        obtain ⟨dx, ho⟩ := hw1.obj he
        refine g_isi (kn_ins TT.own ho).ty (.own _) FC.tT ?_
        walk_at "v"
        refine ⟨a, dx, _, rfl, ho, rfl, ?_⟩
        walk_at "v"
        refine hw1.get he hk1 kg no fun H2 s2 => ?_
        rw [hg]
        walk_at "v"
        refine g_cutE (fun z H' => z = u ∧ Same H2 H') ?_ ?_
        · walk_at "v"
          refine ⟨_, .tab a, T, f, W, ls, _, rfl, hw1.same s2, hm, ⟨rfl, e, he⟩, fun H3 s3 => ?_⟩
          rw [hm2]
          exact ⟨rfl, s3⟩
        · rintro _ H3 ⟨rfl, s3⟩
          walk_at "v"
          refine g_no hun ?_
          walk_at "v"
          refine ⟨_, kk, T, f, W, ls, rfl, (hw1.same s2).same s3, (hv.same s2).same s3, fun H4 s4 => ?_⟩
          rw [hf]
          walk_at "v"
          have S4 := (s2.trans s3).trans s4
          exact ⟨n, _, _, _, _, by omega, rfl, s1.trans S4, hc.same S4⟩
    · rintro _ H1 ⟨n, c, e2, e3, e4, hn, rfl, s1, hc⟩
      have : n = 0 := by omega
      subst this
      cases hc
      show tRai (tMkO CT (sp_ThrInit CT) [V.int 1] (tCons (tC (V.str ixLong)) tNil)) (fun cls d x H => E cls d H) { nx := fun _ H' => Q V.non H', rt := Q } [some c, some kv, e2, e3, e4] H1
      refine g_rai ?_
      refine g_mko ?_
      walk_at "v"
      exact g_thr (ThrR.later (show ThrR CT (.str ixLong) H E from q) s1)
abbrev CIndex (P : Program) (w : World) (K : PySem.W.Frag) (mg : Str → Option Value) (base : Heap) (C D N NA CT : Addr) (fl : Bool) : Prop := Fn P w K mg base (L2.CX P w) 8 "index_deed" ["thing", "key"] [] (sp_index C D N NA CT fl)
def stLong : Str := "'__newindex' chain too long; possibly a loop"
inductive StE where
  | put (a : Addr)
  | call (f : V) (a : V)
  | thr (m : Str)
/-- a storing, round by round -/
inductive StS (C NA : Addr) (fl : Bool) (H : Hp) (W : Wm) (key : Any) : Nat → V → StE → Prop
  | long {c : V} : StS C NA fl H W key 0 c (.thr stLong)
  | bad {n : Nat} {c : V} {k : Vk} : VkAt C NA H W c k → k.isT = false → (k.isF = true → fl = true) → StS C NA fl H W key (n + 1) c (.thr (ixMsg k))
  | hit {n : Nat} {a : Addr} {e : Tn} : W a = some e → getX e.t key ≠ .non → StS C NA fl H W key (n + 1) (.ref a) (.put a)
  | nil {n : Nat} {a : Addr} {e : Tn} : W a = some e → getX e.t key = .non → metaV W (.ref a) "__newindex" = .non → StS C NA fl H W key (n + 1) (.ref a) (.put a)
  | call {n : Nat} {a : Addr} {e : Tn} {u : V} {k : Vk} : W a = some e → getX e.t key = .non → metaV W (.ref a) "__newindex" = u → VkAt C NA H W u k → k.isFn = true → StS C NA fl H W key (n + 1) (.ref a) (.call u (.ref a))
  | go {n : Nat} {a : Addr} {e : Tn} {u : V} {k : Vk} {d : StE} : W a = some e → getX e.t key = .non → metaV W (.ref a) "__newindex" = u → u ≠ .non → VkAt C NA H W u k → k.isFn = false → StS C NA fl H W key n u d → StS C NA fl H W key (n + 1) (.ref a) d
theorem StS.same {fl : Bool} {key : Any} (s : Same H H') {n : Nat} {c : V} {d : StE} (h : StS C NA fl H W key n c d) : StS C NA fl H' W key n c d := by
  induction h with
  | long => exact .long
  | bad h1 h2 h3 => exact .bad (h1.same s) h2 h3
  | hit h1 h2 => exact .hit h1 h2
  | nil h1 h2 h3 => exact .nil h1 h2 h3
  | call h1 h2 h3 h4 h5 => exact .call h1 h2 h3 (h4.same s) h5
  | go h1 h2 h3 h4 h5 h6 _ ih => exact .go h1 h2 h3 h4 (h5.same s) h6 ih
theorem sc_storedeed : FnScope ["thing", "key", "value", "turn", "event"] ["thing", "key", "value"] (defScope s_storedeed) := ⟨rfl, rfl, rfl, by decide +kernel, rfl, by decide +kernel, by decide +kernel⟩
/-- what a storing leaves: a value put, or a call, or what is thrown -/
def StQ (C D N CT : Addr) (T : List (Addr × Str)) (f : Addr → Int) (W : Wm) (ls : List (Addr × HO)) (kv u : V) (key : Any) (H : Hp) (Q : VK) (E : XK) : StE → Prop
  | .put a => ∃ e, W a = some e ∧ ((lv e.t < 4000 ∧ ∀ H' F' t' H2 p, Wo C D N T f H' (updW W a { e with F := F', t := t' }) ls → (∀ x, getX t' x = if x = key then u else getX e.t x) → lv t' ≤ lv e.t + 1 → Kq D N H H' → H' p = none → Same H' H2 → H2 p = some (.tup [.str "value", .non]) → Q (.ref p) H2))
  | .call g a => ∀ H' p l, H p = none → H l = none → Same H H' → H' p = some (.tup [.str "call", g, .ref l, .str "none"]) → H' l = some (.lst [a, kv, u]) → Q (.ref p) H'
  | .thr m => ThrR CT (.str m) H E
def sp_store (C D N NA CT : Addr) (fl : Bool) : Sp := fun vs H Q E => ∃ c kv u k T f W ls d, vs = [c, kv, u] ∧ Wo C D N T f H W ls ∧ MetaOk W ∧ KyAt C D H kv k ∧ k.x ≠ .non ∧ isNanA k.x = false ∧ KG (plK k) ∧ NoOk f (plK k) ∧ StS C NA fl H W (plA k.x) 2000 c d ∧ StQ C D N CT T f W ls kv u (plA k.x) H Q E d
theorem ok_store {fl : Bool} {g : Addr} {fd : FuncData} (F : FunD K "store_deed" "store_deed" (defArgs s_storedeed) (defBody s_storedeed) (defScope s_storedeed) [] [] g fd) (B : Blt mg) (L : Cl3 C D N) (i_MOST_ROUNDS : ∃ t, mg "MOST_ROUNDS" = some (.int 2000 t)) (TF : FlC K mg C) (TT : TbC K mg D) (FC : FnC K mg C D N NA) (c_Thrown : CThr P w K mg base CT) (c_isfunction : CIsFn P w K mg base C D N NA) (c_metaof : CMeta P w K mg base C D N NA) (c_kindname : CKind P w K mg base C D N NA fl)
    (c_get : Mt P w K mg base CX0 6 D "get" ["self", "key"] (sp_get C D N)) (c_put : Mt P w K mg base CX0 10 D "put" ["self", "key", "value"] (sp_putG C D N PutNF Rm4)) : FnOk P w K mg base (L2.CX P w) 11 g fd ["thing", "key", "value"] (sp_store C D N NA CT fl) := by
  have g_Table := TT.mg
  refine F.ok sc_storedeed (fun vs H Q E h => ?_) (fun cdv A outer s H vs Q E hr h => ?_)
  · obtain ⟨_, _, _, _, _, _, _, _, _, rfl, _⟩ := h; rfl
  · obtain ⟨c, kv, u, k, T, f, W, ls, d, rfl, hw, hm, hk, kn, kna, kg, no, hc, q⟩ := h
    refine ⟨_, (pss_cons (ps_for (passes_of rfl) rfl (pi_range1 (by rfl) B.range (pa_cons (pe_gint i_MOST_ROUNDS) pa_nil)) (pg_name (i := 3) sc_storedeed.nd rfl (Or.inl rfl))
    (pss_cons (ps_if (pt_not (pt_val (pe_callB call_isi (by rfl) B.isinstance (by decide +kernel) (pa_cons (pv 0) (pa_cons (pe_gref g_Table) pa_nil))))) (pss_one (ps_thr c_Thrown (hr.mono (by decide)) rfl (takes_of rfl rfl rfl rfl) (pe_joined (.cons pe_str (.cons (pe_fmt (pe_fn c_kindname (hr.mono (by first | decide | omega)) pass0 (pa_cons (pv 0) pa_nil))) (.cons pe_str .nil)))))) pss_nil)
  (pss_cons (ps_set (i := 4) sc_storedeed.nd rfl (Or.inl rfl) (pe_cut (pe_ifExp (pt_cmpR op_isN (pe_mt c_get (hr.mono (by first | decide | omega)) pass0 (pv 0) (pa_cons (pv 1) pa_nil)) pe_non (nomark _)) (pe_fn c_metaof (hr.mono (by first | decide | omega)) pass0 (pa_cons (pv 0) (pa_cons pe_str pa_nil))) pe_non)))
  (pss_cons (ps_if (pt_cmpR op_isN (pv 4) pe_non (nomark _)) (pss_cons (ps_expr (pe_mt c_put (hr.mono (by first | decide | omega)) pass0 (pv 0) (pa_cons (pv 1) (pa_cons (pv 2) pa_nil))))
  (pss_one (ps_ret (pe_tupN (pa_cons pe_str (pa_cons pe_non pa_nil)))))) pss_nil)
  (pss_cons (ps_if (pt_val (pe_fn c_isfunction (hr.mono (by first | decide | omega)) pass0 (pa_cons (pv 4) pa_nil))) (pss_one (ps_ret (pe_tupN (pa_cons pe_str (pa_cons (pv 4) (pa_cons (pe_lstN (pa_cons (pv 0) (pa_cons (pv 1) (pa_cons (pv 2) pa_nil)))) (pa_cons pe_str pa_nil))))))) pss_nil)
  (pss_one (ps_set (i := 0) sc_storedeed.nd rfl (Or.inl rfl) (pv 4))))))))
  (pss_one (ps_thr c_Thrown (hr.mono (by decide)) rfl (takes_of rfl rfl rfl rfl) pe_str))), ?_⟩
    walk_at "v"
    refine ⟨by decide, by decide, ?_⟩
    refine for_range (n := 2000) (fun i σ' H' => ∃ (n : Nat) (c : V) (e3 e4 : Option V), n + i = 2000 ∧ σ' = [some c, some kv, some u, e3, e4] ∧ Same H H' ∧ StS C NA fl H' W (plA k.x) n c d) ⟨2000, c, none, none, rfl, rfl, Same.refl _, hc⟩ ?_ ?_
    · rintro i _ H1 hi ⟨n, c, e3, e4, hn, rfl, s1, hc⟩
      have hw1 := hw.same s1
      have hk1 := hk.same s1
      walk_at "v"
      cases hc with
      | long => omega
      | @bad n _ kk hv ht hfl =>
        obtain ⟨t, ⟨hkn, htb⟩, _⟩ := hv.kn TF TT FC hw1
        rw [ht] at htb
        refine g_isi hkn.ty (.own _) htb ?_
        walk_at "v"
        refine g_rai ?_
        refine g_mko ?_
        walk_at "v"
        refine g_jsS (sz (by decide +kernel)) ?_
        walk_at "v"
        refine ⟨c, kk, T, f, W, ls, rfl, hw1, hv, hfl, ?_⟩
        refine g_fmtS (by cases kk <;> simp only [kindS] <;> exact sz (by decide +kernel)) ?_
        refine g_jsS (by cases kk <;> simp only [kindS] <;> exact sz (by decide +kernel)) ?_
        walk_at "v"
        refine g_jsS (by cases kk <;> simp only [kindS] <;> exact sz (by decide +kernel)) ?_
        walk_at "v"
        rw [ix_jmsg]
        exact g_thr (ThrR.later (show ThrR CT (.str (ixMsg kk)) H E from q) s1)
      | @hit n a e he hg =>
        obtain ⟨dx, ho⟩ := hw1.obj he
        refine g_isi (kn_ins TT.own ho).ty (.own _) FC.tT ?_
        walk_at "v"
        refine g_cutE (fun z H' => z = .non ∧ Same H1 H') ?_ ?_
        · walk_at "v"
          refine ⟨a, dx, _, rfl, ho, rfl, ?_⟩
          walk_at "v"
          refine hw1.get he hk1 kg no fun H2 s2 => ?_
          walk_at "v"
          refine g_no hg ?_
          walk_at "v"
          exact s2
        · rintro _ H3 ⟨rfl, s3⟩
          walk_at "v"
          have hw3 := hw1.same s3
          obtain ⟨e', he', hl, q⟩ := q
          rw [he] at he'
          cases he'
          obtain ⟨dx3, ho3⟩ := hw3.obj he
          refine ⟨a, dx3, _, rfl, ho3, rfl, ?_⟩
          walk_at "v"
          refine hw3.put L he (hk1.same s3) kn kna kg no hl fun H4 F' t' w4 g4 l4 kq4 _ => ?_
          walk_at "v"
          refine g_new (sz rfl) fun p H5 n5 s5 h5 _ => ?_
          exact q H4 F' t' H5 p w4 g4 l4 ((Kq.same (s1.trans s3)).trans kq4) n5 s5 h5
      | @nil n a e he hg hm2 =>
        obtain ⟨dx, ho⟩ := hw1.obj he
        refine g_isi (kn_ins TT.own ho).ty (.own _) FC.tT ?_
        walk_at "v"
        refine g_cutE (fun z H' => z = .non ∧ Same H1 H') ?_ ?_
        · walk_at "v"
          refine ⟨a, dx, _, rfl, ho, rfl, ?_⟩
          walk_at "v"
          refine hw1.get he hk1 kg no fun H2 s2 => ?_
          rw [hg]
          walk_at "v"
          refine ⟨_, .tab a, T, f, W, ls, _, rfl, hw1.same s2, hm, ⟨rfl, e, he⟩, fun H3 s3 => ?_⟩
          rw [hm2]
          exact ⟨rfl, s2.trans s3⟩
        · rintro _ H3 ⟨rfl, s3⟩
          walk_at "v"
          have hw3 := hw1.same s3
          obtain ⟨e', he', hl, q⟩ := q
          rw [he] at he'
          cases he'
          obtain ⟨dx3, ho3⟩ := hw3.obj he
          refine ⟨a, dx3, _, rfl, ho3, rfl, ?_⟩
          walk_at "v"
          refine hw3.put L he (hk1.same s3) kn kna kg no hl fun H4 F' t' w4 g4 l4 kq4 _ => ?_
          walk_at "v"
          refine g_new (sz rfl) fun p H5 n5 s5 h5 _ => ?_
          exact q H4 F' t' H5 p w4 g4 l4 ((Kq.same (s1.trans s3)).trans kq4) n5 s5 h5
      | @call n a e u2 kk he hg hm2 hv hf =>
        have hun : u2 ≠ .non := hv.fnNon hf
        obtain ⟨dx, ho⟩ := hw1.obj he
        refine g_isi (kn_ins TT.own ho).ty (.own _) FC.tT ?_
        walk_at "v"
        refine g_cutE (fun z H' => z = u2 ∧ Same H1 H') ?_ ?_
        · walk_at "v"
          refine ⟨a, dx, _, rfl, ho, rfl, ?_⟩
          walk_at "v"
          refine hw1.get he hk1 kg no fun H2 s2 => ?_
          rw [hg]
          walk_at "v"
          refine ⟨_, .tab a, T, f, W, ls, _, rfl, hw1.same s2, hm, ⟨rfl, e, he⟩, fun H3 s3 => ?_⟩
          rw [hm2]
          exact ⟨rfl, s2.trans s3⟩
        · rintro _ H3 ⟨rfl, s3⟩
          walk_at "v"
          refine g_no hun ?_
          walk_at "v"
          refine ⟨_, kk, T, f, W, ls, rfl, hw1.same s3, hv.same s3, fun H4 s4 => ?_⟩
          rw [hf]
          walk_at "v"
          refine g_new (sz rfl) fun l H5 n5 s5 h5 _ => ?_
          walk_at "v"
          refine g_new (sz rfl) fun p H6 n6 s6 h6 _ => ?_
          have S4 := (s1.trans s3).trans s4
          exact q H6 p l ((S4.trans s5).free n6) (S4.free n5) ((S4.trans s5).trans s6) h6 (s6 _ _ h5)
      | @go n a e u2 kk d he hg hm2 hun hv hf hc =>
        obtain ⟨dx, ho⟩ := hw1.obj he
        refine g_isi (kn_ins TT.own ho).ty (.own _) FC.tT ?_
        walk_at "v"
        refine g_cutE (fun z H' => z = u2 ∧ Same H1 H') ?_ ?_
        · walk_at "v"
          refine ⟨a, dx, _, rfl, ho, rfl, ?_⟩
          walk_at "v"
          refine hw1.get he hk1 kg no fun H2 s2 => ?_
          rw [hg]
          walk_at "v"
          refine ⟨_, .tab a, T, f, W, ls, _, rfl, hw1.same s2, hm, ⟨rfl, e, he⟩, fun H3 s3 => ?_⟩
          rw [hm2]
          exact ⟨rfl, s2.trans s3⟩
        · rintro _ H3 ⟨rfl, s3⟩
          walk_at "v"
          refine g_no hun ?_
          walk_at "v"
          refine ⟨_, kk, T, f, W, ls, rfl, hw1.same s3, hv.same s3, fun H4 s4 => ?_⟩
          rw [hf]
          walk_at "v"
          have S4 := s3.trans s4
          exact ⟨n, _, _, _, by omega, rfl, s1.trans S4, hc.same S4⟩
    · rintro _ H1 ⟨n, c, e3, e4, hn, rfl, s1, hc⟩
      have : n = 0 := by omega
      subst this
      cases hc
      show tRai (tMkO CT (sp_ThrInit CT) [V.int 1] (tCons (tC (V.str stLong)) tNil)) (fun cls d x H => E cls d H) { nx := fun _ H' => Q V.non H', rt := Q } [some c, some kv, some u, e3, e4] H1
      refine g_rai ?_
      refine g_mko ?_
      walk_at "v"
      exact g_thr (ThrR.later (show ThrR CT (.str stLong) H E from q) s1)
abbrev CStore (P : Program) (w : World) (K : PySem.W.Frag) (mg : Str → Option Value) (base : Heap) (C D N NA CT : Addr) (fl : Bool) : Prop := Fn P w K mg base (L2.CX P w) 11 "store_deed" ["thing", "key", "value"] [] (sp_store C D N NA CT fl)
end
end Up

set_option Elab.async false
set_option linter.all false
set_option maxRecDepth 100000
set_option maxHeartbeats 4000000
namespace Up
open PySem PySem.Spec PyProof.Rows L2
/-! ### what the head's one Bool says of a class -/
theorem ownB_ok {K : PySem.W.Frag} {C : Addr} (h : ownB K C = true) : OwnC K C := by
  unfold ownB at h
  simp only [Bool.and_eq_true, decide_eq_true_eq] at h
  obtain ⟨h1, h2, h3, h4, h5, h6, h7, h8, h9, h10, h11⟩ := h
  exact ⟨⟨h1, h2, h3, h4⟩, h5, h6, h7, h8, h9, h10, h11⟩
theorem idB_ok {K : PySem.W.Frag} {C : Addr} (h : idB K C = true) : IdC K C := by
  unfold idB at h
  simp only [Bool.and_eq_true, decide_eq_true_eq] at h
  exact ⟨h.1, h.2.1, h.2.2⟩
theorem noB_ok {K : PySem.W.Frag} {C : Addr} {xs : List Str} (h : noB K C xs = true) {f : Str} (hf : f ∈ xs) : NoAttr K C f := by
  have e := List.all_eq_true.mp h f hf
  exact of_decide_eq_true (p := PySem.W.findIn K (.ref C) f = some none) e
theorem kitB'_ok {K : PySem.W.Frag} {C : Addr} {b : Bool} {xs : List Value} (h : kitB' K C b xs = true) {t : Value} (ht : t ∈ xs) : PySem.W.kitOne K t (.ref C) = some b := of_decide_eq_true (List.all_eq_true.mp h t ht)
section
variable {P : Program} {w : World} {K : PySem.W.Frag} {mg : Str → Option Value} {base : Heap}
/-- a def by its promise, from the head's facts -/
theorem fn_mk {CX : CXT} {k : Nat} {x y qual : Str} {params : Arguments} {body : List Stmt} {scope : Scope} {f : Addr} {fd : FuncData} {ps : List Str} {sp : Sp} (F : FunD K y qual params body scope [] [] f fd) (hm : mg x = some (.ref f)) (ok : FnOk P w K mg base CX k f fd ps sp)
    (h : ∀ (kV doc pm : Value) (an : Option Addr) (cdv ct : Value) (us : List Value), us.length = ps.length → bindArgs (PySem.W.fnOf y qual params body scope .none kV doc pm an cdv ct) ⟨us, []⟩ = pure (ps.zip us)) : Fn P w K mg base CX k x ps [] sp :=
  ⟨f, fd, [], ok, hm, F.kp, F.bindsN h, .nil⟩
theorem mt_mk {CX : CXT} {k : Nat} {m qual : Str} {params : Arguments} {body : List Stmt} {scope : Scope} {f C : Addr} {fd : FuncData} {ps : List Str} {sp : Sp} (F : FunD K m qual params body scope [] [] f fd) (hm : Meth K C m f) (cl : Cls K C) (ok : FnOk P w K mg base CX k f fd ps sp)
    (h : ∀ (kV doc pm : Value) (an : Option Addr) (cdv ct : Value) (us : List Value), us.length = ps.length → bindArgs (PySem.W.fnOf m qual params body scope .none kV doc pm an cdv ct) ⟨us, []⟩ = pure (ps.zip us)) : Mt P w K mg base CX k C m ps sp :=
  ⟨f, fd, ok, hm, F.bindsN h, cl⟩
theorem cn_mk {CX : CXT} {k : Nat} {x qual : Str} {params : Arguments} {body : List Stmt} {scope : Scope} {f C : Addr} {fd : FuncData} {ps : List Str} {sp : Sp} (F : FunD K "__init__" qual params body scope [] [] f fd) (hM : Mk K C f) (hm : mg x = some (.ref C)) (ok : FnOk P w K mg base CX k f fd ps sp)
    (h : ∀ (kV doc pm : Value) (an : Option Addr) (cdv ct : Value) (us : List Value), us.length = ps.length → bindArgs (PySem.W.fnOf "__init__" qual params body scope .none kV doc pm an cdv ct) ⟨us, []⟩ = pure (ps.zip us)) : Cn P w K mg base CX k x C ps [] sp :=
  ⟨f, fd, [], ok, hM, hm, F.bindsN h, .nil⟩
end
end Up

set_option Elab.async false
set_option linter.all false
set_option pp.maxSteps 600
set_option maxRecDepth 100000
set_option maxHeartbeats 4000000
namespace PySem
namespace HandSPX
open Builtin Builtin.ObjectAttr

/-! ### an exception of one's own class, made with keywords -/
section
variable {M : Model} {A : Around} {E : Value → Shared → Prop} {h : Heap} {g : Array GenState} {d : Drawn} {t : Nat} {os : OsState}
variable {nm q : Str} {C N : Addr} {bs bm bmB : List Value} {hdct : Bool} {sn : List Str} {sub : List Value} {ab : Bool} {col : Option Bool} {dd : Option Addr} {k0 k1 k2 k3 k5 : Option Value} {B newId initId : String}
theorem check_new_ownK (F : ExcBaseFacts B newId initId bmB) (hT : ∀ X : String, bm.contains (.type X) = bmB.contains (.type X)) {rest : List Value} {kw : List (Str × Value)} {Q : Unit → Shared → Prop}
    (hC : h.get? C = some (excClassObj nm q C N bs bm hdct sn sub ab col dd k0 k1 k2 k3 k5 newId)) (hq : Q () ⟨h, g, d, t, os⟩) : wpAny M A (checkBuiltinCall newId ⟨.ref C :: rest, kw⟩) Q E ⟨h, g, d, t, os⟩ := by
  have hcont : (Value.ref C :: bm).contains (.type B) = true := by rw [List.contains_cons, hT, F.hasB, Bool.or_true]
  have hstar := F.noStar
  simp only [checkBuiltinCall, F.newKind, F.newSplit, F.newRow]
  repeat (first | refine wpAny_loadPart_at hC ?_ | (refine wpAny_isSubtype_exc hC ?_; rw [hcont]) | refine wpAny_staticBase_exc hC ?_ | refine wpAny_madeBy_exc hC ?_ | simp only [bne_self_eq_false, Bool.false_eq_true, if_false] | wp_step)
  exact hq
end
section
variable {prog : Program} {w : World} {A : Around} {E : Value → Shared → Prop} {R : Result → Shared → Prop} {h : Heap} {g : Array GenState} {d : Drawn} {t : Nat} {os : OsState}
variable {nm q : Str} {C N : Addr} {bs bm bmB : List Value} {hdct : Bool} {sn : List Str} {sub : List Value} {ab : Bool} {col : Option Bool} {dd : Option Addr} {k0 k1 k2 k3 k5 : Option Value} {B newId initId : String}
theorem new_ownK (F : ExcBaseFacts B newId initId bmB) (hT : ∀ X : String, bm.contains (.type X) = bmB.contains (.type X)) {rest : List Value} {kw : List (Str × Value)}
    (hC : h.get? C = some (excClassObj nm q C N bs bm hdct sn sub ab col dd k0 k1 k2 k3 k5 newId))
    (hq : R (.ok (.ret (.ref (h.objs.size + 1)))) ⟨(h.push { cls := .type "tuple", data := .seq rest.toArray }).push
      { cls := .ref C, data := .fields #[.ref h.objs.size, .none, .none, .none, .bool false, .none] }, g, d, t, os⟩) (hrest : rest.length ≤ sizeLine) :
    codeAny (model prog w) A (.builtin newId ⟨.ref C :: rest, kw⟩) R ⟨h, g, d, t, os⟩ := by
  have hends := F.ends
  have hcB : (Value.ref C :: bm).contains (.type B) = true := by rw [List.contains_cons, hT, F.hasB, Bool.or_true]
  have hcA : (Value.ref C :: bm).contains (.type "AttributeError") = false := by rw [List.contains_cons, hT, F.noAttr]; rfl
  have hcN : (Value.ref C :: bm).contains (.type "NameError") = false := by rw [List.contains_cons, hT, F.noName]; rfl
  refine codeAny_builtinAt F.entry ?_
  unfold Builtin.«BaseException.__new__»
  refine wpAt_bind ?_
  show wpAt _ _ _ (stack >>= _) _ _ _
  refine wpAt_bind (wpAt_stack fun p below => wpAt_of_wpAny ?_)
  wp_walk
  refine wpAt_of_wpAny ?_
  rw [F.owner]
  repeat (first | with_reducible refine wpAny_madeHere_exc F.canon hC ?_ | with_reducible refine wpAny_loadPart_at hC ?_ | (with_reducible refine wpAny_isSubtype_exc hC ?_; first | rw [hcB] | rw [hcA] | rw [hcN]) | wp_step)
  show R _ _
  rw [Heap.size_push]
  exact hq
theorem type_call_ownK (F : ExcBaseFacts B newId initId bmB) (hT : ∀ X : String, bm.contains (.type X) = bmB.contains (.type X)) {rest : List Value} {kw : List (Str × Value)} {fI : Addr} {Q : Fin → Shared → Prop}
    (hC : h.get? C = some (excClassObj nm q C N bs bm hdct sn sub ab col dd k0 k1 k2 k3 k5 newId))
    (hi : W.Looks (model prog w) h (typeLookup (.ref C) "__init__") (some (.ref fI))) (hb : ∀ self, W.Looks (model prog w) h (bindSpecial (.ref fI) self) (.ref fI, [self])) (hrest : rest.length ≤ sizeLine)
    (hq : codeAny (model prog w) A (.call (.ref fI) ⟨.ref (h.objs.size + 1) :: rest, kw⟩)
      (fun r s' => match r with | .ok (.ret v) => v = .none ∧ Q (.done (.ret (.ref (h.objs.size + 1)))) s' | .ok _ => False | .error e => E e s')
      ⟨(h.push (W.kdv_tup rest)).push (excO C h.objs.size), g, d, t, os⟩) :
    wpAny (model prog w) A (Builtin.«type.__call__» ⟨.ref C :: rest, kw⟩) Q E ⟨h, g, d, t, os⟩ := by
  repeat (first | with_reducible refine wpAny_loadPart_at hC ?_ | with_reducible refine wpAny_madeBy_exc hC ?_ | wp_step)
  refine codeAny_call_builtin_code (Code.quiet_builtin _ F.quiet) (check_new_ownK F hT hC ?_)
  refine new_ownK F hT hC ?_ hrest
  show wpAny _ _ _ _ _ _
  have k : ∀ b o, h.get? b = some o → ((h.push (W.kdv_tup rest)).push (excO C h.objs.size)).get? b = some o := fun b o e => Heap.get?_push_of_some _ (Heap.get?_push_of_some _ e)
  have hC₁ := k _ _ hC
  have hget : ((h.push (W.kdv_tup rest)).push (excO C h.objs.size)).get? (h.objs.size + 1) = some (excO C h.objs.size) := by heap_get
  have hcC : (Value.ref C :: bm).contains (.ref C) = true := by simp
  have i1 := hi.keeps k
  have b1 := (hb (.ref (h.objs.size + 1))).keeps k
  unfold isInstance
  repeat (first | with_reducible refine wpAny_loadPart_at hget ?_ | (with_reducible refine wpAny_isSubtype_exc hC₁ ?_; rw [hcC]) | wp_step)
  show wpAny _ _ (typeLookup (.ref C) _) _ _ _
  refine i1.at ?_
  refine wpAny_holding (wpAny_bind (b1.at ?_))
  refine wpAny_bind (wpAny_call (codeAny_mono hq fun r s' z => ?_))
  rcases r with e | (v | _ | _ | _) <;> first | exact z | exact z.elim | skip
  obtain ⟨rfl, z⟩ := z
  first
    | exact wpAny_pure (wpAny_pure z)
    | (wp_walk; exact z)
theorem call_ownK (F : ExcBaseFacts B newId initId bmB) (hT : ∀ X : String, bm.contains (.type X) = bmB.contains (.type X)) {rest : List Value} {kw : List (Str × Value)} {fI : Addr}
    (hC : h.get? C = some (excClassObj nm q C N bs bm hdct sn sub ab col dd k0 k1 k2 k3 k5 newId))
    (hi : W.Looks (model prog w) h (typeLookup (.ref C) "__init__") (some (.ref fI))) (hb : ∀ self, W.Looks (model prog w) h (bindSpecial (.ref fI) self) (.ref fI, [self])) (hrest : rest.length ≤ sizeLine)
    (hq : codeAny (model prog w) (A.under (.builtin "type.__call__" ⟨.ref C :: rest, kw⟩)) (.call (.ref fI) ⟨.ref (h.objs.size + 1) :: rest, kw⟩) (W.InitBack (h.objs.size + 1) R)
      ⟨(h.push (W.kdv_tup rest)).push (excO C h.objs.size), g, d, t, os⟩) :
    codeAny (model prog w) A (.call (.ref C) ⟨rest, kw⟩) R ⟨h, g, d, t, os⟩ := by
  have f1 := tc_lookup
  have f2 := tc_bind (.ref C)
  have hTy : (⟨h, g, d, t, os⟩ : Shared).TypeIs (.ref C) "type" := ⟨_, hC, rfl⟩
  refine codeAny_of_tree ?_
  show wpAny _ _ (callAny (.ref C) _) _ _ _
  repeat (any_goals (first | assumption | with_reducible refine wpAny_loadPart_at hC ?_ | wp_step))
  refine ⟨rfl, ?_⟩
  refine codeAny_call_builtin_at (Code.quiet_builtin _ (by decide +kernel)) entry_typeCall (wpAny_check_type_call_sub hC (type_call_ownK F hT hC hi hb hrest ?_))
  refine codeAny_mono hq fun r s' z => ?_
  rcases r with e | (v | _ | _ | _) <;> exact z
end
end HandSPX
end PySem
namespace Up
open PySem PySem.Spec PyProof.Rows L2 PySem.W
/-! ### defs called with keywords alone -/
section
variable (P : Program) (w : World) (K : PySem.W.Frag) (mg : Str → Option Value) (base : Heap)
def FnK (CX : CXT) (k : Nat) (x : Str) (ps : List Str) (n : Nat) (ks : List Str) (gV : List V → List V → List V) (sp : Sp) : Prop :=
  ∃ f fd g, FnOk P w K mg base CX k f fd ps sp ∧ mg x = some (.ref f) ∧ PySem.W.keepIn K (.ref f) = true ∧ KBn K fd ps n ks g gV
end
section
variable {X : Cx} {CX : CXT} {k n l : Nat} {C : Addr} {x f : Str} {ps ks : List Str} {sp : Sp} {E : XK} {p pos apos : Pos} {kws : List Keyword} {t tk : TA} {gV : List V → List V → List V} {σ : L2.St} {H : Hp} {Q : VK}
theorem pe_fnK0 (F : FnK X.prog X.w X.K X.mg X.base CX k x ps 0 ks gV sp) (hr : Room k X.A) (hx : Passes CX X E) (hkw : PK X kws tk) (hg : Gl X x := by rfl)
    (hall : (backToKw pos (keywordEach kws X.env)).all (·.1.isSome) = true := by rfl) (hks : (backToKw pos (keywordEach kws X.env)).filterMap (·.1) = ks := by rfl) (hdb : (x == ("__debug__" : Str)) = false := by decide)
    (hpl : ((backTo pos (starEach [] X.env)).any (·.1) || (backToKw pos (keywordEach kws X.env)).any (·.1.isNone)) = false := by rfl) :
    PE X (.Call (.Name x p) [] kws pos) (tCallN 0 ks.length sp gV E tNil tk) := by
  obtain ⟨f, fd, g, F, hm, hk, hb⟩ := F
  refine ⟨fun pins s σ H Q I h => ?_⟩
  refine wpAny_Call_Name_kw (ld_glob I hg hm ?_ hdb)
  refine PySem.W.callWith_KW0 (h₀ := X.base) I.ok.mod.kin hk hall ?_ hpl
  refine thn (hkw.run pos pins s σ H _ I h) fun ws s2 ⟨zs, H2, I2, rz, l1, l2, q2⟩ => ⟨I2.kIn, ?_⟩
  rw [hks]
  exact run_fnN (us := []) (vs := []) F hr hb hx I2 .nil rz l1 l2 q2
theorem g_fnK (h : t σ H fun vs H1 => tk σ H1 fun zs H2 => vs.length = n ∧ zs.length = l ∧ sp (gV vs zs) H2 Q E) : tCallN n l sp gV E t tk σ H Q := h
/-! ### C(k = e, ..).f of an exception's class -/
def AxQ (a C : Addr) (f : Str) (Q : VK) : VK := fun v H2 => v = .non ∧ ∃ (d : Addr) (fs : List (Str × V)) (y : V), H2 a = some (exo a C (some d)) ∧ H2 d = some (exd d fs) ∧ fs.lookup f = some y ∧ Q y H2
def tAxV (C : Addr) (m : Nat) (f : Str) (sp : Sp) (gV : List V → List V → List V) (tk : TA) : TE := fun σ H Q => tk σ H fun zs H1 => zs.length = m ∧ ∀ a, H1 a = none → sp (gV [.ref a] zs) (upd H1 a (exo a C none)) (AxQ a C f Q) (fun _ _ _ => False)
theorem pe_axV {fI : Addr} {fd : FuncData} {g : List Value → List Value → List Value} (T : AxC X.K C) (XF : XfC X.K C) (hno : findIn X.K (.ref C) f = some none) (iC : findIn X.K (.ref C) "__init__" = some (some (.ref fI))) (tI : typeIn X.K (.ref fI) = some (.type "function"))
    (F1 : FnOk X.prog X.w X.K X.mg X.base CX k fI fd ps sp) (hr : Room (k + 1) X.A) (hb : KBn X.K fd ps 1 ks g gV) (hx : Passes CX X (fun _ _ _ => False)) (hm : X.mg x = some (.ref C)) (hkw : PK X kws tk) (hg : Gl X x := by rfl)
    (hall : (backToKw pos (keywordEach kws X.env)).all (·.1.isSome) = true := by rfl) (hks : (backToKw pos (keywordEach kws X.env)).filterMap (·.1) = ks := by rfl) (hdb : (x == ("__debug__" : Str)) = false := by decide)
    (hpl : ((backTo pos (starEach [] X.env)).any (·.1) || (backToKw pos (keywordEach kws X.env)).any (·.1.isNone)) = false := by rfl) (hat : attributeBase (.Call (.Name x p) [] kws pos) f X.env (eval (.Call (.Name x p) [] kws pos) X.env) = eval (.Call (.Name x p) [] kws pos) X.env := by rfl) :
    PE X (.Attribute (.Call (.Name x p) [] kws pos) f apos) (tAxV C ks.length f sp gV tk) := by
  refine ⟨fun pins s σ H Q I h => ?_⟩
  refine attr_of hat ?_
  refine wpAny_Call_Name_kw (ld_glob I hg hm ?_ hdb)
  refine PySem.W.callWith_KW0 (h₀ := X.base) I.ok.mod.kin T.kC hall ?_ hpl
  refine thn (hkw.run pos pins s σ H _ I h) fun ws s1 ⟨zs, H1, I1, rz, l2, q1⟩ => ⟨I1.kIn, ?_⟩
  rw [hks]
  obtain ⟨hp, gg, dr, tk2, oo⟩ := s1
  obtain ⟨nm, N, qn, bs, bm, hdc, sn, sub, ab, col, dd, k0, k1, k2, k3, k5, hC, hT⟩ := excInit_of I1.kIn T.ini
  have le1 : hp.objs.size ≤ hp.objs.size + 1 := Nat.le_succ _
  have free1 : H1 (hp.objs.size + 1) = none := I1.hok.fresh le1
  have todo := q1 (hp.objs.size + 1) free1
  have kp : ∀ b o, hp.get? b = some o → ((hp.push (kdv_tup [])).push (HandSPX.excO C hp.objs.size)).get? b = some o := fun b o z => Heap.get?_push_of_some _ (Heap.get?_push_of_some _ z)
  have at1 : ((hp.push (kdv_tup [])).push (HandSPX.excO C hp.objs.size)).get? (hp.objs.size + 1) = some (HandSPX.excO C hp.objs.size) := by heap_get
  have I2 := I1.laid (t' := tk2) (a := hp.objs.size + 1) (o := exo (hp.objs.size + 1) C none) (h' := (hp.push (kdv_tup [])).push (HandSPX.excO C hp.objs.size)) kp le1 (exo_ok at1)
  have r2 := hb.rel (vs := [V.ref (hp.objs.size + 1)]) (us := [Value.ref (hp.objs.size + 1)]) (.cons rfl .nil) rz
  have fun1 := F1.run _ X.stack _ _ ⟨[Value.ref (hp.objs.size + 1)], ks.zip ws⟩ (g [Value.ref (hp.objs.size + 1)] ws) _ _ (fun _ _ _ => False) (hr.make C [] (ks.zip ws)) (I2.env0.make C [] (ks.zip ws)) (hb.to _ [Value.ref (hp.objs.size + 1)] ws I2.kIn rfl (rz.length.symm.trans l2)) r2 todo
  refine wpAny_call (HandSPX.call_ownK (rest := []) PySem.F.excBase_ArithmeticError hT hC (looks_findIn I1.kIn iC) (fun self => bind_fn I1.kIn self tI) (by decide) (codeAny_mono fun1 fun r s' z => ?_))
  cases r with
  | error er => exact hx pins σ _ _ er s' I2 z
  | ok fl =>
    cases fl
    case ret u =>
      obtain ⟨v, H3, I3, rv, ev, d, fs, y, ea, ed, l, q⟩ := I2.after z
      subst ev
      refine ⟨rv, ?_⟩
      obtain ⟨t1, oa⟩ := exo_at I3.hok ea
      obtain ⟨mA, hns, hr3⟩ := exd_at I3.hok ed
      obtain ⟨od, ho, hl⟩ := lookIn_ns hns
      obtain ⟨u2, hu, ru⟩ := RelO.some_of (v := y) (o := mA f) (by rw [← l]; exact hr3 f)
      have J : PySem.W.InstAt s'.heap (hp.objs.size + 1) _ C (some od) := ⟨oa, rfl, rfl, ho⟩
      exact HandSPX.exc_get I3.kIn J XF.ga XF.gg XF.exC (PySem.W.findObj_own XF.hdC hno rfl (by rw [hl, hu])) (handed_of ru) ⟨y, H3, I3.tok _, ru, q⟩
    all_goals exact False.elim z
end
/-! ### all arguments by names, turned about -/
theorem vals_snoc : ∀ {vs : List V} {us : List Value} {v : V} {u : Value}, Vals vs us → RelV v u → Vals (vs ++ [v]) (us ++ [u])
  | [], _, _, _, .nil, h => .cons h .nil
  | _ :: _, _, _, _, .cons h1 h2, h => .cons h1 (vals_snoc h2 h)
theorem vals_rev : ∀ {vs : List V} {us : List Value}, Vals vs us → Vals vs.reverse us.reverse
  | [], _, .nil => .nil
  | _ :: _, _, .cons h1 h2 => by
    rw [List.reverse_cons, List.reverse_cons]
    exact vals_snoc (vals_rev h2) h1
def gR (vs zs : List V) : List V := vs ++ zs.reverse
section
variable {P : Program} {w : World} {K : PySem.W.Frag} {mg : Str → Option Value} {base : Heap} {CX : CXT} {k n : Nat} {x y qual : Str} {params : Arguments} {body : List Stmt} {scope : Scope} {f C : Addr} {fd : FuncData} {ps ks : List Str} {sp : Sp} {dvs : List V}
theorem kbnR (F : FunD K y qual params body scope [] [] f fd)
    (h : ∀ (kV doc pm : Value) (an : Option Addr) (cdv ct : Value) (us ws : List Value), us.length = n → ws.length = ks.length → bindArgs (PySem.W.fnOf y qual params body scope .none kV doc pm an cdv ct) ⟨us, ks.zip ws⟩ = pure (ps.zip (us ++ ws.reverse))) : KBn K fd ps n ks (fun us ws => us ++ ws.reverse) gR :=
  kbnN (g := fun us ws => us ++ ws.reverse) F (fun r1 r2 => r1.append (vals_rev r2)) h
theorem fnk_mk (F : FunD K y qual params body scope [] [] f fd) (hm : mg x = some (.ref f)) (ok : FnOk P w K mg base CX k f fd ps sp)
    (h : ∀ (kV doc pm : Value) (an : Option Addr) (cdv ct : Value) (us ws : List Value), us.length = 0 → ws.length = ks.length → bindArgs (PySem.W.fnOf y qual params body scope .none kV doc pm an cdv ct) ⟨us, ks.zip ws⟩ = pure (ps.zip (us ++ ws.reverse))) : FnK P w K mg base CX k x ps 0 ks gR sp :=
  ⟨f, fd, _, ok, hm, F.kp, kbnR F h⟩
/-- with defaults behind -/
theorem kbnD (F : FunD K y qual params body scope dvs [] f fd) (n : Nat) (ks : List Str) (g : {α : Type} → List α → List α → List α → List α) (hd : dvs ≠ [])
    (hrel : ∀ {vs ds zs : List V} {us its ws : List Value}, Vals vs us → Vals ds its → Vals zs ws → Vals (g vs ds zs) (g us its ws))
    (h : ∀ (T : Addr) (kV doc pm : Value) (an : Option Addr) (cdv ct : Value) (us its ws : List Value), us.length = n → its.length = dvs.length → ws.length = ks.length →
      ∃ k, bindArgs (PySem.W.fnOf y qual params body scope (.ref T) kV doc pm an cdv ct) ⟨us, ks.zip ws⟩ = seqItems? (.ref T) >>= k ∧ k (some its.toArray) = pure (ps.zip (g us its ws))) :
    ∃ its : List Value, KBn K fd ps n ks (fun us ws => g us its ws) (fun vs zs => g vs dvs zs) := by
  obtain ⟨oc, od, dV, kV, doc, pm, an, cdv, ct, osl, rfl, lk, hcd, hD, hK⟩ := F.ex
  rcases hD with ⟨e, _⟩ | ⟨_, T, o, its, m, rfl, lT, oT, rT⟩
  · exact absurd e hd
  · refine ⟨its, ⟨fun s us ws X l1 l2 => ?_, fun r1 r2 => hrel r1 rT r2⟩⟩
    obtain ⟨k, e1, e2⟩ := h T kV doc pm an cdv ct us its ws l1 rT.length.symm l2
    refine BindsTo.of_looks fun M => ?_
    rw [e1]
    exact looks_items X lT oT (.of_pure e2)
end
end Up

set_option Elab.async false
set_option linter.all false
set_option pp.maxSteps 600
set_option maxRecDepth 100000
set_option maxHeartbeats 4000000
set_option exponentiation.threshold 200000
namespace Up
open PySem PySem.Spec PyProof.Rows L2
local macro_rules | `(tactic| walk_at "u") => `(tactic| first
  | with_reducible refine g_seq ?_
  | with_reducible refine g_asg ?_
  | with_reducible refine g_op ?_
  | ((with_reducible show tVar _ _ _ _); apply g_var; exact rfl)
  | with_reducible refine g_c ?_
  | with_reducible refine g_name ?_
  | with_reducible refine g_ifs ?_
  | with_reducible refine g_tt ?_
  | with_reducible refine g_tB ?_
  | with_reducible refine g_bl ?_
  | with_reducible refine g_ret ?_
  | with_reducible refine g_cb ?_
  | with_reducible refine g_cons ?_
  | with_reducible refine g_nil ?_
  | with_reducible refine g_call ?_
  | with_reducible refine g_and ?_
  | with_reducible refine g_or ?_
  | with_reducible refine g_not ?_
  | with_reducible refine g_andV ?_
  | with_reducible refine g_orV ?_
  | with_reducible refine g_notV ?_
  | with_reducible refine g_if ?_
  | with_reducible refine g_un ?_
  | with_reducible refine g_neg ?_
  | with_reducible refine g_addI ?_
  | with_reducible refine g_subI ?_
  | with_reducible refine g_subB ?_
  | with_reducible refine g_I0 ?_
  | with_reducible refine g_cmpI ?_
  | with_reducible refine g_eqI ?_
  | with_reducible refine g_neI ?_
  | with_reducible refine g_eqS ?_
  | with_reducible refine g_neS ?_
  | with_reducible refine g_eqB ?_
  | with_reducible refine g_neB ?_
  | with_reducible refine g_bits ?_
  | with_reducible refine g_bitsI ?_
  | with_reducible refine g_fld ?_
  | with_reducible refine g_tup ?_
  | with_reducible refine g_lst ?_
  | with_reducible refine g_gtup ?_
  | with_reducible refine g_make ?_
  | with_reducible refine g_lc ?_
  | with_reducible refine g_yesT ?_
  | with_reducible refine g_intI ?_
  | with_reducible refine g_intB ?_
  | with_reducible refine g_max2 ?_
  | with_reducible refine g_abs1 ?_
  | with_reducible refine g_for ?_
  | with_reducible refine g_iList ?_
  | with_reducible refine g_iTup ?_
  | with_reducible refine g_iRng1 ?_
  | with_reducible refine g_iEnum ?_
  | with_reducible refine g_slice ?_
  | with_reducible refine g_po0 ?_
  | with_reducible refine g_po1 ?_
  | with_reducible refine g_gsub ?_
  | with_reducible refine g_par ?_
  | with_reducible refine g_par2 ?_
  | with_reducible refine g_rfl ?_
  | with_reducible refine g_meth ?_
  | with_reducible refine g_gcons ?_
  | with_reducible refine g_gnil ?_
  | with_reducible refine g_gfld ?_
  | with_reducible refine g_sfld ?_
  | with_reducible refine g_drop ?_
  | with_reducible refine g_next ?_
  | with_reducible refine iteT ?_
  | with_reducible refine iteF ?_)
local macro_rules | `(tactic| walk_at "go") => `(tactic| (repeat walk_at "u"))

section
variable {P : Program} {w : World} {K : PySem.W.Frag} {mg : Str → Option Value} {base : Heap}
/-! wrapped -/
theorem sc_wrapped : FnScope ["number"] ["number"] (defScope s_wrapped) := ⟨rfl, rfl, rfl, by decide +kernel, rfl, by decide +kernel, by decide +kernel⟩
def wrapI (n : Int) : Int := (n + 9223372036854775808).fmod 18446744073709551616 - 9223372036854775808
def sp_wrapped : Sp := fun vs H Q _ => ∃ n, vs = [.int n] ∧ Q (.int (wrapI n)) H
theorem ok_wrapped {f : Addr} {fd : FuncData} (F : FunD K "wrapped" "wrapped" (defArgs s_wrapped) (defBody s_wrapped) (defScope s_wrapped) [] [] f fd) : FnOk P w K mg base CX0 1 f fd ["number"] sp_wrapped := by
  refine F.ok sc_wrapped (fun vs H Q E h => ?_) (fun cdv A outer s H vs Q E hr h => ?_)
  · obtain ⟨_, rfl, _⟩ := h; rfl
  · obtain ⟨n, rfl, q⟩ := h
    refine ⟨_, PSs.nox (pss_one (ps_ret (pe_op op_oSub (pe_op op_oMod (pe_op op_oAdd (pv 0) (pe_op op_oPow pe_int pe_int)) (pe_op op_oPow pe_int pe_int)) (pe_op op_oPow pe_int pe_int)))), ?_⟩
    have e63 : (2 : Int) ^ Int.toNat 63 = 9223372036854775808 := by decide
    have e64 : (2 : Int) ^ Int.toNat 64 = 18446744073709551616 := by decide
    walk_at "go"
    refine g_II ⟨by decide, by decide, by decide⟩ ?_
    rw [e63]
    walk_at "go"
    refine g_II ⟨by decide, by decide, by decide⟩ ?_
    rw [e64]
    refine g_modI (by decide) ?_
    walk_at "go"
    refine g_II ⟨by decide, by decide, by decide⟩ ?_
    rw [e63]
    walk_at "go"
    exact q
end
end Up

set_option Elab.async false
set_option linter.all false
set_option pp.maxSteps 600
set_option maxRecDepth 100000
set_option maxHeartbeats 4000000
set_option exponentiation.threshold 200000
namespace Up
open PySem PySem.Spec PyProof.Rows L2 LamX
local macro_rules | `(tactic| walk_at "u") => `(tactic| first
  | with_reducible refine g_seq ?_
  | with_reducible refine g_asg ?_
  | with_reducible refine g_op ?_
  | ((with_reducible show tVar _ _ _ _); apply g_var; exact rfl)
  | with_reducible refine g_c ?_
  | with_reducible refine g_name ?_
  | with_reducible refine g_ifs ?_
  | with_reducible refine g_tt ?_
  | with_reducible refine g_tB ?_
  | with_reducible refine g_bl ?_
  | with_reducible refine g_ret ?_
  | with_reducible refine g_cb ?_
  | with_reducible refine g_cons ?_
  | with_reducible refine g_nil ?_
  | with_reducible refine g_call ?_
  | with_reducible refine g_and ?_
  | with_reducible refine g_or ?_
  | with_reducible refine g_not ?_
  | with_reducible refine g_andV ?_
  | with_reducible refine g_orV ?_
  | with_reducible refine g_notV ?_
  | with_reducible refine g_if ?_
  | with_reducible refine g_un ?_
  | with_reducible refine g_neg ?_
  | with_reducible refine g_addI ?_
  | with_reducible refine g_subI ?_
  | with_reducible refine g_subB ?_
  | with_reducible refine g_I0 ?_
  | with_reducible refine g_cmpI ?_
  | with_reducible refine g_eqI ?_
  | with_reducible refine g_neI ?_
  | with_reducible refine g_eqS ?_
  | with_reducible refine g_neS ?_
  | with_reducible refine g_eqB ?_
  | with_reducible refine g_neB ?_
  | with_reducible refine g_bits ?_
  | with_reducible refine g_bitsI ?_
  | with_reducible refine g_fld ?_
  | with_reducible refine g_tup ?_
  | with_reducible refine g_lst ?_
  | with_reducible refine g_gtup ?_
  | with_reducible refine g_make ?_
  | with_reducible refine g_lc ?_
  | with_reducible refine g_yesT ?_
  | with_reducible refine g_intI ?_
  | with_reducible refine g_intB ?_
  | with_reducible refine g_max2 ?_
  | with_reducible refine g_abs1 ?_
  | with_reducible refine g_for ?_
  | with_reducible refine g_iList ?_
  | with_reducible refine g_iTup ?_
  | with_reducible refine g_iRng1 ?_
  | with_reducible refine g_iEnum ?_
  | with_reducible refine g_slice ?_
  | with_reducible refine g_po0 ?_
  | with_reducible refine g_po1 ?_
  | with_reducible refine g_gsub ?_
  | with_reducible refine g_par ?_
  | with_reducible refine g_par2 ?_
  | with_reducible refine g_rfl ?_
  | with_reducible refine g_meth ?_
  | with_reducible refine g_gcons ?_
  | with_reducible refine g_gnil ?_
  | with_reducible refine g_gfld ?_
  | with_reducible refine g_sfld ?_
  | with_reducible refine g_drop ?_
  | with_reducible refine g_next ?_
  | with_reducible refine iteT ?_
  | with_reducible refine iteF ?_)
local macro_rules | `(tactic| walk_at "go") => `(tactic| (repeat walk_at "u"))
local macro_rules | `(tactic| walk_at "t1") => `(tactic| (first
  | walk_at "u"
  | with_reducible refine g_chain ?_
  | with_reducible refine g_par3 ?_
  | with_reducible refine g_par3' ?_
  | with_reducible refine g_augS ?_
  | with_reducible refine g_nt ?_
  | with_reducible refine g_nf ?_
  | with_reducible refine g_methK ?_
  | with_reducible refine g_makeK ?_
  | with_reducible refine g_iRng2 ?_
  | with_reducible refine g_bm ?_
  | with_reducible refine g_fldaug ?_
  | with_reducible refine g_iStr ?_
  | with_reducible refine g_ipI ?_
  | ((with_reducible show tAug _ _ _ _ _ _); refine ⟨_, rfl, ?_⟩)
  | ((with_reducible refine show_exT ?_); first
    | refine rdT3 (by assumption) (by assumption) ?_
    | refine rdT4 (by assumption) (by assumption) ?_
    | refine rdT5 (by assumption) (by assumption) ?_
    | refine rdT1 (by assumption) (by assumption) ?_
    | refine rdT2 (by assumption) (by assumption) ?_
    | refine rdN1 (by assumption) (by assumption) ?_
    | refine rdN2 (by assumption) (by assumption) ?_
    | refine rdN3 (by assumption) (by assumption) ?_
    | refine rdN4 (by assumption) (by assumption) ?_)))
local macro_rules | `(tactic| walk_at "t") => `(tactic| (repeat walk_at "t1"))
local macro_rules | `(tactic| walk_at "v") => `(tactic| (repeat (first
  | walk_at "t1"
  | with_reducible refine g_js ?_
  | with_reducible refine g_js0 ?_
  | with_reducible refine g_fmt ?_
  | with_reducible refine g_joined ?_
  | with_reducible refine g_isBool ?_
  | with_reducible refine g_notBool ?_
  | with_reducible refine g_revL ?_
  | with_reducible refine g_self ?_
  | with_reducible refine g_selfN ?_
  | with_reducible refine g_rN ?_
  | with_reducible refine g_rNN ?_
  | with_reducible refine g_iN ?_
  | with_reducible refine g_iNN ?_
  | with_reducible refine g_sN ?_
  | with_reducible refine g_sNN ?_
  | with_reducible refine g_bN ?_
  | with_reducible refine g_bNN ?_)))

section
variable {P : Program} {w : World} {K : PySem.W.Frag} {mg : Str → Option Value} {base : Heap} {C D N NA CT : Addr} {H H' H1 : Hp} {a : Addr} {f : Addr → Int} {W W' : Wm} {ls : List (Addr × HO)} {T : List (Addr × Str)} {v u : V} {name : Str} {k k' : Vk}
theorem iteSt {x : Str} {A B : Prop} (h : A) : if isS (V.str x) = true then A else B := h
/-! ### deeds of two small numbers -/
def sml (i : Int) : Prop := -1000000 < i ∧ i < 1000000
theorem wrap_small {i : Int} (h : sml i) : wrapI i = i := by
  unfold wrapI
  unfold sml at h
  rw [Int.fmod_eq_emod_of_nonneg _ (by decide)]
  omega
theorem sml_big {i : Int} (h : sml i) : i.natAbs < 2 ^ 100 := by
  unfold sml at h
  have : (2 : Nat) ^ 100 = 1267650600228229401496703205376 := by decide
  omega
def arS (c : Str) (i j : Int) : Int := if c = "mul" then i * j else if c = "add" then i + j else i - j
def retI (H : Hp) (i : Int) (Q : VK) : Prop := ∀ H', Same H H' → Q (.int i) H'
theorem sc_arith : FnScope ["word", "one", "other"] ["word", "one", "other"] (defScope s_arith) := ⟨rfl, rfl, rfl, by decide +kernel, rfl, by decide +kernel, by decide +kernel⟩
def sp_arithI : Sp := fun vs H Q _ => ∃ c i j, vs = [.str c, .int i, .int j] ∧ (c = "mul" ∨ c = "add" ∨ c = "sub") ∧ sml i ∧ sml j ∧ sml (arS c i j) ∧ retI H (arS c i j) Q
theorem ok_arithI {g : Addr} {fd : FuncData} (F : FunD K "arith" "arith" (defArgs s_arith) (defBody s_arith) (defScope s_arith) [] [] g fd) (B : Blt mg) (TF : FlC K mg C) (c_wrapped : Fn P w K mg base CX0 1 "wrapped" ["number"] [] sp_wrapped) : FnOk P w K mg base CX0 2 g fd ["word", "one", "other"] sp_arithI := by
  have g_Float : mg "Float" = some (.ref C) := TF.mg
  refine F.ok sc_arith (fun vs H Q E h => ?_) (fun cdv A outer s H vs Q E hr h => ?_)
  · obtain ⟨_, _, _, rfl, _⟩ := h; rfl
  · obtain ⟨c, i, j, rfl, hc, hi, hj, hz, q⟩ := h
    refine ⟨_, PSs.nox (pss_cons (ps_if (pt_cmpR op_in_seq (pv 0) (pe_tupN (pa_cons pe_str (pa_cons pe_str (pa_cons pe_str (pa_cons pe_str (pa_cons pe_str pa_nil)))))) (by rfl)) pss_never pss_nil)
  (pss_cons (ps_if (PW.pt (pw_or (pt_cmpR (op_oEq hr.units) (pv 0) pe_str (nomark _)) (pw_or (pt_val (pe_callB call_isi (by rfl) B.isinstance (by decide +kernel) (pa_cons (pv 1) (pa_cons (pe_gref g_Float) pa_nil)))) (pw_or1 (pt_val (pe_callB call_isi (by rfl) B.isinstance (by decide +kernel) (pa_cons (pv 2) (pa_cons (pe_gref g_Float) pa_nil)))))))) pss_never pss_nil)
  (pss_cons (ps_if (pt_cmpR op_in_seq (pv 0) (pe_tupN (pa_cons pe_str (pa_cons pe_str pa_nil))) (by rfl)) pss_never pss_nil)
  (pss_cons (ps_if (pt_cmpR (op_oEq hr.units) (pv 0) pe_str (nomark _)) (pss_one (ps_ret (pe_fn c_wrapped (hr.mono (by first | decide | omega)) pass0 (pa_cons (pe_op op_oMul (pv 1) (pv 2)) pa_nil)))) pss_nil)
  (pss_one (ps_ret (pe_fn c_wrapped (hr.mono (by first | decide | omega)) pass0 (pa_cons (pe_ifExp (pt_cmpR (op_oEq hr.units) (pv 0) pe_str (nomark _)) (pe_op op_oAdd (pv 1) (pv 2)) (pe_op op_oSub (pv 1) (pv 2))) pa_nil)))))))), ?_⟩
    walk_at "v"
    refine g_new (sz rfl) fun p H1 n1 s1 h1 _ => ?_
    have hin : inV (.str c) [.str "band", .str "bor", .str "bxor", .str "shl", .str "shr"] = false := by rcases hc with rfl | rfl | rfl <;> decide +kernel
    refine ⟨p, _, rfl, .inr (SqT.of h1), rfl, rfl, ?_⟩
    walk_at "v"
    refine g_iteb (fun z => absurd (hin.symm.trans z) (by decide)) fun _ => ?_
    walk_at "v"
    refine g_no (by rcases hc with rfl | rfl | rfl <;> decide +kernel) ?_
    walk_at "v"
    refine g_isiF (kf_int TF) ?_
    walk_at "v"
    refine g_isiF (kf_int TF) ?_
    walk_at "v"
    refine g_new (sz rfl) fun p2 H2 n2 s2 h2 _ => ?_
    have hin2 : inV (.str c) [.str "floor", .str "mod"] = false := by rcases hc with rfl | rfl | rfl <;> decide +kernel
    refine ⟨p2, _, rfl, .inr (SqT.of h2), rfl, rfl, ?_⟩
    walk_at "v"
    refine g_iteb (fun z => absurd (hin2.symm.trans z) (by decide)) fun _ => ?_
    walk_at "v"
    have q := q H2 (s1.trans s2)
    rw [← wrap_small hz] at q
    unfold arS at q
    refine g_ite (fun h3 => ?_) fun h3 => ?_
    · rw [if_pos h3] at q
      walk_at "v"
      refine g_mulI (mul_small (lt_pow_mono (sml_big hi) (by decide)) (lt_pow_mono (sml_big hj) (by decide))) ?_
      walk_at "v"
      exact ⟨_, rfl, q⟩
    · rw [if_neg h3] at q
      walk_at "v"
      refine g_ite (fun h4 => ?_) fun h4 => ?_
      · rw [if_pos h4] at q
        walk_at "v"
        exact ⟨_, rfl, q⟩
      · rw [if_neg h4] at q
        walk_at "v"
        exact ⟨_, rfl, q⟩
def sp_idI : Sp := fun vs H Q _ => ∃ i, vs = [.int i] ∧ ∀ H', Same H H' → Q (.int i) H'
theorem sc_wholeorthrown : FnScope ["number", "whole"] ["number"] (defScope s_wholeorthrown) := ⟨rfl, rfl, rfl, by decide +kernel, rfl, by decide +kernel, by decide +kernel⟩
theorem ok_wotI {g : Addr} {fd : FuncData} (F : FunD K "whole_or_thrown" "whole_or_thrown" (defArgs s_wholeorthrown) (defBody s_wholeorthrown) (defScope s_wholeorthrown) [] [] g fd) (c_wholeof : Fn P w K mg base CX0 2 "whole_of" ["number"] [] (sp_wholeof C)) : FnOk P w K mg base CX0 3 g fd ["number"] sp_idI := by
  refine F.ok sc_wholeorthrown (fun vs H Q E h => ?_) (fun cdv A outer s H vs Q E hr h => ?_)
  · obtain ⟨_, rfl, _⟩ := h; rfl
  · obtain ⟨i, rfl, q⟩ := h
    refine ⟨_, PSs.nox (pss_cons (ps_set (i := 1) sc_wholeorthrown.nd rfl (Or.inl rfl) (pe_fn c_wholeof (hr.mono (by first | decide | omega)) pass0 (pa_cons (pv 0) pa_nil)))
  (pss_cons (ps_if (pt_cmpR op_isN (pv 1) pe_non (nomark _)) (pss_one ps_never) pss_nil)
  (pss_one (ps_ret (pv 1))))), ?_⟩
    walk_at "v"
    refine ⟨.int i, .i i, rfl, rfl, fun H1 s1 => ?_⟩
    rw [show oV (wholeN (.i i)) = .int i from rfl]
    walk_at "v"
    exact q _ s1
theorem sc_bitnot : FnScope ["number"] ["number"] (defScope s_bitnot) := ⟨rfl, rfl, rfl, by decide +kernel, rfl, by decide +kernel, by decide +kernel⟩
def sp_notI : Sp := fun vs H Q _ => ∃ i, vs = [.int i] ∧ ∀ H', Same H H' → Q (.int (-1 - i)) H'
theorem ok_notI {g : Addr} {fd : FuncData} (F : FunD K "bit_not" "bit_not" (defArgs s_bitnot) (defBody s_bitnot) (defScope s_bitnot) [] [] g fd) (c_wholeorthrown : Fn P w K mg base CX0 3 "whole_or_thrown" ["number"] [] sp_idI) : FnOk P w K mg base CX0 4 g fd ["number"] sp_notI := by
  refine F.ok sc_bitnot (fun vs H Q E h => ?_) (fun cdv A outer s H vs Q E hr h => ?_)
  · obtain ⟨_, rfl, _⟩ := h; rfl
  · obtain ⟨i, rfl, q⟩ := h
    refine ⟨_, PSs.nox (pss_one (ps_ret (pe_op op_oSub (pe_op op_oSub pe_int pe_int) (pe_fn c_wholeorthrown (hr.mono (by first | decide | omega)) pass0 (pa_cons (pv 0) pa_nil))))), ?_⟩
    walk_at "v"
    refine ⟨i, rfl, fun H1 s1 => ?_⟩
    walk_at "v"
    exact q _ s1
/-- ("value", v) -/
def RetV (H : Hp) (v : V) (Q : VK) : Prop := ∀ H' p, H p = none → Same H H' → H' p = some (.tup [.str "value", v]) → Q (.ref p) H'
theorem RetV.later {Q : VK} (h : RetV H v Q) (s : Same H H') : RetV H' v Q := fun H2 p np s2 hp => h H2 p (s.free np) (s.trans s2) hp
theorem RetV.mk {Q : VK} (h : RetV H v Q) : [V.str "value", v].length ≤ sizeLine ∧ NewAt H (.tup [.str "value", v]) Q := ⟨sz rfl, fun p H' np s hp _ => h H' p np s hp⟩
abbrev CIsNum (P : Program) (w : World) (K : PySem.W.Frag) (mg : Str → Option Value) (base : Heap) (C : Addr) : Prop := Fn P w K mg base CX0 2 "is_number" ["thing"] [] (sp_isnumber K C)
theorem sc_arithdeed : FnScope ["word", "one", "other", "event"] ["word", "one", "other"] (defScope s_arithdeed) := ⟨rfl, rfl, rfl, by decide +kernel, rfl, by decide +kernel, by decide +kernel⟩
def sp_arithdI : Sp := fun vs H Q _ => ∃ c i j, vs = [.str c, .int i, .int j] ∧ (c = "mul" ∨ c = "add" ∨ c = "sub") ∧ sml i ∧ sml j ∧ sml (arS c i j) ∧ RetV H (.int (arS c i j)) Q
theorem ok_arithdI {g : Addr} {fd : FuncData} (F : FunD K "arith_deed" "arith_deed" (defArgs s_arithdeed) (defBody s_arithdeed) (defScope s_arithdeed) [] [] g fd) (TF : FlC K mg C) (c_isnumber : CIsNum P w K mg base C) (c_arith : Fn P w K mg base CX0 2 "arith" ["word", "one", "other"] [] sp_arithI) : FnOk P w K mg base CX0 3 g fd ["word", "one", "other"] sp_arithdI := by
  refine F.ok sc_arithdeed (fun vs H Q E h => ?_) (fun cdv A outer s H vs Q E hr h => ?_)
  · obtain ⟨_, _, _, rfl, _⟩ := h; rfl
  · obtain ⟨c, i, j, rfl, hc, hi, hj, hz, q⟩ := h
    refine ⟨_, PSs.nox (pss_cons (ps_if (PW.pt (pw_and (pt_val (pe_fn c_isnumber (hr.mono (by first | decide | omega)) pass0 (pa_cons (pv 1) pa_nil))) (pw_and1 (pt_val (pe_fn c_isnumber (hr.mono (by first | decide | omega)) pass0 (pa_cons (pv 2) pa_nil)))))) (pss_one (ps_ret (pe_tupN (pa_cons pe_str (pa_cons (pe_fn c_arith (hr.mono (by first | decide | omega)) pass0 (pa_cons (pv 0) (pa_cons (pv 1) (pa_cons (pv 2) pa_nil)))) pa_nil))))) pss_nil)
  pss_never), ?_⟩
    walk_at "v"
    refine ⟨_, _, _, rfl, kf_int TF, _, rfl, iteT ?_⟩
    walk_at "v"
    refine ⟨_, _, _, rfl, kf_int TF, _, rfl, iteT ?_⟩
    walk_at "v"
    refine ⟨c, i, j, rfl, hc, hi, hj, hz, fun H1 s1 => ?_⟩
    walk_at "v"
    exact (q.later s1).mk
theorem sc_binarydeed : FnScope ["word", "one", "other"] ["word", "one", "other"] (defScope s_binarydeed) := ⟨rfl, rfl, rfl, by decide +kernel, rfl, by decide +kernel, by decide +kernel⟩
theorem ok_binI {g : Addr} {fd : FuncData} (F : FunD K "binary_deed" "binary_deed" (defArgs s_binarydeed) (defBody s_binarydeed) (defScope s_binarydeed) [] [] g fd) (B : Blt mg) (c_arithdeed : Fn P w K mg base CX0 3 "arith_deed" ["word", "one", "other"] [] sp_arithdI) : FnOk P w K mg base CX0 4 g fd ["word", "one", "other"] sp_arithdI := by
  refine F.ok sc_binarydeed (fun vs H Q E h => ?_) (fun cdv A outer s H vs Q E hr h => ?_)
  · obtain ⟨_, _, _, rfl, _⟩ := h; rfl
  · obtain ⟨c, i, j, rfl, hc, hi, hj, hz, q⟩ := h
    refine ⟨_, PSs.nox (pss_cons (ps_if (pt_cmpR (op_oEq hr.units) (pv 0) pe_str (nomark _)) pss_never pss_nil)
  (pss_cons (ps_if (pt_cmpR (op_oEq hr.units) (pv 0) pe_str (nomark _)) pss_never pss_nil)
  (pss_cons (ps_if (pt_cmpR op_in_seq (pv 0) (pe_tupN (pa_cons pe_str (pa_cons pe_str (pa_cons pe_str (pa_cons pe_str pa_nil))))) (by rfl)) pss_never pss_nil)
  (pss_one (ps_ret (pe_ifExp (pt_cmpR (op_oEq hr.units) (pv 0) pe_str (nomark _)) pe_never (pe_fn c_arithdeed (hr.mono (by first | decide | omega)) pass0 (pa_cons (pv 0) (pa_cons (pv 1) (pa_cons (pv 2) pa_nil)))))))))), ?_⟩
    walk_at "v"
    refine g_no (by rcases hc with rfl | rfl | rfl <;> decide +kernel) ?_
    walk_at "v"
    refine g_no (by rcases hc with rfl | rfl | rfl <;> decide +kernel) ?_
    walk_at "v"
    refine g_new (sz rfl) fun p H1 n1 s1 h1 _ => ?_
    have hin : inV (.str c) [.str "lt", .str "le", .str "gt", .str "ge"] = false := by rcases hc with rfl | rfl | rfl <;> decide +kernel
    refine ⟨p, _, rfl, .inr (SqT.of h1), rfl, rfl, ?_⟩
    walk_at "v"
    refine g_iteb (fun z => absurd (hin.symm.trans z) (by decide)) fun _ => ?_
    walk_at "v"
    refine g_no (by rcases hc with rfl | rfl | rfl <;> decide +kernel) ?_
    walk_at "v"
    exact ⟨c, i, j, rfl, hc, hi, hj, hz, q.later s1⟩
theorem sc_unarydeed : FnScope ["word", "one", "event"] ["word", "one"] (defScope s_unarydeed) := ⟨rfl, rfl, rfl, by decide +kernel, rfl, by decide +kernel, by decide +kernel⟩
def sp_unI : Sp := fun vs H Q _ => ∃ i, vs = [.str "bnot", .int i] ∧ RetV H (.int (-1 - i)) Q
theorem ok_unI {g : Addr} {fd : FuncData} (F : FunD K "unary_deed" "unary_deed" (defArgs s_unarydeed) (defBody s_unarydeed) (defScope s_unarydeed) [] [] g fd) (TF : FlC K mg C) (c_isnumber : CIsNum P w K mg base C) (c_bitnot : Fn P w K mg base CX0 4 "bit_not" ["number"] [] sp_notI) : FnOk P w K mg base CX0 5 g fd ["word", "one"] sp_unI := by
  refine F.ok sc_unarydeed (fun vs H Q E h => ?_) (fun cdv A outer s H vs Q E hr h => ?_)
  · obtain ⟨_, rfl, _⟩ := h; rfl
  · obtain ⟨i, rfl, q⟩ := h
    refine ⟨_, PSs.nox (pss_cons (ps_if (pt_val (pe_fn c_isnumber (hr.mono (by first | decide | omega)) pass0 (pa_cons (pv 1) pa_nil))) (pss_one (ps_ret (pe_tupN (pa_cons pe_str (pa_cons (pe_ifExp (pt_cmpR (op_oEq hr.units) (pv 0) pe_str (nomark _)) pe_never (pe_fn c_bitnot (hr.mono (by first | decide | omega)) pass0 (pa_cons (pv 1) pa_nil))) pa_nil))))) pss_nil)
  pss_never), ?_⟩
    walk_at "v"
    refine ⟨_, _, _, rfl, kf_int TF, _, rfl, iteT ?_⟩
    walk_at "v"
    refine g_no (by decide +kernel) ?_
    walk_at "v"
    refine ⟨i, rfl, fun H1 s1 => ?_⟩
    walk_at "v"
    exact (q.later s1).mk
theorem sc_istext : FnScope ["value"] ["value"] (defScope s_istext) := ⟨rfl, rfl, rfl, by decide +kernel, rfl, by decide +kernel, by decide +kernel⟩
def sp_istextS : Sp := fun vs H Q _ => ∃ x, vs = [.str x] ∧ Q (.bl true) H
theorem ok_istextS {g : Addr} {fd : FuncData} (F : FunD K "is_text" "is_text" (defArgs s_istext) (defBody s_istext) (defScope s_istext) [] [] g fd) (B : Blt mg) (c_isnumber : CIsNum P w K mg base C) : FnOk P w K mg base CX0 3 g fd ["value"] sp_istextS := by
  refine F.ok sc_istext (fun vs H Q E h => ?_) (fun cdv A outer s H vs Q E hr h => ?_)
  · obtain ⟨_, rfl, _⟩ := h; rfl
  · obtain ⟨x, rfl, q⟩ := h
    refine ⟨_, PSs.nox (pss_one (ps_ret (pe_or (pe_callB call_isi (by rfl) B.isinstance (by decide +kernel) (pa_cons (pv 0) (pa_cons (pe_tyStr B) pa_nil))) (pe_one (pe_fn c_isnumber (hr.mono (by first | decide | omega)) pass0 (pa_cons (pv 0) pa_nil)))))), ?_⟩
    walk_at "v"
    refine g_isiStr kn_str ?_
    walk_at "v"
    exact q
theorem sc_concatdeed : FnScope ["one", "other", "parts", "part", "event"] ["one", "other"] (defScope s_concatdeed) := ⟨rfl, rfl, rfl, by decide +kernel, rfl, by decide +kernel, by decide +kernel⟩
def sp_concatS : Sp := fun vs H Q _ => ∃ x y : Str, vs = [.str x, .str y] ∧ x.length ≤ 100 ∧ y.length ≤ 100 ∧ RetV H (.str (x ++ y)) Q
theorem ok_concatS {g : Addr} {fd : FuncData} (F : FunD K "concat_deed" "concat_deed" (defArgs s_concatdeed) (defBody s_concatdeed) (defScope s_concatdeed) [] [] g fd) (B : Blt mg) (i_MOST_SIGNS : ∃ t, mg "MOST_SIGNS" = some (.int 100000 t)) (c_istext : Fn P w K mg base CX0 3 "is_text" ["value"] [] sp_istextS) : FnOk P w K mg base CX0 4 g fd ["one", "other"] sp_concatS := by
  refine F.ok sc_concatdeed (fun vs H Q E h => ?_) (fun cdv A outer s H vs Q E hr h => ?_)
  · obtain ⟨_, _, rfl, _⟩ := h; rfl
  · obtain ⟨x, y, rfl, hx, hy, q⟩ := h
    refine ⟨_, PSs.nox (pss_cons (ps_if (PW.pt (pw_and (pt_val (pe_fn c_istext (hr.mono (by first | decide | omega)) pass0 (pa_cons (pv 0) pa_nil))) (pw_and1 (pt_val (pe_fn c_istext (hr.mono (by first | decide | omega)) pass0 (pa_cons (pv 1) pa_nil)))))) (pss_cons (ps_setLc (i := 2) (own := [("part", 3)]) (g := gName 3) rfl sc_concatdeed.nd rfl rfl (sw_true rfl rfl rfl (by decide +kernel)) (pi_tup (pe_tupN (pa_cons (pv 0) (pa_cons (pv 1) pa_nil)))) (blkOk_by (own := [("part", 3)]) (N := ["one", "other", "parts", "part", "event"]) (sc := defScope s_concatdeed) (by decide +kernel)) (fun _ _ _ _ _ => pg_name (i := 3) sc_concatdeed.nd rfl (Or.inl rfl)) (fun _ _ _ _ _ => pts_nil) (fun _ _ _ _ _ => (pe_ifExp (pt_val (pe_callB (call_isiE K rfl) (by rfl) B.isinstance (by decide +kernel) (pa_cons (pv 3) (pa_cons (pe_tyStr B) pa_nil)))) (pv 3) pe_never)))
  (pss_cons (ps_if (pt_cmpR op_oGt (pe_op op_oAdd (pe_callB call_len_str (by rfl) B.len (by decide +kernel) (pa_cons (pe_ix ix_seq (pv 2) pe_int (fun _ _ => rfl)) pa_nil)) (pe_callB call_len_str (by rfl) B.len (by decide +kernel) (pa_cons (pe_ix ix_seq (pv 2) pe_int (fun _ _ => rfl)) pa_nil))) (pe_gint i_MOST_SIGNS) (nomark _)) (pss_one ps_never) pss_nil)
  (pss_one (ps_ret (pe_tupN (pa_cons pe_str (pa_cons (pe_op op_oAdd (pe_ix ix_seq (pv 2) pe_int (fun _ _ => rfl)) (pe_ix ix_seq (pv 2) pe_int (fun _ _ => rfl))) pa_nil))))))) pss_nil)
  pss_never), ?_⟩
    walk_at "v"
    refine ⟨x, rfl, _, rfl, iteT ?_⟩
    walk_at "v"
    refine ⟨y, rfl, _, rfl, iteT ?_⟩
    walk_at "v"
    refine g_new (sz rfl) fun p H1 n1 s1 h1 _ => ?_
    refine ⟨p, rfl, ⟨_, SqT.of h1⟩, fun D nD => ?_⟩
    refine lc_tup (K := K) (a := p) (xs := [V.str x, V.str y]) (fun i H' => Same H1 H' ∧ H' D = some (.lst ([V.str x, V.str y].take i))) ⟨upd_sm (Same.refl _) nD, upd_same⟩ ?_ ?_ ?_
    · rintro i H2 _ ⟨s2, _⟩
      exact SqT.of (s2 _ _ h1)
    · rintro i z H2 hz ⟨s2, h2⟩
      have hz2 : ∃ zs : Str, z = .str zs := by
        have := List.mem_of_getElem? hz
        simp only [List.mem_cons, List.not_mem_nil, or_false] at this
        rcases this with rfl | rfl <;> exact ⟨_, rfl⟩
      obtain ⟨zs, rfl⟩ := hz2
      walk_at "v"
      refine ⟨rfl, ?_⟩
      walk_at "v"
      refine g_isiStr kn_str ?_
      walk_at "v"
      refine iteSt ?_
      refine g_var rfl ?_
      have hi : i < 2 := by
        have := (List.getElem?_eq_some_iff.mp hz).1
        exact this
      refine ⟨_, h2, ?_, fun b o e => ?_, ?_⟩
      · rw [List.length_take]
        exact Nat.lt_of_le_of_lt (Nat.min_le_right _ _) (by show 2 < sizeLine; decide)
      · rw [upd_ne (ne_of_none e nD)]
        exact s2 _ _ e
      · rw [upd_same]
        have e1 : List.take (i + 1) [V.str x, V.str y] = List.take i [V.str x, V.str y] ++ [V.str zs] := by
          rw [List.take_add_one, hz]
          rfl
        rw [e1]
    · rintro H2 ⟨s2, h2⟩
      have h2 : H2 D = some (.lst [V.str x, V.str y]) := h2
      walk_at "v"
      refine g_ixL h2 rfl ?_
      walk_at "v"
      refine ⟨x, rfl, Nat.le_trans hx (by decide), ?_⟩
      walk_at "v"
      refine g_ixL h2 rfl ?_
      walk_at "v"
      refine ⟨y, rfl, Nat.le_trans hy (by decide), ?_⟩
      walk_at "v"
      refine g_no (by omega) ?_
      walk_at "v"
      refine g_ixL h2 rfl ?_
      walk_at "v"
      refine g_ixL h2 rfl ?_
      refine g_addS (sz (Nat.ble_eq.mpr (by omega))) ?_
      walk_at "v"
      exact (q.later (s1.trans s2)).mk
theorem sc_lengthdeed : FnScope ["one", "event"] ["one"] (defScope s_lengthdeed) := ⟨rfl, rfl, rfl, by decide +kernel, rfl, by decide +kernel, by decide +kernel⟩
def sp_lenS : Sp := fun vs H Q _ => ∃ x : Str, vs = [.str x] ∧ x.length ≤ 100 ∧ RetV H (.int x.length) Q
theorem ok_lenS {g : Addr} {fd : FuncData} (F : FunD K "length_deed" "length_deed" (defArgs s_lengthdeed) (defBody s_lengthdeed) (defScope s_lengthdeed) [] [] g fd) (B : Blt mg) : FnOk P w K mg base CX0 1 g fd ["one"] sp_lenS := by
  refine F.ok sc_lengthdeed (fun vs H Q E h => ?_) (fun cdv A outer s H vs Q E hr h => ?_)
  · obtain ⟨_, rfl, _⟩ := h; rfl
  · obtain ⟨x, rfl, hx, q⟩ := h
    refine ⟨_, PSs.nox (pss_cons (ps_if (pt_val (pe_callB call_isi (by rfl) B.isinstance (by decide +kernel) (pa_cons (pv 0) (pa_cons (pe_tyStr B) pa_nil)))) (pss_one (ps_ret (pe_tupN (pa_cons pe_str (pa_cons (pe_callB call_len_str (by rfl) B.len (by decide +kernel) (pa_cons (pv 0) pa_nil)) pa_nil))))) pss_nil)
  pss_never), ?_⟩
    walk_at "v"
    refine g_isiStr kn_str ?_
    walk_at "v"
    refine iteSt ?_
    walk_at "v"
    refine ⟨x, rfl, Nat.le_trans hx (by decide), ?_⟩
    walk_at "v"
    exact q.mk
theorem sc_equaldeed : FnScope ["one", "other", "event"] ["one", "other"] (defScope s_equaldeed) := ⟨rfl, rfl, rfl, by decide +kernel, rfl, by decide +kernel, by decide +kernel⟩
def sp_eqI : Sp := fun vs H Q _ => ∃ i j, vs = [.int i, .int j] ∧ sml i ∧ sml j ∧ i ≠ j ∧ RetV H (.bl false) Q
theorem same_ne {i j : Int} (h : i ≠ j) : sameA (.num (.i i)) (.num (.i j)) = false := by
  refine decide_eq_false fun z => ?_
  have z : some (b2i (decide (0 < i * 1 - j * 1)) - b2i (decide (i * 1 - j * 1 < 0))) = some (0 : Int) := z
  injection z with z
  rcases Int.lt_or_gt_of_ne h with h | h
  · rw [decide_eq_false (show ¬ 0 < i * 1 - j * 1 by omega), decide_eq_true (show i * 1 - j * 1 < 0 by omega)] at z
    exact absurd z (by decide)
  · rw [decide_eq_true (show 0 < i * 1 - j * 1 by omega), decide_eq_false (show ¬ i * 1 - j * 1 < 0 by omega)] at z
    exact absurd z (by decide)
theorem sml_ok {i : Int} (h : sml i) : nOk (.i i) := lt_pow_mono (sml_big h) (by decide)
theorem ok_eqI {g : Addr} {fd : FuncData} (F : FunD K "equal_deed" "equal_deed" (defArgs s_equaldeed) (defBody s_equaldeed) (defScope s_equaldeed) [] [] g fd) (B : Blt mg) (TT : TbC K mg D) (FC : FnC K mg C D N NA) (c_same : Fn P w K mg base CX0 4 "same" ["one", "other"] [] (sp_same C D)) : FnOk P w K mg base CX0 5 g fd ["one", "other"] sp_eqI := by
  have g_Table := TT.mg
  refine F.ok sc_equaldeed (fun vs H Q E h => ?_) (fun cdv A outer s H vs Q E hr h => ?_)
  · obtain ⟨_, _, rfl, _⟩ := h; rfl
  · obtain ⟨i, j, rfl, hi, hj, hn, q⟩ := h
    refine ⟨_, PSs.nox (pss_cons (ps_if (PW.pt (pw_or (pt_val (pe_fn c_same (hr.mono (by first | decide | omega)) pass0 (pa_cons (pv 0) (pa_cons (pv 1) pa_nil)))) (pw_or (pt_not (pt_val (pe_callB call_isi (by rfl) B.isinstance (by decide +kernel) (pa_cons (pv 0) (pa_cons (pe_gref g_Table) pa_nil))))) (pw_or1 (pt_not (pt_val (pe_callB call_isi (by rfl) B.isinstance (by decide +kernel) (pa_cons (pv 1) (pa_cons (pe_gref g_Table) pa_nil))))))))) (pss_one (ps_ret (pe_tupN (pa_cons pe_str (pa_cons (pe_fn c_same (hr.mono (by first | decide | omega)) pass0 (pa_cons (pv 0) (pa_cons (pv 1) pa_nil))) pa_nil))))) pss_nil)
  pss_never), ?_⟩
    walk_at "v"
    refine ⟨.int i, .int j, .num (.i i), .num (.i j), rfl, ⟨rfl, sml_ok hi⟩, ⟨rfl, sml_ok hj⟩, fun H1 s1 => ?_⟩
    rw [same_ne hn]
    walk_at "v"
    refine g_isi kn_int.ty (.own _) (FC.bT _ (by simp)) ?_
    walk_at "v"
    refine ⟨.int i, .int j, .num (.i i), .num (.i j), rfl, ⟨rfl, sml_ok hi⟩, ⟨rfl, sml_ok hj⟩, fun H2 s2 => ?_⟩
    rw [same_ne hn]
    walk_at "v"
    exact (q.later (s1.trans s2)).mk
theorem sc_unlikedeed : FnScope ["one", "other", "deed"] ["one", "other"] (defScope s_unlikedeed) := ⟨rfl, rfl, rfl, by decide +kernel, rfl, by decide +kernel, by decide +kernel⟩
def sp_neI : Sp := fun vs H Q _ => ∃ i j, vs = [.int i, .int j] ∧ sml i ∧ sml j ∧ i ≠ j ∧ RetV H (.bl true) Q
theorem ok_neI {g : Addr} {fd : FuncData} (F : FunD K "unlike_deed" "unlike_deed" (defArgs s_unlikedeed) (defBody s_unlikedeed) (defScope s_unlikedeed) [] [] g fd) (B : Blt mg) (c_equaldeed : Fn P w K mg base CX0 5 "equal_deed" ["one", "other"] [] sp_eqI) : FnOk P w K mg base CX0 6 g fd ["one", "other"] sp_neI := by
  refine F.ok sc_unlikedeed (fun vs H Q E h => ?_) (fun cdv A outer s H vs Q E hr h => ?_)
  · obtain ⟨_, _, rfl, _⟩ := h; rfl
  · obtain ⟨i, j, rfl, hi, hj, hn, q⟩ := h
    refine ⟨_, PSs.nox (pss_cons (ps_set (i := 2) sc_unlikedeed.nd rfl (Or.inl rfl) (pe_fn c_equaldeed (hr.mono (by first | decide | omega)) pass0 (pa_cons (pv 0) (pa_cons (pv 1) pa_nil))))
  (pss_cons (ps_if (pt_cmpR (op_oEq hr.units) (pe_ix ix_seq (pv 2) pe_int (fun _ _ => rfl)) pe_str (nomark _)) (pss_one (ps_ret (pe_tupN (pa_cons pe_str (pa_cons (pe_not (pe_ix ix_seq (pv 2) pe_int (fun _ _ => rfl))) pa_nil))))) pss_nil)
  pss_never)), ?_⟩
    walk_at "v"
    refine ⟨i, j, rfl, hi, hj, hn, fun H1 p np s1 hp => ?_⟩
    walk_at "v"
    refine g_ixT hp rfl ?_
    walk_at "v"
    refine g_yes rfl ?_
    walk_at "v"
    refine g_ixT hp rfl ?_
    walk_at "v"
    exact (q.later s1).mk
theorem sc_lessdeed : FnScope ["word", "one", "other", "event", "kinds"] ["word", "one", "other"] (defScope s_lessdeed) := ⟨rfl, rfl, rfl, by decide +kernel, rfl, by decide +kernel, by decide +kernel⟩
def sp_ltI : Sp := fun vs H Q _ => ∃ i j, vs = [.str "lt", .int i, .int j] ∧ sml i ∧ sml j ∧ i < j ∧ RetV H (.bl true) Q
theorem cmp_lt {i j : Int} (h : i < j) : cmpN "lt" (.i i) (.i j) = true := by
  have e : ordN (.i i) (.i j) = some (-1) := by
    show some (b2i (decide (0 < i * 1 - j * 1)) - b2i (decide (i * 1 - j * 1 < 0))) = some (-1)
    rw [decide_eq_false (show ¬ 0 < i * 1 - j * 1 by omega), decide_eq_true (show i * 1 - j * 1 < 0 by omega)]
    rfl
  unfold cmpN
  rw [e]
  rfl
theorem ok_ltI {g : Addr} {fd : FuncData} (F : FunD K "less_deed" "less_deed" (defArgs s_lessdeed) (defBody s_lessdeed) (defScope s_lessdeed) [] [] g fd) (B : Blt mg) (TF : FlC K mg C) (c_isnumber : CIsNum P w K mg base C) (c_compare : Fn P w K mg base CX0 4 "compare" ["word", "one", "other"] [] (sp_compare C)) : FnOk P w K mg base CX0 5 g fd ["word", "one", "other"] sp_ltI := by
  refine F.ok sc_lessdeed (fun vs H Q E h => ?_) (fun cdv A outer s H vs Q E hr h => ?_)
  · obtain ⟨_, _, rfl, _⟩ := h; rfl
  · obtain ⟨i, j, rfl, hi, hj, hn, q⟩ := h
    refine ⟨_, PSs.nox (pss_cons (ps_if (pt_cmpR op_in_seq (pv 0) (pe_tupN (pa_cons pe_str (pa_cons pe_str pa_nil))) (by rfl)) pss_never pss_nil)
  (pss_cons (ps_if (PW.pt (pw_and (pt_val (pe_fn c_isnumber (hr.mono (by first | decide | omega)) pass0 (pa_cons (pv 1) pa_nil))) (pw_and1 (pt_val (pe_fn c_isnumber (hr.mono (by first | decide | omega)) pass0 (pa_cons (pv 2) pa_nil)))))) (pss_one (ps_ret (pe_tupN (pa_cons pe_str (pa_cons (pe_fn c_compare (hr.mono (by first | decide | omega)) pass0 (pa_cons (pv 0) (pa_cons (pv 1) (pa_cons (pv 2) pa_nil)))) pa_nil))))) pss_nil)
  pss_never)), ?_⟩
    walk_at "v"
    refine g_new (sz rfl) fun p H1 n1 s1 h1 _ => ?_
    have hin : inV (.str "lt") [.str "gt", .str "ge"] = false := by decide +kernel
    refine ⟨p, _, rfl, .inr (SqT.of h1), rfl, rfl, ?_⟩
    walk_at "v"
    refine g_iteb (fun z => absurd (hin.symm.trans z) (by decide)) fun _ => ?_
    walk_at "v"
    refine ⟨_, _, _, rfl, kf_int TF, _, rfl, iteT ?_⟩
    walk_at "v"
    refine ⟨_, _, _, rfl, kf_int TF, _, rfl, iteT ?_⟩
    walk_at "v"
    refine ⟨"lt", .int i, .int j, .i i, .i j, rfl, rfl, rfl, sml_ok hi, sml_ok hj, fun H2 s2 => ?_⟩
    rw [cmp_lt hn]
    walk_at "v"
    exact (q.later (s1.trans s2)).mk
end
end Up

set_option Elab.async false
set_option linter.all false
set_option pp.maxSteps 600
set_option maxRecDepth 100000
set_option maxHeartbeats 4000000
set_option exponentiation.threshold 200000
namespace Up
open PySem PySem.Spec PyProof.Rows L2
local macro_rules | `(tactic| walk_at "u") => `(tactic| first
  | with_reducible refine g_seq ?_
  | with_reducible refine g_asg ?_
  | with_reducible refine g_op ?_
  | ((with_reducible show tVar _ _ _ _); apply g_var; exact rfl)
  | with_reducible refine g_c ?_
  | with_reducible refine g_name ?_
  | with_reducible refine g_ifs ?_
  | with_reducible refine g_tt ?_
  | with_reducible refine g_tB ?_
  | with_reducible refine g_bl ?_
  | with_reducible refine g_ret ?_
  | with_reducible refine g_cb ?_
  | with_reducible refine g_cons ?_
  | with_reducible refine g_nil ?_
  | with_reducible refine g_call ?_
  | with_reducible refine g_and ?_
  | with_reducible refine g_or ?_
  | with_reducible refine g_not ?_
  | with_reducible refine g_andV ?_
  | with_reducible refine g_orV ?_
  | with_reducible refine g_notV ?_
  | with_reducible refine g_if ?_
  | with_reducible refine g_un ?_
  | with_reducible refine g_neg ?_
  | with_reducible refine g_addI ?_
  | with_reducible refine g_subI ?_
  | with_reducible refine g_subB ?_
  | with_reducible refine g_I0 ?_
  | with_reducible refine g_cmpI ?_
  | with_reducible refine g_eqI ?_
  | with_reducible refine g_neI ?_
  | with_reducible refine g_eqS ?_
  | with_reducible refine g_neS ?_
  | with_reducible refine g_eqB ?_
  | with_reducible refine g_neB ?_
  | with_reducible refine g_bits ?_
  | with_reducible refine g_bitsI ?_
  | with_reducible refine g_fld ?_
  | with_reducible refine g_tup ?_
  | with_reducible refine g_lst ?_
  | with_reducible refine g_gtup ?_
  | with_reducible refine g_make ?_
  | with_reducible refine g_lc ?_
  | with_reducible refine g_yesT ?_
  | with_reducible refine g_intI ?_
  | with_reducible refine g_intB ?_
  | with_reducible refine g_max2 ?_
  | with_reducible refine g_abs1 ?_
  | with_reducible refine g_for ?_
  | with_reducible refine g_iList ?_
  | with_reducible refine g_iTup ?_
  | with_reducible refine g_iRng1 ?_
  | with_reducible refine g_iEnum ?_
  | with_reducible refine g_slice ?_
  | with_reducible refine g_po0 ?_
  | with_reducible refine g_po1 ?_
  | with_reducible refine g_gsub ?_
  | with_reducible refine g_par ?_
  | with_reducible refine g_par2 ?_
  | with_reducible refine g_rfl ?_
  | with_reducible refine g_meth ?_
  | with_reducible refine g_gcons ?_
  | with_reducible refine g_gnil ?_
  | with_reducible refine g_gfld ?_
  | with_reducible refine g_sfld ?_
  | with_reducible refine g_drop ?_
  | with_reducible refine g_next ?_
  | with_reducible refine iteT ?_
  | with_reducible refine iteF ?_)
local macro_rules | `(tactic| walk_at "go") => `(tactic| (repeat walk_at "u"))
local macro_rules | `(tactic| walk_at "t1") => `(tactic| (first
  | walk_at "u"
  | with_reducible refine g_chain ?_
  | with_reducible refine g_par3 ?_
  | with_reducible refine g_par3' ?_
  | with_reducible refine g_augS ?_
  | with_reducible refine g_nt ?_
  | with_reducible refine g_nf ?_
  | with_reducible refine g_methK ?_
  | with_reducible refine g_makeK ?_
  | with_reducible refine g_iRng2 ?_
  | with_reducible refine g_bm ?_
  | with_reducible refine g_fldaug ?_
  | with_reducible refine g_iStr ?_
  | with_reducible refine g_ipI ?_
  | ((with_reducible show tAug _ _ _ _ _ _); refine ⟨_, rfl, ?_⟩)
  | ((with_reducible refine show_exT ?_); first
    | refine rdT3 (by assumption) (by assumption) ?_
    | refine rdT4 (by assumption) (by assumption) ?_
    | refine rdT5 (by assumption) (by assumption) ?_
    | refine rdT1 (by assumption) (by assumption) ?_
    | refine rdT2 (by assumption) (by assumption) ?_
    | refine rdN1 (by assumption) (by assumption) ?_
    | refine rdN2 (by assumption) (by assumption) ?_
    | refine rdN3 (by assumption) (by assumption) ?_
    | refine rdN4 (by assumption) (by assumption) ?_)))
local macro_rules | `(tactic| walk_at "t") => `(tactic| (repeat walk_at "t1"))
local macro_rules | `(tactic| walk_at "v") => `(tactic| (repeat (first
  | walk_at "t1"
  | with_reducible refine g_js ?_
  | with_reducible refine g_js0 ?_
  | with_reducible refine g_fmt ?_
  | with_reducible refine g_joined ?_
  | with_reducible refine g_isBool ?_
  | with_reducible refine g_notBool ?_
  | with_reducible refine g_revL ?_
  | with_reducible refine g_self ?_
  | with_reducible refine g_selfN ?_
  | with_reducible refine g_rN ?_
  | with_reducible refine g_rNN ?_
  | with_reducible refine g_iN ?_
  | with_reducible refine g_iNN ?_
  | with_reducible refine g_sN ?_
  | with_reducible refine g_sNN ?_
  | with_reducible refine g_bN ?_
  | with_reducible refine g_bNN ?_)))

section
variable {P : Program} {w : World} {K : PySem.W.Frag} {mg : Str → Option Value} {base : Heap}
/-! shaped -/
theorem sc_shaped : FnScope ["values", "shape", "first", "is_true"] ["values", "shape"] (defScope s_shaped) := ⟨rfl, rfl, rfl, by decide +kernel, rfl, by decide +kernel, by decide +kernel⟩
def shapeV (vs : List V) (x : Str) : V := if x = "none" then .non else if x = "one" then vs.headD .non else if x = "truth" then .bl (!decide (vs.headD .non = .non) && !decide (vs.headD .non = .bl false)) else .bl (!(!decide (vs.headD .non = .non) && !decide (vs.headD .non = .bl false)))
def sp_shaped : Sp := fun vs H Q _ => ∃ (l : Addr) (xs : List V) (x : Str), vs = [.ref l, .str x] ∧ H l = some (.lst xs) ∧ ∀ H', Same H H' → Q (shapeV xs x) H'
theorem ok_shaped {g : Addr} {fd : FuncData} (F : FunD K "shaped" "shaped" (defArgs s_shaped) (defBody s_shaped) (defScope s_shaped) [] [] g fd) (B : Blt mg) : FnOk P w K mg base CX0 1 g fd ["values", "shape"] sp_shaped := by
  refine F.ok sc_shaped (fun vs H Q E h => ?_) (fun cdv A outer s H vs Q E hr h => ?_)
  · obtain ⟨_, _, _, rfl, _⟩ := h; rfl
  · obtain ⟨l, xs, x, rfl, hl, q⟩ := h
    refine ⟨_, PSs.nox (pss_cons (ps_set (i := 2) sc_shaped.nd rfl (Or.inl rfl) (pe_cut (pe_ifExp (pt_cmpR (op_neE hr.units) (pv 0) (pe_lstN pa_nil) (nomark _)) (pe_ix ix_seq (pv 0) pe_int (fun _ _ => rfl)) pe_non)))
  (pss_cons (ps_if (pt_cmpR (op_oEq hr.units) (pv 1) pe_str (nomark _)) (pss_one (ps_ret pe_non)) pss_nil)
  (pss_cons (ps_if (pt_cmpR (op_oEq hr.units) (pv 1) pe_str (nomark _)) (pss_one (ps_ret (pv 2))) pss_nil)
  (pss_cons (ps_set (i := 3) sc_shaped.nd rfl (Or.inl rfl) (pe_cut (pe_and (pe_cmpR op_notN (pv 2) pe_non (nomark _)) (pe_one (pe_cmpR op_notBool (pv 2) pe_bl (nomark _))))))
  (pss_one (ps_ret (pe_ifExp (pt_cmpR (op_oEq hr.units) (pv 1) pe_str (nomark _)) (pv 3) (pe_not (pv 3))))))))), ?_⟩
    unfold shapeV at q
    walk_at "v"
    refine g_cutE (fun z H' => z = xs.headD .non ∧ Same H H') ?_ ?_
    · walk_at "v"
      refine g_new (sz rfl) fun p1 H1 n1 s1 h1 _ => ?_
      refine g_neE (s1 _ _ hl) h1 ?_
      cases xs with
      | nil =>
        walk_at "v"
        refine iteF ?_
        exact ⟨rfl, s1⟩
      | cons y ys =>
        walk_at "v"
        refine iteT ?_
        walk_at "v"
        exact g_ixL (s1 _ _ hl) (v := y) (atI_of (Int.le_refl _) rfl) ⟨rfl, s1⟩
    · rintro z H1 ⟨rfl, s1⟩
      have q := q H1 s1
      walk_at "v"
      refine g_ite (fun h1 => ?_) fun h1 => ?_
      · rw [if_pos h1] at q
        walk_at "v"
        exact q
      · rw [if_neg h1] at q
        walk_at "v"
        refine g_ite (fun h2 => ?_) fun h2 => ?_
        · rw [if_pos h2] at q
          walk_at "v"
          exact q
        · rw [if_neg h2] at q
          walk_at "v"
          generalize xs.headD V.non = y at q ⊢
          refine g_cutE (fun z H' => z = .bl (!decide (y = .non) && !decide (y = .bl false)) ∧ H' = H1) ?_ ?_
          · walk_at "v"
            refine g_iten (fun h3 => ?_) fun h3 => ?_
            · walk_at "v"
              refine ⟨?_, rfl⟩
              rw [decide_eq_false h3]
              rfl
            · refine ⟨?_, rfl⟩
              rw [decide_eq_true h3]
              rfl
          · rintro _ _ ⟨rfl, rfl⟩
            walk_at "v"
            refine g_ite (fun h3 => ?_) fun h3 => ?_
            · rw [if_pos h3] at q
              walk_at "v"
              exact q
            · rw [if_neg h3] at q
              walk_at "v"
              exact q
end
end Up

set_option Elab.async false
set_option linter.all false
set_option pp.maxSteps 600
set_option maxRecDepth 100000
set_option maxHeartbeats 4000000
set_option exponentiation.threshold 200000
namespace Up
open PySem PySem.Spec PyProof.Rows L2 LamX
local macro_rules | `(tactic| walk_at "u") => `(tactic| first
  | with_reducible refine g_seq ?_
  | with_reducible refine g_asg ?_
  | with_reducible refine g_op ?_
  | ((with_reducible show tVar _ _ _ _); apply g_var; exact rfl)
  | with_reducible refine g_c ?_
  | with_reducible refine g_name ?_
  | with_reducible refine g_ifs ?_
  | with_reducible refine g_tt ?_
  | with_reducible refine g_tB ?_
  | with_reducible refine g_bl ?_
  | with_reducible refine g_ret ?_
  | with_reducible refine g_cb ?_
  | with_reducible refine g_cons ?_
  | with_reducible refine g_nil ?_
  | with_reducible refine g_call ?_
  | with_reducible refine g_and ?_
  | with_reducible refine g_or ?_
  | with_reducible refine g_not ?_
  | with_reducible refine g_andV ?_
  | with_reducible refine g_orV ?_
  | with_reducible refine g_notV ?_
  | with_reducible refine g_if ?_
  | with_reducible refine g_un ?_
  | with_reducible refine g_neg ?_
  | with_reducible refine g_addI ?_
  | with_reducible refine g_subI ?_
  | with_reducible refine g_subB ?_
  | with_reducible refine g_I0 ?_
  | with_reducible refine g_cmpI ?_
  | with_reducible refine g_eqI ?_
  | with_reducible refine g_neI ?_
  | with_reducible refine g_eqS ?_
  | with_reducible refine g_neS ?_
  | with_reducible refine g_eqB ?_
  | with_reducible refine g_neB ?_
  | with_reducible refine g_bits ?_
  | with_reducible refine g_bitsI ?_
  | with_reducible refine g_fld ?_
  | with_reducible refine g_tup ?_
  | with_reducible refine g_lst ?_
  | with_reducible refine g_gtup ?_
  | with_reducible refine g_make ?_
  | with_reducible refine g_lc ?_
  | with_reducible refine g_yesT ?_
  | with_reducible refine g_intI ?_
  | with_reducible refine g_intB ?_
  | with_reducible refine g_max2 ?_
  | with_reducible refine g_abs1 ?_
  | with_reducible refine g_for ?_
  | with_reducible refine g_iList ?_
  | with_reducible refine g_iTup ?_
  | with_reducible refine g_iRng1 ?_
  | with_reducible refine g_iEnum ?_
  | with_reducible refine g_slice ?_
  | with_reducible refine g_po0 ?_
  | with_reducible refine g_po1 ?_
  | with_reducible refine g_gsub ?_
  | with_reducible refine g_par ?_
  | with_reducible refine g_par2 ?_
  | with_reducible refine g_rfl ?_
  | with_reducible refine g_meth ?_
  | with_reducible refine g_gcons ?_
  | with_reducible refine g_gnil ?_
  | with_reducible refine g_gfld ?_
  | with_reducible refine g_sfld ?_
  | with_reducible refine g_drop ?_
  | with_reducible refine g_next ?_
  | with_reducible refine iteT ?_
  | with_reducible refine iteF ?_)
local macro_rules | `(tactic| walk_at "go") => `(tactic| (repeat walk_at "u"))
local macro_rules | `(tactic| walk_at "t1") => `(tactic| (first
  | walk_at "u"
  | with_reducible refine g_chain ?_
  | with_reducible refine g_par3 ?_
  | with_reducible refine g_par3' ?_
  | with_reducible refine g_augS ?_
  | with_reducible refine g_nt ?_
  | with_reducible refine g_nf ?_
  | with_reducible refine g_methK ?_
  | with_reducible refine g_makeK ?_
  | with_reducible refine g_iRng2 ?_
  | with_reducible refine g_bm ?_
  | with_reducible refine g_fldaug ?_
  | with_reducible refine g_iStr ?_
  | with_reducible refine g_ipI ?_
  | ((with_reducible show tAug _ _ _ _ _ _); refine ⟨_, rfl, ?_⟩)
  | ((with_reducible refine show_exT ?_); first
    | refine rdT3 (by assumption) (by assumption) ?_
    | refine rdT4 (by assumption) (by assumption) ?_
    | refine rdT5 (by assumption) (by assumption) ?_
    | refine rdT1 (by assumption) (by assumption) ?_
    | refine rdT2 (by assumption) (by assumption) ?_
    | refine rdN1 (by assumption) (by assumption) ?_
    | refine rdN2 (by assumption) (by assumption) ?_
    | refine rdN3 (by assumption) (by assumption) ?_
    | refine rdN4 (by assumption) (by assumption) ?_)))
local macro_rules | `(tactic| walk_at "t") => `(tactic| (repeat walk_at "t1"))
local macro_rules | `(tactic| walk_at "v") => `(tactic| (repeat (first
  | walk_at "t1"
  | with_reducible refine g_js ?_
  | with_reducible refine g_js0 ?_
  | with_reducible refine g_fmt ?_
  | with_reducible refine g_joined ?_
  | with_reducible refine g_isBool ?_
  | with_reducible refine g_notBool ?_
  | with_reducible refine g_revL ?_
  | with_reducible refine g_self ?_
  | with_reducible refine g_selfN ?_
  | with_reducible refine g_rN ?_
  | with_reducible refine g_rNN ?_
  | with_reducible refine g_iN ?_
  | with_reducible refine g_iNN ?_
  | with_reducible refine g_sN ?_
  | with_reducible refine g_sNN ?_
  | with_reducible refine g_bN ?_
  | with_reducible refine g_bNN ?_)))

section
variable {P : Program} {w : World} {K : PySem.W.Frag} {mg : Str → Option Value} {base : Heap} {C D N NA CT : Addr} {H H' H1 : Hp} {a wl : Addr} {n m : Nat} {f : Addr → Int} {W W' : Wm} {ls : List (Addr × HO)} {T : List (Addr × Str)} {v : V} {name : Str}
/-! ### wells of the laws about events: how often they were drawn from is counted -/
def Wz (H : Hp) (a : Addr) (n : Nat) : Prop := ∃ x y z : Int, H a = some (.lst [.int x, .int y, .int z]) ∧ 0 ≤ x ∧ 0 ≤ z ∧ z ≤ n
theorem fmodc {x m : Int} (h : 0 < m) : 0 ≤ x.fmod m ∧ x.fmod m < m := fmod_in h
theorem sc_Lcellat : FnScope ["_law_script", "_law_k"] ["_law_script", "_law_k"] (defScope s_Lcellat) := ⟨rfl, rfl, rfl, by decide +kernel, rfl, by decide +kernel, by decide +kernel⟩
def sp_Lcellat (K : PySem.W.Frag) : Sp := fun vs H Q _ => ∃ (a : Addr) (ns : List Int) (k : Nat), vs = [.ref a, .int k] ∧ SqL K H a (ns.map V.int) ∧ ∀ c : Int, Q (.int c) H
theorem ok_Lcellat {g : Addr} {fd : FuncData} (F : FunD K "_law_cell_at" "_law_cell_at" (defArgs s_Lcellat) (defBody s_Lcellat) (defScope s_Lcellat) [] [] g fd) (B : Blt mg) : FnOk P w K mg base CX0 1 g fd ["_law_script", "_law_k"] (sp_Lcellat K) := by
  refine F.ok sc_Lcellat (fun vs H Q E h => ?_) (fun cdv A outer s H vs Q E hr h => ?_)
  · obtain ⟨_, _, _, rfl, _⟩ := h; rfl
  · obtain ⟨a, ns, k, rfl, hs, q⟩ := h
    refine ⟨_, PSs.nox (pss_one (ps_ret (pe_ifExp (pt_cmpR op_oLt (pv 1) (pe_callB call_len_seq (by rfl) B.len (by decide +kernel) (pa_cons (pv 0) pa_nil)) (nomark _)) (pe_ix ix_seq (pv 0) (pv 1) (fun _ _ => rfl)) pe_int))), ?_⟩
    walk_at "t"
    refine ⟨a, _, rfl, .inl hs, ?_⟩
    rw [List.length_map]
    walk_at "t"
    refine g_ite (fun hk => ?_) fun hk => ?_
    · have hlt : k < ns.length := by omega
      walk_at "t"
      exact .inl ⟨a, _, k, .int ns[k], rfl, rfl, hs, atI_of (by omega) (by rw [Int.toNat_natCast, List.getElem?_map, List.getElem?_eq_getElem hlt]; rfl), q _⟩
    · walk_at "t"
      exact q _
theorem sc_Lwell : FnScope ["_law_cell"] ["_law_cell"] (defScope s_Lwell) := ⟨rfl, rfl, rfl, by decide +kernel, rfl, by decide +kernel, by decide +kernel⟩
def sp_Lwl : Sp := fun vs H Q _ => ∃ c : Int, vs = [.int c] ∧ ∀ b H', H b = none → Same H H' → Wz H' b 0 → (∃ xs, H' b = some (.lst xs)) → Q (.ref b) H'
theorem ok_Lwl {g : Addr} {fd : FuncData} (F : FunD K "_law_well" "_law_well" (defArgs s_Lwell) (defBody s_Lwell) (defScope s_Lwell) [] [] g fd) (B : Blt mg) : FnOk P w K mg base CX0 1 g fd ["_law_cell"] sp_Lwl := by
  refine F.ok sc_Lwell (fun vs H Q E h => ?_) (fun cdv A outer s H vs Q E hr h => ?_)
  · obtain ⟨_, rfl, _⟩ := h; rfl
  · obtain ⟨n, rfl, q⟩ := h
    refine ⟨_, PSs.nox (pss_one (ps_ret (pe_lstN (pa_cons (pe_op op_oMul (pv 0) (pe_callTy call_int1 (by rfl) B.int (by decide +kernel) (pa_cons (pe_cmpR op_oGe (pv 0) (pe_op op_oPow pe_int pe_int) (nomark _)) pa_nil))) (pa_cons (pv 0) (pa_cons pe_int pa_nil)))))), ?_⟩
    walk_at "t"
    refine g_II ⟨by decide, by decide, by decide⟩ ?_
    walk_at "t"
    refine g_mulI (.of_right (by by_cases h : ((10 : Int) ^ (18 : Int).toNat ≤ n) <;> simp only [h, decide_true, decide_false] <;> decide)) ?_
    walk_at "t"
    refine g_new (sz rfl) fun b H1 nb s1 hb _ => ?_
    refine q b H1 nb s1 ⟨_, _, _, hb, ?_, Int.le_refl _, Int.le_refl _⟩ ⟨_, hb⟩
    by_cases h : ((10 : Int) ^ (18 : Int).toNat ≤ n)
    · rw [if_pos (decide_eq_true h)]
      have : (0 : Int) ≤ 10 ^ (18 : Int).toNat := by decide
      omega
    · rw [if_neg (by simpa using h), Int.mul_zero]
      exact Int.le_refl _
theorem sc_Ldraw : FnScope ["_law_well_here", "_law_many", "_law_drawn", "_law_salt", "_law_mixed"] ["_law_well_here", "_law_many"] (defScope s_Ldraw) := ⟨rfl, rfl, rfl, by decide +kernel, rfl, by decide +kernel, by decide +kernel⟩
def sp_Lz : Sp := fun vs H Q _ => ∃ (a : Addr) (m : Int) (n : Nat), vs = [.ref a, .int m] ∧ 0 < m ∧ m < 2 ^ 62 ∧ Wz H a n ∧ n ≤ 1000000 ∧ ∀ (k : Nat) H', (k : Int) < m → Stp a H H' → Wz H' a (n + 1) → Q (.int k) H'
theorem ok_Lz {g : Addr} {fd : FuncData} (F : FunD K "_law_draw" "_law_draw" (defArgs s_Ldraw) (defBody s_Ldraw) (defScope s_Ldraw) [] [] g fd) (B : Blt mg) : FnOk P w K mg base CX0 1 g fd ["_law_well_here", "_law_many"] sp_Lz := by
  refine F.ok sc_Ldraw (fun vs H Q E h => ?_) (fun cdv A outer s H vs Q E hr h => ?_)
  · obtain ⟨_, _, _, rfl, _⟩ := h; rfl
  · obtain ⟨a, m, n, rfl, m0, m1, ⟨x, y, z, hw, x0, z0, zn⟩, hn, q⟩ := h
    have q : ∀ (k : Int) H', 0 ≤ k → k < m → Stp a H H' → Wz H' a (n + 1) → Q (.int k) H' := fun k H' k0 k1 => by
      have := q k.toNat H' (by omega)
      rw [show ((k.toNat : Nat) : Int) = k by omega] at this
      exact this
    have sd : m.natAbs.log2 < 9000 := Nat.lt_trans (log2_lt (k := 62) (by omega) (by decide)) (by decide)
    refine ⟨_, PSs.nox (pss_cons (ps_if (pt_cmpR op_oGt (pe_ix ix_seq (pv 0) pe_int (fun _ _ => rfl)) pe_int (nomark _)) (pss_cons (ps_set (i := 2) sc_Ldraw.nd rfl (Or.inl rfl) (pe_op op_oMod (pe_callTy call_int1 (by rfl) B.int (by decide +kernel) (pa_cons (pe_ix ix_seq (pv 0) pe_int (fun _ _ => rfl)) pa_nil)) (pv 1)))
  (pss_cons (ps_asg (pe_op op_oDiv (pe_ix ix_seq (pv 0) pe_int (fun _ _ => rfl)) (pv 1)) (pg_sub (pv 0) pe_int set_list))
  (pss_one (ps_ret (pv 2))))) pss_nil)
  (pss_cons (ps_asg (pe_op op_oAdd (pe_ix ix_seq (pv 0) pe_int (fun _ _ => rfl)) pe_int) (pg_sub (pv 0) pe_int set_list))
  (pss_cons (ps_set (i := 3) sc_Ldraw.nd rfl (Or.inl rfl) (pe_op op_oAdd (pe_op op_oMod (pe_callTy call_int1 (by rfl) B.int (by decide +kernel) (pa_cons (pe_ix ix_seq (pv 0) pe_int (fun _ _ => rfl)) pa_nil)) pe_int) (pe_op op_oMul (pe_op op_oMod (pe_callTy call_int1 (by rfl) B.int (by decide +kernel) (pa_cons (pe_op op_oDiv (pe_ix ix_seq (pv 0) pe_int (fun _ _ => rfl)) pe_int) pa_nil)) pe_int) pe_int)))
  (pss_cons (ps_set (i := 4) sc_Ldraw.nd rfl (Or.inl rfl) (pe_op op_oMod (pe_callTy call_int1 (by rfl) B.int (by decide +kernel) (pa_cons (pe_op op_oPow (pe_op op_oAdd (pe_op op_oAdd (pv 3) (pe_op op_oMul pe_int (pe_ix ix_seq (pv 0) pe_int (fun _ _ => rfl)))) pe_int) pe_int) pa_nil)) pe_int))
  (pss_cons (ps_set (i := 4) sc_Ldraw.nd rfl (Or.inl rfl) (pe_op op_oMod (pe_callTy call_int1 (by rfl) B.int (by decide +kernel) (pa_cons (pe_op op_oMul (pv 4) (pe_op op_oAdd (pe_op op_oAdd (pe_op op_oDiv (pv 4) pe_int) pe_int) (pe_ix ix_seq (pv 0) pe_int (fun _ _ => rfl)))) pa_nil)) pe_int))
  (pss_one (ps_ret (pe_op op_oMod (pe_callTy call_int1 (by rfl) B.int (by decide +kernel) (pa_cons (pe_op op_oMod (pe_callTy call_int1 (by rfl) B.int (by decide +kernel) (pa_cons (pe_op op_oMul (pv 4) (pe_op op_oAdd (pe_op op_oDiv (pv 4) pe_int) pe_int)) pa_nil)) pe_int) pa_nil)) (pv 1))))))))), ?_⟩
    walk_at "t"
    refine g_ixL hw rfl ?_
    walk_at "t"
    refine g_ite (fun hx => ?_) fun hx => ?_
    · walk_at "t"
      refine g_ixL hw rfl ?_
      walk_at "t"
      refine g_modI (by omega) ?_
      walk_at "t"
      refine g_ixL hw rfl ?_
      walk_at "t"
      refine g_divI (by omega) sd ?_
      walk_at "t"
      refine g_setL hw rfl fun H1 h1 k1 => ?_
      walk_at "t"
      refine q _ H1 (fmodc m0).1 (fmodc m0).2 (fun b o n e => (k1 b n).trans e) ⟨_, _, _, h1, ?_, z0, by omega⟩
      rw [Int.fdiv_eq_ediv_of_nonneg _ (by omega)]
      exact Int.ediv_nonneg x0 (by omega)
    · walk_at "t"
      refine g_ixL hw rfl ?_
      walk_at "t"
      refine g_setL hw rfl fun H1 h1 k1 => ?_
      walk_at "t"
      refine g_ixL h1 rfl ?_
      walk_at "t"
      refine g_modI (by decide) ?_
      walk_at "t"
      refine g_ixL h1 rfl ?_
      walk_at "t"
      refine g_divI (by decide) (by decide) ?_
      walk_at "t"
      refine g_modI (by decide) ?_
      walk_at "t"
      refine g_mulI (.of_right (by decide)) ?_
      walk_at "t"
      have b1 := fmodc (x := y) (m := 2147483587) (by decide)
      have b2 := fmodc (x := y.fdiv 2147483587) (m := 64997) (by decide)
      generalize y.fmod 2147483587 = u1 at *
      generalize (y.fdiv 2147483587).fmod 64997 = u2 at *
      refine g_ixL h1 rfl ?_
      refine g_mulI (.of_left (by decide)) ?_
      walk_at "t"
      refine g_II ⟨by decide, by decide, by omega⟩ ?_
      walk_at "t"
      refine g_modI (by decide) ?_
      walk_at "t"
      have b3 := fmodc (x := (u1 + u2 * 43 + 6011 * (z + 1) + 37) ^ (5 : Int).toNat) (m := 2147483647) (by decide)
      generalize ((u1 + u2 * 43 + 6011 * (z + 1) + 37) ^ (5 : Int).toNat).fmod 2147483647 = u3 at *
      refine g_divI (by decide) (by decide) ?_
      walk_at "t"
      refine g_ixL h1 rfl ?_
      walk_at "t"
      refine g_mulI (.of_left (intBits_le_64 (by omega) (by omega))) ?_
      walk_at "t"
      refine g_modI (by decide) ?_
      walk_at "t"
      have b4 := fmodc (x := u3 * (u3.fdiv 971 + 50023 + (z + 1))) (m := 2147483629) (by decide)
      generalize (u3 * (u3.fdiv 971 + 50023 + (z + 1))).fmod 2147483629 = u4 at *
      refine g_divI (by decide) (by decide) ?_
      walk_at "t"
      refine g_mulI (.of_left (intBits_le_64 (by omega) (by omega))) ?_
      walk_at "t"
      refine g_modI (by decide) ?_
      walk_at "t"
      refine g_modI (by omega) ?_
      exact q _ H1 (fmodc m0).1 (fmodc m0).2 (fun b o n e => (k1 b n).trans e) ⟨_, _, _, h1, x0, by omega, by omega⟩
abbrev CZ (P : Program) (w : World) (K : PySem.W.Frag) (mg : Str → Option Value) (base : Heap) : Prop := Fn P w K mg base CX0 1 "_law_draw" ["_law_well_here", "_law_many"] [] sp_Lz
def sp_Lz1 : Sp := fun vs H Q _ => ∃ (a l : Addr) (xs : List V) (n : Nat), vs = [.ref a, .ref l] ∧ Wz H a n ∧ n ≤ 1000000 ∧ H l = some (.lst xs) ∧ l ≠ a ∧ 0 < xs.length ∧ xs.length < 1000 ∧ ∀ v H', v ∈ xs → Stp a H H' → Wz H' a (n + 1) → Q v H'
abbrev CZ1 (P : Program) (w : World) (K : PySem.W.Frag) (mg : Str → Option Value) (base : Heap) : Prop := Fn P w K mg base CX0 2 "_law_one" ["_law_well_here", "_law_some"] [] sp_Lz1
/-! ### tables beside a well -/
def W0 : Wm := fun _ => none
def Ws (C D N : Addr) (T : List (Addr × Str)) (f : Addr → Int) (wl : Addr) (n : Nat) (H : Hp) (W : Wm) (ls : List (Addr × HO)) : Prop :=
  ∃ x y z : Int, Wo C D N T f H W ((wl, .lst [.int x, .int y, .int z]) :: ls) ∧ 0 ≤ x ∧ 0 ≤ z ∧ z ≤ n ∧ ∀ p ∈ ls, p.1 ≠ wl
theorem Wo.drop (h : Wo C D N T f H W ls) : Wo C D N T f H W0 ls := ⟨fun a e z => (nomatch z), fun a e z => (nomatch z), fun a b e e' z => (nomatch z), h.hls, fun a e z => (nomatch z), h.nt, h.tb⟩
theorem Ws.drop (h : Ws C D N T f wl n H W ls) : Ws C D N T f wl n H W0 ls := by
  obtain ⟨x, y, z, h, h1⟩ := h
  exact ⟨x, y, z, h.drop, h1⟩
theorem Ws.mono (h : Ws C D N T f wl n H W ls) (hm : n ≤ m) : Ws C D N T f wl m H W ls := by
  obtain ⟨x, y, z, h, h1, h2, h3, h4⟩ := h
  exact ⟨x, y, z, h, h1, h2, by omega, h4⟩
theorem Ws.wz (h : Ws C D N T f wl n H W ls) : Wz H wl n := by
  obtain ⟨x, y, z, h, h1, h2, h3, h4⟩ := h
  exact ⟨x, y, z, h.hls _ List.mem_cons_self, h1, h2, h3⟩
theorem Ws.wo (h : Ws C D N T f wl n H W ls) : Wo C D N T f H W ls := by
  obtain ⟨x, y, z, h, _⟩ := h
  exact h.less fun p hp => List.mem_cons_of_mem _ hp
theorem Ws.same (h : Ws C D N T f wl n H W ls) (s : Same H H') : Ws C D N T f wl n H' W ls := by
  obtain ⟨x, y, z, h, h1⟩ := h
  exact ⟨x, y, z, h.same s, h1⟩
theorem Ws.ext (L : Cl3 C D N) (h : Ws C D N T f wl n H W ls) (x : ExtN H H') (tb : Tabs T H') : Ws C D N T f wl n H' W ls := by
  obtain ⟨x', y, z, h, h1⟩ := h
  exact ⟨x', y, z, h.ext L x tb, h1⟩
theorem Ws.less {ls' : List (Addr × HO)} (h : Ws C D N T f wl n H W ls) (s : ∀ p ∈ ls', p ∈ ls) : Ws C D N T f wl n H W ls' := by
  obtain ⟨x, y, z, h, h1, h2, h3, h4⟩ := h
  refine ⟨x, y, z, h.less fun p hp => ?_, h1, h2, h3, fun p hp => h4 p (s p hp)⟩
  rcases List.mem_cons.mp hp with rfl | hp
  · exact List.mem_cons_self
  · exact List.mem_cons_of_mem _ (s p hp)
theorem Ws.ne (h : Ws C D N T f wl n H W ls) {l : Addr} (e : H l = none) : l ≠ wl := fun z => by
  obtain ⟨x, y, z', hw, _⟩ := h.wz
  rw [z, hw] at e; cases e
theorem Ws.add (h : Ws C D N T f wl n H W ls) {l : Addr} {o : HO} (nn : H l = none) (s : Same H H') (e : H' l = some o) (no : ∀ ps, o ≠ .tbl ps := by intro ps z; cases z) : Ws C D N T f wl n H' W ((l, o) :: ls) := by
  have ne := h.ne nn
  obtain ⟨x, y, z, h, h1, h2, h3, h4⟩ := h
  refine ⟨x, y, z, (h.add nn s e no).less fun p hp => ?_, h1, h2, h3, fun p hp => ?_⟩
  · rcases List.mem_cons.mp hp with rfl | hp
    · exact List.mem_cons_of_mem _ List.mem_cons_self
    · rcases List.mem_cons.mp hp with rfl | hp
      · exact List.mem_cons_self
      · exact List.mem_cons_of_mem _ (List.mem_cons_of_mem _ hp)
  · rcases List.mem_cons.mp hp with rfl | hp
    · exact ne
    · exact h4 p hp
theorem Ws.nel (h : Ws C D N T f wl n H W ls) {l : Addr} (e : H l = none) : ∀ p ∈ ls, p.1 ≠ l := fun p hp z => by
  have := h.wo.hls p hp
  rw [z, e] at this; cases this
/-- an object that was new since -/
theorem Ws.addB {ls' : List (Addr × HO)} (h0 : Ws C D N T f wl m H W ls') (h : Ws C D N T f wl n H' W ls) {l : Addr} {o : HO} (nn : H l = none) (e : H' l = some o) (no : ∀ ps, o ≠ .tbl ps := by intro ps z; cases z) : Ws C D N T f wl n H' W ((l, o) :: ls) := by
  have ne := h0.ne nn
  have w0 := h0.wo
  obtain ⟨x, y, z, h, h1, h2, h3, h4⟩ := h
  refine ⟨x, y, z, ⟨h.ts, h.M, h.dis, fun p hp => ?_, fun a t ht p hp => ?_, fun p hp => ?_, h.tb⟩, h1, h2, h3, fun p hp => ?_⟩
  · rcases List.mem_cons.mp hp with rfl | hp
    · exact h.hls _ List.mem_cons_self
    · rcases List.mem_cons.mp hp with rfl | hp
      · exact e
      · exact h.hls p (List.mem_cons_of_mem _ hp)
  · rcases List.mem_cons.mp hp with rfl | hp
    · exact h.out a t ht _ List.mem_cons_self
    · rcases List.mem_cons.mp hp with rfl | hp
      · exact (w0.ts a t ht).at_.out_fresh nn
      · exact h.out a t ht p (List.mem_cons_of_mem _ hp)
  · rcases List.mem_cons.mp hp with rfl | hp
    · exact fun ps z => nomatch z
    · rcases List.mem_cons.mp hp with rfl | hp
      · exact no
      · exact h.nt p (List.mem_cons_of_mem _ hp)
  · rcases List.mem_cons.mp hp with rfl | hp
    · exact ne
    · exact h4 p hp
/-- a list is changed -/
theorem Ws.chg (L : Cl3 C D N) {l : Addr} {xs xs' : List V} (h : Ws C D N T f wl n H W ((l, .lst xs) :: ls)) (nl : ∀ p ∈ ls, p.1 ≠ l) (e : H' l = some (.lst xs')) (s : ∀ b, b ≠ l → H' b = H b) : Ws C D N T f wl n H' W ((l, .lst xs') :: ls) := by
  obtain ⟨x, y, z, h, h1, h2, h3, h4⟩ := h
  have nw : l ≠ wl := h4 _ List.mem_cons_self
  have h5 : Wo C D N T f H W ((l, .lst xs) :: (wl, .lst [.int x, .int y, .int z]) :: ls) := h.less fun p hp => by
    rcases List.mem_cons.mp hp with rfl | hp
    · exact List.mem_cons_of_mem _ List.mem_cons_self
    · rcases List.mem_cons.mp hp with rfl | hp
      · exact List.mem_cons_self
      · exact List.mem_cons_of_mem _ (List.mem_cons_of_mem _ hp)
  have h6 := h5.chg L (fun p hp => by
    rcases List.mem_cons.mp hp with rfl | hp
    · exact nw.symm
    · exact nl p hp) e s
  refine ⟨x, y, z, h6.less fun p hp => ?_, h1, h2, h3, fun p hp => ?_⟩
  · rcases List.mem_cons.mp hp with rfl | hp
    · exact List.mem_cons_of_mem _ List.mem_cons_self
    · rcases List.mem_cons.mp hp with rfl | hp
      · exact List.mem_cons_self
      · exact List.mem_cons_of_mem _ (List.mem_cons_of_mem _ hp)
  · rcases List.mem_cons.mp hp with rfl | hp
    · exact nw
    · exact h4 p (List.mem_cons_of_mem _ hp)
/-- it is drawn from -/
theorem Ws.stp (L : Cl3 C D N) (h : Ws C D N T f wl n H W ls) (s : Stp wl H H') (hz : Wz H' wl m) : Ws C D N T f wl m H' W ls := by
  obtain ⟨x, y, z, h, h1, h2, h3, h4⟩ := h
  obtain ⟨x', y', z', e, e1, e2, e3⟩ := hz
  exact ⟨x', y', z', h.stp L h4 e s, e1, e2, e3, h4⟩
theorem Wo.fresh (h : Wo C D N T f H W ls) (e : H a = none) : W a = none := by
  cases z : W a with
  | none => rfl
  | some t =>
    obtain ⟨dx, ho⟩ := h.obj z
    rw [ho] at e; cases e
theorem updW_updW {W : Wm} {a : Addr} {e e' : Tn} : updW (updW W a e) a e' = updW W a e' := funext fun b => by
  unfold updW
  by_cases h : b = a
  · rw [if_pos h, if_pos h]
  · rw [if_neg h, if_neg h, if_neg h]
theorem updW_comm {W : Wm} {a b : Addr} {e e' : Tn} (h : a ≠ b) : updW (updW W a e) b e' = updW (updW W b e') a e := funext fun c => by
  unfold updW
  by_cases h1 : c = b
  · subst h1
    rw [if_pos rfl, if_neg (fun z => h z.symm), if_pos rfl]
  · rw [if_neg h1]
    by_cases h2 : c = a
    · rw [if_pos h2, if_pos h2]
    · rw [if_neg h2, if_neg h2, if_neg h1]
theorem MetaOk.new (h : MetaOk W) {e : Tn} (hn : W a = none) (he : e.me = .non ∨ ∃ m em, e.me = .ref m ∧ (W m = some em ∨ m = a)) : MetaOk (updW W a e) := fun b e2 z => by
  rcases updW_of z with ⟨rfl, rfl⟩ | ⟨q, z⟩
  · rcases he with he | ⟨m, em, h1, h2⟩
    · exact .inl he
    · by_cases hm : m = b
      · exact .inr ⟨m, _, h1, by rw [hm]; exact updW_same⟩
      · rcases h2 with h2 | h2
        · exact .inr ⟨m, em, h1, by rw [updW_ne hm]; exact h2⟩
        · exact absurd h2 hm
  · rcases h b e2 z with y | ⟨m, em, h1, h2⟩
    · exact .inl y
    · exact .inr ⟨m, em, h1, by rw [updW_ne (fun z => by rw [z, hn] at h2; cases h2)]; exact h2⟩
theorem MetaOk.upd (h : MetaOk W) {e e' : Tn} (hn : W a = some e) (he : e'.me = e.me ∨ e'.me = .non ∨ ∃ m em, e'.me = .ref m ∧ W m = some em) : MetaOk (updW W a e') := fun b e2 z => by
  have key : ∀ m em, W m = some em → ∃ em', updW W a e' m = some em' := fun m em y => by
    by_cases hm : m = a
    · exact ⟨_, by rw [hm]; exact updW_same⟩
    · exact ⟨em, by rw [updW_ne hm]; exact y⟩
  rcases updW_of z with ⟨rfl, rfl⟩ | ⟨q, z⟩
  · rcases he with he | he | ⟨m, em, h1, h2⟩
    · rcases h b e hn with y | ⟨m, em, h1, h2⟩
      · exact .inl (he.trans y)
      · obtain ⟨e3, h3⟩ := key m em h2
        exact .inr ⟨m, e3, he.trans h1, h3⟩
    · exact .inl he
    · obtain ⟨e3, h3⟩ := key m em h2
      exact .inr ⟨m, e3, h1, h3⟩
  · rcases h b e2 z with y | ⟨m, em, h1, h2⟩
    · exact .inl y
    · obtain ⟨e3, h3⟩ := key m em h2
      exact .inr ⟨m, e3, h1, h3⟩
theorem MetaOk.w0 : MetaOk W0 := fun a e z => by cases z
/-! ### _law_told -/
abbrev CPutE (P : Program) (w : World) (K : PySem.W.Frag) (mg : Str → Option Value) (base : Heap) (C D N : Addr) : Prop := Mt P w K mg base CX0 10 D "put" ["self", "key", "value"] (sp_putG C D N PutNF Rm4)
/-! ### what the deeds leave, told by the tables -/
/-- a new table -/
structure AddW (W W' : Wm) (a : Addr) (num me : V) : Prop where
  free : W a = none
  ex : ∃ e, W' a = some e ∧ e.num = num ∧ e.me = me ∧ (∀ x, getX e.t x = .non) ∧ lv e.t = 0
  oth : ∀ b, b ≠ a → W' b = W b
theorem AddW.old {num me : V} (h : AddW W W' a num me) {b : Addr} {e : Tn} (hb : W b = some e) : W' b = some e := by
  rw [h.oth b (fun z => by rw [z, h.free] at hb; cases hb)]; exact hb
theorem AddW.ne {num me : V} (h : AddW W W' a num me) {b : Addr} {e : Tn} (hb : W b = some e) : b ≠ a := fun z => by rw [z, h.free] at hb; cases hb
theorem AddW.wle {num me : V} (h : AddW W W' a num me) : WLe W W' := fun b e hb => ⟨e, h.old hb⟩
theorem MetaOk.add {num : V} (h : MetaOk W) (x : AddW W W' a num .non) : MetaOk W' := fun b e hb => by
  obtain ⟨e0, h0, _, h2, _⟩ := x.ex
  by_cases hba : b = a
  · rw [hba, h0] at hb; cases hb; exact .inl h2
  · rw [x.oth b hba] at hb
    rcases h b e hb with z | ⟨m, em, z1, z2⟩
    · exact .inl z
    · exact .inr ⟨m, em, z1, x.old z2⟩
/-- a value put -/
structure PutW (W W' : Wm) (a : Addr) (k : Any) (u : V) : Prop where
  ex : ∃ e e', W a = some e ∧ W' a = some e' ∧ e'.num = e.num ∧ e'.me = e.me ∧ (∀ x, getX e'.t x = if x = k then u else getX e.t x) ∧ lv e'.t ≤ lv e.t + 1
  oth : ∀ b, b ≠ a → W' b = W b
theorem PutW.wle {k : Any} {u : V} (h : PutW W W' a k u) : WLe W W' := fun b e hb => by
  by_cases hba : b = a
  · obtain ⟨_, e', _, h1, _⟩ := h.ex
    exact ⟨e', by rw [hba]; exact h1⟩
  · exact ⟨e, by rw [h.oth b hba]; exact hb⟩
theorem MetaOk.put {k : Any} {u : V} (h : MetaOk W) (x : PutW W W' a k u) : MetaOk W' := fun b e hb => by
  have key : ∀ m em, W m = some em → ∃ em', W' m = some em' := fun m em y => x.wle m em y
  by_cases hba : b = a
  · obtain ⟨e0, e1, h0, h1, _, h3, _⟩ := x.ex
    rw [hba, h1] at hb
    cases hb
    rcases h a e0 h0 with z | ⟨m, em, z1, z2⟩
    · exact .inl (h3.trans z)
    · obtain ⟨em', z3⟩ := key m em z2
      exact .inr ⟨m, em', h3.trans z1, z3⟩
  · rw [x.oth b hba] at hb
    rcases h b e hb with z | ⟨m, em, z1, z2⟩
    · exact .inl z
    · obtain ⟨em', z3⟩ := key m em z2
      exact .inr ⟨m, em', z1, z3⟩
/-- a metatable set -/
structure SetW (W W' : Wm) (a : Addr) (u : V) : Prop where
  ex : ∃ e, W a = some e ∧ W' a = some { e with me := u }
  oth : ∀ b, b ≠ a → W' b = W b
theorem SetW.wle {u : V} (h : SetW W W' a u) : WLe W W' := fun b e hb => by
  by_cases hba : b = a
  · obtain ⟨e, _, h1⟩ := h.ex
    exact ⟨_, by rw [hba]; exact h1⟩
  · exact ⟨e, by rw [h.oth b hba]; exact hb⟩
theorem MetaOk.set {u : V} (h : MetaOk W) (x : SetW W W' a u) (hu : u = .non ∨ ∃ m em, u = .ref m ∧ W m = some em) : MetaOk W' := fun b e hb => by
  have key : ∀ m em, W m = some em → ∃ em', W' m = some em' := fun m em y => x.wle m em y
  by_cases hba : b = a
  · obtain ⟨e0, h0, h1⟩ := x.ex
    rw [hba, h1] at hb
    cases hb
    rcases hu with z | ⟨m, em, z1, z2⟩
    · exact .inl z
    · obtain ⟨em', z3⟩ := key m em z2
      exact .inr ⟨m, em', z1, z3⟩
  · rw [x.oth b hba] at hb
    rcases h b e hb with z | ⟨m, em, z1, z2⟩
    · exact .inl z
    · obtain ⟨em', z3⟩ := key m em z2
      exact .inr ⟨m, em', z1, z3⟩
theorem addW_of {num me : V} {F : Fp} {ar k : Nat} (hn : W a = none) : AddW W (updW W a ⟨num, me, F, newT ar k⟩) a num me :=
  ⟨hn, ⟨_, updW_same, rfl, rfl, (newT_map (f := fun _ => 0) ar k).2, newT_lv ar k⟩, fun b hb => updW_ne hb⟩
theorem setW_of {e : Tn} {u : V} (h : W a = some e) : SetW W (updW W a { e with me := u }) a u := ⟨⟨e, h, updW_same⟩, fun b hb => updW_ne hb⟩
theorem putW_of {e : Tn} {F' : Fp} {t' : Tb Ky} {k : Any} {u : V} (h : W a = some e) (g : ∀ x, getX t' x = if x = k then u else getX e.t x) (l : Up.lv t' ≤ Up.lv e.t + 1) : PutW W (updW W a { e with F := F', t := t' }) a k u :=
  ⟨⟨e, _, h, updW_same, rfl, rfl, g, l⟩, fun b hb => updW_ne hb⟩
section
variable {Q : VK} {E : XK} {num u : V} {nm : Str}
theorem Ws.newT (h : Ws C D N T f wl n H W ls) (q : ∀ H' a W', AddW W W' a num .non → H a = none → Same H H' → Ws C D N T f wl n H' W' ls → Q (.ref a) H') : MakeR D (sp_Tinit D) ([num] ++ [.int 0, .int 0, .non]) H Q E := by
  obtain ⟨x, y, z, hw, hb⟩ := h
  exact mkT1 (hw.new fun H' a F n1 s1 w1 => q H' a _ (addW_of (hw.fresh n1)) n1 s1 ⟨x, y, z, w1, hb⟩)
theorem Ws.putS (h : Ws C D N T f wl n H W ls) (L : Cl3 C D N) {e : Tn} (he : W a = some e) (hl : Up.lv e.t < 4000) (q : ∀ H' W', PutW W W' a (.str nm) u → Ws C D N T f wl n H' W' ls → Kq D N H H' → Q .non H') : sp_putG C D N PutNF Rm4 (V.ref a :: ([.str nm, u] ++ [])) H Q E := by
  obtain ⟨x, y, z, hw, hb⟩ := h
  exact hw.put L he ky_strW (fun z => nomatch z) rfl kg_str no_str hl fun H2 F2 t2 w2 g2 l2 kq2 _ => q H2 _ (putW_of he g2 l2) ⟨x, y, z, w2, hb⟩ kq2
theorem Ws.setM (h : Ws C D N T f wl n H W ls) (mo : MetaOk W) {e : Tn} (he : W a = some e) (hp : metaV W (.ref a) "__metatable" = .non) (q : ∀ H' W', SetW W W' a u → Ws C D N T f wl n H' W' ls → Kq D N H H' → Q .non H') : sp_setmeta0 C D N [.ref a, u] H Q E := by
  obtain ⟨x, y, z, hw, hb⟩ := h
  exact ⟨a, u, T, f, W, _, e, rfl, hw, mo, he, hp, fun H' w' kq => q H' _ (setW_of he) ⟨x, y, z, w', hb⟩ kq⟩
theorem Ws.draw (h : Ws C D N T f wl n H W ls) (L : Cl3 C D N) {m : Int} (m0 : 0 < m) (m1 : m < 2 ^ 62) (hn : n ≤ 1000000) (q : ∀ (k : Nat) H', (k : Int) < m → Stp wl H H' → Ws C D N T f wl (n + 1) H' W ls → Q (.int k) H') : sp_Lz [.ref wl, .int m] H Q E :=
  ⟨wl, m, n, rfl, m0, m1, h.wz, hn, fun k H' hk s z => q k H' hk s (h.stp L s z)⟩
theorem Ws.one (h : Ws C D N T f wl n H W ls) (L : Cl3 C D N) {l : Addr} {xs : List V} (hl : H l = some (.lst xs)) (ne : l ≠ wl) (x0 : 0 < xs.length) (x1 : xs.length < 1000) (hn : n ≤ 1000000) (q : ∀ v H', v ∈ xs → Stp wl H H' → Ws C D N T f wl (n + 1) H' W ls → Q v H') : sp_Lz1 [.ref wl, .ref l] H Q E :=
  ⟨wl, l, xs, n, rfl, h.wz, hn, hl, ne, x0, x1, fun v H' hv s z => q v H' hv s (h.stp L s z)⟩
end
end
end Up

set_option Elab.async false
set_option linter.all false
set_option pp.maxSteps 600
set_option maxRecDepth 100000
set_option maxHeartbeats 4000000
namespace Up
open PySem PySem.Spec PyProof.Rows L2 PySem.SeqAt HN
/-! ### own __eq__ that tells NotImplemented -/
/-- a call that tells NotImplemented, and leaves all as it is -/
def NiEnd (outer : List Env) (P : Program) (w : World) (H : Hp) (s : Shared) (r : Result) (s' : Shared) : Prop := match r with
  | .ok (.ret u) => u = .notImplemented ∧ s'.os = s.os ∧ AllBare s'.gens ∧ Un (frs outer) [] H H s.heap s'.heap ∧ HOk P w H s'.heap
  | .ok _ => False
  | .error e => CX0 outer H s E0 e s'
theorem int_ne_ins (b : Int) (u : Tok) (l : Addr) (c : Value) (dd : Option Addr) (sl : Array (Option Value)) :
    Meets (Builtin.«int.__ne__» ⟨[.int b u, .ref l], []⟩) (fun _ R s => s.heap.get? l = some { cls := c, dict := dd, data := .plain, slots := sl } ∧ R (.ok (.ret .notImplemented)) s) :=
  .of_wp fun prog w A R s h => by obtain ⟨hp, g, d, tk, os⟩ := s; obtain ⟨hl, h⟩ := h; wp_walk using wpAny_loadPart' hl, wpAny_load hl; exact ⟨_, rfl, h⟩
theorem int_eq_ins (b : Int) (u : Tok) (l : Addr) (c : Value) (dd : Option Addr) (sl : Array (Option Value)) :
    Meets (Builtin.«int.__eq__» ⟨[.int b u, .ref l], []⟩) (fun _ R s => s.heap.get? l = some { cls := c, dict := dd, data := .plain, slots := sl } ∧ R (.ok (.ret .notImplemented)) s) :=
  .of_wp fun prog w A R s h => by obtain ⟨hp, g, d, tk, os⟩ := s; obtain ⟨hl, h⟩ := h; wp_walk using wpAny_loadPart' hl, wpAny_load hl; exact ⟨_, rfl, h⟩
theorem ni_run {P : Program} {w : World} {K : PySem.W.Frag} {mg : Str → Option Value} {base : Heap} {k : Nat} {f : Addr} {fd : FuncData} {name qual : Str} {params : Arguments} {scope : Scope} {N ps : List Str} {c : Expr} {rest : List Stmt} {p1 p2 p3 : Pos} {tc : TT}
    (F : FunD K name qual params (.If c [.Return (some (.Name "NotImplemented" p1)) p2] [] p3 :: rest) scope [] [] f fd) (S : FnScope N ps scope) (hb : Binds K fd ps []) (hm : mg "NotImplemented" = none) (hg : scope.names.lookup ("NotImplemented" : Str) = some .globalImplicit)
    {A : Around} {outer : List Env} {s : Shared} {H : Hp} {us : List Value} {vs : List V} (hr : Room (k + 1) A) (e0 : Env0 P w K mg base A outer s H) (r : Vals vs us) (hl : vs.length = ps.length)
    (hc : ∀ cdv, PT (cxOf CX0 P w K mg base N qual scope f cdv A outer s H E0) c tc) (ht : tc (start N vs) H fun b H1 => b = true ∧ H1 = H) :
    codeAny (model P w) A (.call (.ref f) ⟨us, []⟩) (NiEnd outer P w H s) s := by
  obtain ⟨oc, od, dV, kV, doc, pm, an, cdv, ct, osl, rfl, lk, hcd, _, _⟩ := F.ex
  have KX : K.In s.heap := e0.mod.kin.keeps fun b o e => (e0.bs b o e).1
  have lim : s.heap.NoLimit := e0.mod.nolimit.keeps fun b o e => (e0.bs b o e).1
  have hkind : ∀ y ∈ ps.zip us, scope.names.lookup y.1 = some .local ∨ (scope.names.lookup y.1 = some .cell ∧ ((cellsFrom (s.heap.objs.size + 1) scope.names []).lookup y.1).isSome = true) := fun ⟨n, v⟩ hy => by
    rcases S.par n (List.of_mem_zip hy).1 with q | q
    · exact .inl q
    · exact .inr ⟨q, PySem.W.cellsFrom_some _ _ _ (.inl q)⟩
  have hlu : us.length = ps.length := by rw [← hl]; exact r.length.symm
  have bb := hb s us KX (by simpa using hlu)
  rw [List.append_nil] at bb
  refine codeAny_call_function hr.depth (KX _ _ lk) rfl S.co S.gen rfl (PySem.W.codeRec_of KX hcd) (bb _ _ _ _ ?_)
  refine wpAny_newFunctionEnv_cells S.kind hkind fun env he s1 x => ?_
  subst he
  refine ⟨lim.keeps x.toInCall.keep, codeAny_func ?_⟩
  have I : Inv (cxOf CX0 P w K mg base N qual scope f cdv A outer s H E0) [] (L2.start N vs) H s1 := inv_start S hr.hd e0 hl r x
  have body : wpAny (model P w) (A.deeper (envOfC qual scope s.heap.objs.size f cdv)) (execs (.If c [.Return (some (.Name "NotImplemented" p1)) p2] [] p3 :: rest) (cxOf CX0 P w K mg base N qual scope f cdv A outer s H E0).env)
      (fun fl s' => match fl with
        | .ret u => u = .notImplemented ∧ Inv (cxOf CX0 P w K mg base N qual scope f cdv A outer s H E0) [] (L2.start N vs) H s'
        | _ => False) (cxOf CX0 P w K mg base N qual scope f cdv A outer s H E0).xe s1 := by
    refine wpAny_execs_cons (thn (wpAny_If (Q := fun fl s' => match fl with
        | .ret u => u = .notImplemented ∧ Inv (cxOf CX0 P w K mg base N qual scope f cdv A outer s H E0) [] (L2.start N vs) H s'
        | _ => False) (thn ((hc cdv).run [] s1 _ H _ I ht) fun d s2 ⟨H1, I1, q⟩ => ?_)) fun fl s2 q => ?_)
    · obtain ⟨rfl, rfl⟩ := q
      refine wpAny_execs_cons (thn (wpAny_Return_some (Q := fun fl s' => match fl with
        | .ret u => u = .notImplemented ∧ Inv (cxOf CX0 P w K mg base N qual scope f cdv A outer s H1 E0) [] (L2.start N vs) H1 s'
        | _ => False) (ld_blt I1 hg hm (by decide +kernel : bootBuiltins "NotImplemented" = some .notImplemented) ⟨rfl, I1⟩ (by decide) (by decide))) fun fl s2 q => ?_)
      cases fl with
      | ret u => exact q
      | next => exact q.elim
      | brk => exact q.elim
      | cont => exact q.elim
    · cases fl with
      | ret u => exact q
      | next => exact q.elim
      | brk => exact q.elim
      | cont => exact q.elim
  refine wpAny_mono body (fun fl s' hs => ?_) fun e s' hs => hs
  cases fl with
  | ret u => exact ⟨hs.1, hs.2.os, hs.2.bare, hs.2.base, hs.2.hok⟩
  | next => exact hs.elim
  | brk => exact hs.elim
  | cont => exact hs.elim
/-- a class whose own __eq__ tells NotImplemented beside what is none of its instances -/
def NiC (P : Program) (w : World) (K : PySem.W.Frag) (mg : Str → Option Value) (base : Heap) (k : Nat) (C : Addr) : Prop :=
  ∃ f, PySem.W.findIn K (.ref C) "__eq__" = some (some (.ref f)) ∧ PySem.W.isFn K (.ref f) = true ∧ PySem.W.findIn K (.ref C) "__ne__" = some (some (.builtin "object.__ne__")) ∧ PySem.W.mroIn K C (.type "object") = some true ∧
    ∀ (A : Around) (outer : List Env) (s : Shared) (H : Hp) (a dx : Addr) (fs : List (Str × V)) (y : V) (u t : Value), Room k A → Env0 P w K mg base A outer s H → H a = some (.ins C dx fs) → Kn K H y t → PySem.W.kitOne K t (.ref C) = some false → RelV y u →
      codeAny (model P w) A (.call (.ref f) ⟨[.ref a, u], []⟩) (NiEnd outer P w H s) s
section
variable {X : Cx} {C : Addr} {k : Nat}
theorem ni_eq {pins : List (Addr × Obj)} {σ : L2.St} {H : Hp} {s : Shared} {A : Around} {f a dx : Addr} {fs : List (Str × V)} {y : V} {u t : Value} {R : Value → Shared → Prop} {E : Value → Shared → Prop}
    (hN : ∀ (A : Around) (outer : List Env) (s : Shared) (H : Hp) (a dx : Addr) (fs : List (Str × V)) (y : V) (u t : Value), Room k A → Env0 X.prog X.w X.K X.mg X.base A outer s H → H a = some (.ins C dx fs) → Kn X.K H y t → PySem.W.kitOne X.K t (.ref C) = some false → RelV y u →
      codeAny (model X.prog X.w) A (.call (.ref f) ⟨[.ref a, u], []⟩) (NiEnd outer X.prog X.w H s) s)
    (hr : Room k A) (hA : A.frames = X.A.frames) (I : L2.Inv X pins σ H s) (ha : H a = some (.ins C dx fs)) (hk : Kn X.K H y t) (hf : PySem.W.kitOne X.K t (.ref C) = some false) (hu : RelV y u)
    (q : ∀ s', L2.Inv X pins σ H s' → R .notImplemented s') : wpAny (model X.prog X.w) A (call (.ref f) [.ref a, u]) R E s := by
  have e := I.env0
  have e0 : Env0 X.prog X.w X.K X.mg X.base A X.stack s H := ⟨by rw [hA]; exact e.frames, e.mod, e.bs, e.bsz, e.funs, e.frf, e.hok, e.bare⟩
  refine wpAny_call (codeAny_mono (hN A X.stack s H a dx fs y u t hr e0 ha hk hf hu) fun r s' hq => ?_)
  cases r with
  | error e => exact hq.elim
  | ok fl =>
    cases fl with
    | ret v =>
      obtain ⟨rfl, os, bare, un, hok⟩ := hq
      obtain ⟨v, H', I', rv, rfl⟩ := I.after (Q := fun _ H' => H' = H) (u := Value.none) ⟨.non, H, os, bare, un, hok, rfl, rfl⟩
      exact q s' I'
    | next => exact False.elim hq
    | brk => exact False.elim hq
    | cont => exact False.elim hq
theorem op_neNI (T : NiC X.prog X.w X.K X.mg X.base k C) (hi : PySem.W.kitOne X.K (.type "int") (.ref C) = some false) (hr : Room (k + 1) X.A) : OpR X (compareOp .NotEq) (fun x y H Q => ∃ a dx fs i, x = .ref a ∧ y = .int i ∧ H a = some (.ins C dx fs) ∧ Q (.bl true) H) := by
  intro pins s σ H x y v u Q I rx ry h
  obtain ⟨f, hs, hf, hne, hm, hN⟩ := T
  obtain ⟨a, dx, fs, i, rfl, rfl, ha, q⟩ := h
  cases rx
  obtain ⟨tk, rfl⟩ := ry
  obtain ⟨mA, O, _⟩ := ins_get I.hok ha
  obtain ⟨od, J, _⟩ := O.look
  show wpAny (model X.prog X.w) X.A (richCompare .NotEq (.ref a) (.int i tk)) (EP X pins σ Q) X.xe s
  have hu := hr.un
  have one : wpAny (model X.prog X.w) X.A (tryCompare (.ref a) "__ne__" (.int i tk)) (fun r s' => r = none ∧ L2.Inv X pins σ H s') X.xe s := by
    unfold tryCompare
    refine wpAny_bind (ifBound_objNe I.kIn J hne ?_)
    refine wpAny_call (codeAny_call_builtin PySem.F.cmp_object.ne.plain PySem.F.cmpEntry_ne (PySem.W.check_slot PySem.F.cmpKind_ne PySem.F.cmpSplit_ne (J.type.andThen (PySem.W.looks_mroIn I.kIn hm)) (PySem.F.cmpArgs_ne _ _) ?_))
    unfold Builtin.«object.__ne__»
    refine wpAny_bind (wpAny_of_eq (a := ((Value.ref a : Value), [Value.int i tk])) (by first | rfl | (simp only [slotArgs]; rfl)) ?_)
    refine wpAny_bind (wpAny_cRoomFor (by show X.A.units + 1 < cLine; omega) ?_)
    refine wpAny_bind (PySem.W.ifBound_K I.kIn J hs hf ?_)
    refine ni_eq hN hr.in1 rfl I ha (y := .int i) kn_int hi ⟨tk, rfl⟩ fun s' I' => ?_
    refine wpAny_pure ?_
    exact wpAny_pure ⟨rfl, I'⟩
  have h0 : oneThing? .NotEq (.ref a) (.int i tk) = none := rfl
  simp only [richCompare, cmpInfo_NotEq, h0]
  refine wpAny_holding (wpAny_bind (wpAny_cRoomFor (by omega) ?_))
  refine wpAny_bind (J.type.here (wpAny_bind (wpAny_typeOf (typeIs_int s i tk) ?_)))
  split
  · refine wpAny_bind ((PySem.W.looks_subIn I.kIn (by rfl : PySem.W.subIn X.K (.type "int") (.ref C) = some false)).here ?_)
    simp only [Bool.false_eq_true, if_false, Bool.not_false, if_true]
    refine wpAny_bind (m := tryCompare (.ref a) _ (.int i tk)) (wpAny_mono one (fun r s' z => ?_) fun _ _ e => e)
    obtain ⟨rfl, I'⟩ := z
    obtain ⟨mA', O', _⟩ := ins_get I'.hok ha
    have ho : s'.heap.get? a = some (PySem.W.instObj C dx) := O'.obj
    refine wpAny_bind (m := tryCompare (.int i tk) _ (.ref a)) (wpAny_tryCompare_declines (typeIs_int s' i tk) PySem.F.slot_int_ne_refl (call_meets PySem.F.slot_int_ne_refl (typeIs_int s' i tk) PySem.F.entry_int_ne (PySem.F.args_int_ne_2 _ _) (int_ne_ins _ _ _ _ _ _) ⟨ho, ⟨rfl, ?_⟩⟩))
    exact wpAny_bind (wpAny_rule (wpAny_bind (wpAny_of_eq (rfl : isSame (.ref a) (.int i tk) = pure false) (wpAny_pure ⟨.bl true, H, I', rfl, q⟩))))
  · rename_i z
    exact absurd (by simp) z
theorem entry_int {M : Model} {A : Around} {E : Value → Shared → Prop} {s : Shared} {x : Addr} {i : Int} {tk : Tok} {Q : Fin → Shared → Prop} (hq : Q (.done (.ret .notImplemented)) s) : wpAny M A (Builtin.«object.__eq__» ⟨[.ref x, .int i tk], []⟩) Q E s := by
  have h1 : isSame (.ref x) (.int i tk) = pure false := rfl
  unfold Builtin.«object.__eq__»
  repeat (first | with_reducible refine wpAny_of_eq h1 ?_ | wp_step)
  exact hq
/-- an instance of a class without own __eq__, beside an int -/
theorem op_neIdI {D : Addr} (T : IdC X.K D) (hne : PySem.W.findIn X.K (.ref D) "__ne__" = some (some (.builtin "object.__ne__"))) (hu : X.A.units + 64 < cLine) : OpR X (compareOp .NotEq) (fun x y H Q => ∃ a dx fs i, x = .ref a ∧ y = .int i ∧ H a = some (.ins D dx fs) ∧ Q (.bl true) H) := by
  intro pins s σ H x y v u Q I rx ry h
  obtain ⟨a, dx, fs, i, rfl, rfl, ha, q⟩ := h
  cases rx
  obtain ⟨tk, rfl⟩ := ry
  obtain ⟨mA, O, _⟩ := ins_get I.hok ha
  obtain ⟨od, J, _⟩ := O.look
  have ho : s.heap.get? a = some (PySem.W.instObj D dx) := O.obj
  show wpAny (model X.prog X.w) X.A (richCompare .NotEq (.ref a) (.int i tk)) (EP X pins σ Q) X.xe s
  have one : wpAny (model X.prog X.w) X.A (tryCompare (.ref a) "__ne__" (.int i tk)) (fun r s' => r = none ∧ s' = s) X.xe s := by
    unfold tryCompare
    refine wpAny_bind (ifBound_objNe I.kIn J hne ?_)
    refine wpAny_call (codeAny_call_builtin PySem.F.cmp_object.ne.plain PySem.F.cmpEntry_ne (PySem.W.check_slot PySem.F.cmpKind_ne PySem.F.cmpSplit_ne (J.type.andThen (PySem.W.looks_mroIn I.kIn T.hm)) (PySem.F.cmpArgs_ne _ _) ?_))
    unfold Builtin.«object.__ne__»
    refine wpAny_bind (wpAny_of_eq (a := ((Value.ref a : Value), [Value.int i tk])) (by first | rfl | (simp only [slotArgs]; rfl)) ?_)
    refine wpAny_bind (wpAny_cRoomFor (by show X.A.units + 1 < cLine; omega) ?_)
    refine wpAny_bind (ifBound_objEq I.kIn J T.he ?_)
    refine wpAny_call (codeAny_call_builtin PySem.F.cmp_object.eq.plain PySem.F.cmpEntry_eq (PySem.W.check_slot PySem.F.cmpKind_eq PySem.F.cmpSplit_eq (J.type.andThen (PySem.W.looks_mroIn I.kIn T.hm)) (PySem.F.cmpArgs_eq _ _) (entry_int ?_)))
    refine wpAny_pure ?_
    exact wpAny_pure ⟨rfl, rfl⟩
  have h0 : oneThing? .NotEq (.ref a) (.int i tk) = none := rfl
  simp only [richCompare, cmpInfo_NotEq, h0]
  refine wpAny_holding (wpAny_bind (wpAny_cRoomFor (by omega) ?_))
  refine wpAny_bind (J.type.here (wpAny_bind (wpAny_typeOf (typeIs_int s i tk) ?_)))
  split
  · refine wpAny_bind ((PySem.W.looks_subIn I.kIn (by rfl : PySem.W.subIn X.K (.type "int") (.ref D) = some false)).here ?_)
    simp only [Bool.false_eq_true, if_false, Bool.not_false, if_true]
    refine wpAny_bind (m := tryCompare (.ref a) _ (.int i tk)) (wpAny_mono one (fun r s' z => ?_) fun _ _ e => e)
    obtain ⟨rfl, rfl⟩ := z
    refine wpAny_bind (m := tryCompare (.int i tk) _ (.ref a)) (wpAny_tryCompare_declines (typeIs_int _ i tk) PySem.F.slot_int_ne_refl (call_meets PySem.F.slot_int_ne_refl (typeIs_int _ i tk) PySem.F.entry_int_ne (PySem.F.args_int_ne_2 _ _) (int_ne_ins _ _ _ _ _ _) ⟨ho, ⟨rfl, ?_⟩⟩))
    exact wpAny_bind (wpAny_rule (wpAny_bind (wpAny_of_eq (rfl : isSame (.ref a) (.int i tk) = pure false) (wpAny_pure ⟨.bl true, H, I, rfl, q⟩))))
  · rename_i z
    exact absurd (by simp) z
theorem op_neBI : OpR X (compareOp .NotEq) (fun x y H Q => ∃ b i, x = .bl b ∧ y = .int i ∧ Q (.bl (!((if b = true then (1 : Int) else 0) == i))) H) := by
  intro pins s σ H x y v u Q I rx ry h
  obtain ⟨b, i, rfl, rfl, q⟩ := h
  cases rx
  obtain ⟨tk, rfl⟩ := ry
  exact RcNeAt.bool_int b i tk X.prog X.w X.xe _ ⟨.bl _, H, I, rfl, q⟩
end
end Up

set_option Elab.async false
set_option linter.all false
set_option pp.maxSteps 600
set_option maxRecDepth 100000
set_option maxHeartbeats 4000000
namespace Up
open PySem PySem.Spec PyProof.Rows L2 PySem.SeqAt HN
/-! ### == and != of instances of classes without an own __eq__, beside anything -/
structure IdCs (K : PySem.W.Frag) (Cs : List Addr) : Prop where
  id : ∀ C ∈ Cs, IdC K C
  ne : ∀ C ∈ Cs, PySem.W.findIn K (.ref C) "__ne__" = some (some (.builtin "object.__ne__"))
  sub : ∀ C ∈ Cs, ∀ C' ∈ Cs, C ≠ C' → PySem.W.subIn K (.ref C) (.ref C') = some false
  subT : ∀ C ∈ Cs, ∀ t ∈ (["NoneType", "bool", "int", "str"] : List String), PySem.W.subIn K (.ref C) (.type t) = some false
/-- None, a truth, an int, a text -/
inductive ScV : V → Value → String → Prop where
  | non : ScV .non .none "NoneType"
  | bl (b : Bool) : ScV (.bl b) (.bool b) "bool"
  | int (i : Int) (t : Tok) : ScV (.int i) (.int i t) "int"
  | str (z : Str) (t : Tok) : ScV (.str z) (.str z t) "str"
def isSc : V → Bool
  | .non => true
  | .bl _ => true
  | .int _ => true
  | .str _ => true
  | _ => false
theorem sc_of {x : V} {v : Value} (h : isSc x = true) (r : RelV x v) : ∃ t, ScV x v t := by
  cases x with
  | non => cases r; exact ⟨_, .non⟩
  | bl b => cases r; exact ⟨_, .bl b⟩
  | int i => obtain ⟨t, rfl⟩ := r; exact ⟨_, .int i t⟩
  | str z => obtain ⟨t, rfl⟩ := r; exact ⟨_, .str z t⟩
  | _ => cases h
theorem ScV.mem {x : V} {v : Value} {t : String} (h : ScV x v t) : t ∈ (["NoneType", "bool", "int", "str"] : List String) := by cases h <;> simp
theorem ScV.ty {x : V} {v : Value} {t : String} (h : ScV x v t) (s : Shared) : s.TypeIs v t := by
  cases h with
  | non => rfl
  | bl b => rfl
  | int i tk => exact typeIs_int s i tk
  | str i tk => exact typeIs_str s i tk
theorem bool_ne_ins (b : Bool) (l : Addr) (c : Value) (dd : Option Addr) (sl : Array (Option Value)) :
    Meets (Builtin.«int.__ne__» ⟨[.bool b, .ref l], []⟩) (fun _ R s => s.heap.get? l = some { cls := c, dict := dd, data := .plain, slots := sl } ∧ R (.ok (.ret .notImplemented)) s) :=
  .of_wp fun prog w A R s h => by obtain ⟨hp, g, d, tk, os⟩ := s; obtain ⟨hl, h⟩ := h; wp_walk using wpAny_loadPart' hl, wpAny_load hl; exact ⟨_, rfl, h⟩
theorem str_ne_ins (b : Str) (u : Tok) (l : Addr) (c : Value) (dd : Option Addr) (sl : Array (Option Value)) :
    Meets (Builtin.«str.__ne__» ⟨[.str b u, .ref l], []⟩) (fun _ R s => s.heap.get? l = some { cls := c, dict := dd, data := .plain, slots := sl } ∧ R (.ok (.ret .notImplemented)) s) :=
  .of_wp fun prog w A R s h => by obtain ⟨hp, g, d, tk, os⟩ := s; obtain ⟨hl, h⟩ := h; wp_walk using wpAny_loadPart' hl, wpAny_load hl; exact ⟨_, rfl, h⟩
theorem bool_eq_ins (b : Bool) (l : Addr) (c : Value) (dd : Option Addr) (sl : Array (Option Value)) :
    Meets (Builtin.«int.__eq__» ⟨[.bool b, .ref l], []⟩) (fun _ R s => s.heap.get? l = some { cls := c, dict := dd, data := .plain, slots := sl } ∧ R (.ok (.ret .notImplemented)) s) :=
  .of_wp fun prog w A R s h => by obtain ⟨hp, g, d, tk, os⟩ := s; obtain ⟨hl, h⟩ := h; wp_walk using wpAny_loadPart' hl, wpAny_load hl; exact ⟨_, rfl, h⟩
theorem str_eq_ins (b : Str) (u : Tok) (l : Addr) (c : Value) (dd : Option Addr) (sl : Array (Option Value)) :
    Meets (Builtin.«str.__eq__» ⟨[.str b u, .ref l], []⟩) (fun _ R s => s.heap.get? l = some { cls := c, dict := dd, data := .plain, slots := sl } ∧ R (.ok (.ret .notImplemented)) s) :=
  .of_wp fun prog w A R s h => by obtain ⟨hp, g, d, tk, os⟩ := s; obtain ⟨hl, h⟩ := h; wp_walk using wpAny_loadPart' hl, wpAny_load hl; exact ⟨_, rfl, h⟩
section
variable {prog : Program} {w : World} {A : Around} {E : Value → Shared → Prop} {s : Shared} {K : PySem.W.Frag} {a b C C' : Addr} {ox oy : Obj} {od oe : Option Obj} {x : V} {v : Value} {t : String} {dx : Addr}
/-- the scalar's own method declines -/
theorem sc_ne {Q : Option Value → Shared → Prop} (h : ScV x v t) (ho : s.heap.get? b = some (PySem.W.instObj C dx)) (q : Q none s) : wpAny (model prog w) A (tryCompare v "__ne__" (.ref b)) Q E s := by
  cases h with
  | non => exact wpAny_tryCompare_declines (show s.TypeIs .none "NoneType" from rfl) PySem.F.slot_NoneType_ne_refl (call_gives PySem.F.slot_NoneType_ne_refl rfl PySem.F.entry_NoneType_ne (PySem.F.args_NoneType_ne_2 _ _) (NoneType___ne___none_ref_0 b) ⟨rfl, q⟩)
  | bl k => exact wpAny_tryCompare_declines (show s.TypeIs (.bool k) "bool" from rfl) PySem.F.slot_bool_ne_refl (call_meets PySem.F.slot_bool_ne_refl (show s.TypeIs (.bool k) "bool" from rfl) PySem.F.entry_int_ne (PySem.F.args_int_ne_2 _ _) (bool_ne_ins _ _ _ _ _) ⟨ho, rfl, q⟩)
  | int i tk => exact wpAny_tryCompare_declines (typeIs_int s i tk) PySem.F.slot_int_ne_refl (call_meets PySem.F.slot_int_ne_refl (typeIs_int s i tk) PySem.F.entry_int_ne (PySem.F.args_int_ne_2 _ _) (int_ne_ins _ _ _ _ _ _) ⟨ho, rfl, q⟩)
  | str i tk => exact wpAny_tryCompare_declines (typeIs_str s i tk) PySem.F.slot_str_ne_refl (call_meets PySem.F.slot_str_ne_refl (typeIs_str s i tk) PySem.F.entry_str_ne (PySem.F.args_str_ne_2 _ _) (str_ne_ins _ _ _ _ _ _) ⟨ho, rfl, q⟩)
theorem sc_eq {Q : Option Value → Shared → Prop} (h : ScV x v t) (ho : s.heap.get? b = some (PySem.W.instObj C dx)) (q : Q none s) : wpAny (model prog w) A (tryCompare v "__eq__" (.ref b)) Q E s := by
  cases h with
  | non => exact wpAny_tryCompare_declines (show s.TypeIs .none "NoneType" from rfl) PySem.F.slot_NoneType_eq_refl (call_gives PySem.F.slot_NoneType_eq_refl rfl PySem.F.entry_NoneType_eq (PySem.F.args_NoneType_eq_2 _ _) (NoneType___eq___none_ref_0 b) ⟨rfl, q⟩)
  | bl k => exact wpAny_tryCompare_declines (show s.TypeIs (.bool k) "bool" from rfl) PySem.F.slot_bool_eq_refl (call_meets PySem.F.slot_bool_eq_refl (show s.TypeIs (.bool k) "bool" from rfl) PySem.F.entry_int_eq (PySem.F.args_int_eq_2 _ _) (bool_eq_ins _ _ _ _ _) ⟨ho, rfl, q⟩)
  | int i tk => exact wpAny_tryCompare_declines (typeIs_int s i tk) PySem.F.slot_int_eq_refl (call_meets PySem.F.slot_int_eq_refl (typeIs_int s i tk) PySem.F.entry_int_eq (PySem.F.args_int_eq_2 _ _) (int_eq_ins _ _ _ _ _ _) ⟨ho, rfl, q⟩)
  | str i tk => exact wpAny_tryCompare_declines (typeIs_str s i tk) PySem.F.slot_str_eq_refl (call_meets PySem.F.slot_str_eq_refl (typeIs_str s i tk) PySem.F.entry_str_eq (PySem.F.args_str_eq_2 _ _) (str_eq_ins _ _ _ _ _ _) ⟨ho, rfl, q⟩)
theorem entry_sc {Q : Fin → Shared → Prop} (h : ScV x v t) (hq : Q (.done (.ret .notImplemented)) s) : wpAny (model prog w) A (Builtin.«object.__eq__» ⟨[.ref a, v], []⟩) Q E s := by
  have h1 : isSame (.ref a) v = pure false := by cases h <;> rfl
  unfold Builtin.«object.__eq__»
  repeat (first | with_reducible refine wpAny_of_eq h1 ?_ | wp_step)
  exact hq
/-- object.__eq__ of an instance -/
theorem ob_sc {Q : Value → Shared → Prop} (X : K.In s.heap) (I : PySem.W.InstAt s.heap a ox C od) (T : IdC K C) (h : ScV x v t) (hq : Q .notImplemented s) :
    wpAny (model prog w) A (call (.builtin "object.__eq__") [.ref a, v]) Q E s :=
  wpAny_call (codeAny_call_builtin PySem.F.cmp_object.eq.plain PySem.F.cmpEntry_eq (PySem.W.check_slot PySem.F.cmpKind_eq PySem.F.cmpSplit_eq (I.type.andThen (PySem.W.looks_mroIn X T.hm)) (PySem.F.cmpArgs_eq _ _) (entry_sc h hq)))
theorem ob_in {Q : Value → Shared → Prop} (X : K.In s.heap) (I : PySem.W.InstAt s.heap a ox C od) (J : PySem.W.InstAt s.heap b oy C' oe) (T : IdC K C) (hab : a ≠ b) (hq : Q .notImplemented s) :
    wpAny (model prog w) A (call (.builtin "object.__eq__") [.ref a, .ref b]) Q E s :=
  wpAny_call (codeAny_call_builtin PySem.F.cmp_object.eq.plain PySem.F.cmpEntry_eq (PySem.W.check_slot PySem.F.cmpKind_eq PySem.F.cmpSplit_eq (I.type.andThen (PySem.W.looks_mroIn X T.hm)) (PySem.F.cmpArgs_eq _ _) (objEq_entry_other hab I.1 J.1 (inst_nt I) hq)))
theorem in_eq_sc {Q : Option Value → Shared → Prop} (X : K.In s.heap) (I : PySem.W.InstAt s.heap a ox C od) (T : IdC K C) (h : ScV x v t) (hq : Q none s) : wpAny (model prog w) A (tryCompare (.ref a) "__eq__" v) Q E s := by
  unfold tryCompare
  exact wpAny_bind (ifBound_objEq X I T.he (ob_sc X I T h (wpAny_pure hq)))
theorem in_eq_in {Q : Option Value → Shared → Prop} (X : K.In s.heap) (I : PySem.W.InstAt s.heap a ox C od) (J : PySem.W.InstAt s.heap b oy C' oe) (T : IdC K C) (hab : a ≠ b) (hq : Q none s) : wpAny (model prog w) A (tryCompare (.ref a) "__eq__" (.ref b)) Q E s := by
  unfold tryCompare
  exact wpAny_bind (ifBound_objEq X I T.he (ob_in X I J T hab (wpAny_pure hq)))
/-- object.__ne__ asks __eq__ -/
theorem in_ne {u : Value} {Q : Option Value → Shared → Prop} (hu : A.units + 1 < cLine) (X : K.In s.heap) (I : PySem.W.InstAt s.heap a ox C od) (T : IdC K C) (hne : PySem.W.findIn K (.ref C) "__ne__" = some (some (.builtin "object.__ne__")))
    (he : ∀ (A' : Around) (R : Value → Shared → Prop) (E' : Value → Shared → Prop), R .notImplemented s → wpAny (model prog w) A' (call (.builtin "object.__eq__") [.ref a, u]) R E' s) (hq : Q none s) : wpAny (model prog w) A (tryCompare (.ref a) "__ne__" u) Q E s := by
  unfold tryCompare
  refine wpAny_bind (ifBound_objNe X I hne ?_)
  refine wpAny_call (codeAny_call_builtin PySem.F.cmp_object.ne.plain PySem.F.cmpEntry_ne (PySem.W.check_slot PySem.F.cmpKind_ne PySem.F.cmpSplit_ne (I.type.andThen (PySem.W.looks_mroIn X T.hm)) (PySem.F.cmpArgs_ne _ _) ?_))
  unfold Builtin.«object.__ne__»
  refine wpAny_bind (wpAny_of_eq (a := ((Value.ref a : Value), [u])) (by first | rfl | (simp only [slotArgs]; rfl)) ?_)
  refine wpAny_bind (wpAny_cRoomFor (by show A.units + 1 < cLine; omega) ?_)
  refine wpAny_bind (ifBound_objEq X I T.he ?_)
  exact he _ _ _ (wpAny_pure (wpAny_pure hq))
theorem in_ne_same {Q : Option Value → Shared → Prop} (hu : A.units + 1 < cLine) (X : K.In s.heap) (I : PySem.W.InstAt s.heap a ox C od) (T : IdC K C) (hne : PySem.W.findIn K (.ref C) "__ne__" = some (some (.builtin "object.__ne__"))) (hq : Q (some (.bool false)) s) : wpAny (model prog w) A (tryCompare (.ref a) "__ne__" (.ref a)) Q E s := by
  unfold tryCompare
  refine wpAny_bind (ifBound_objNe X I hne ?_)
  refine wpAny_call (codeAny_call_builtin PySem.F.cmp_object.ne.plain PySem.F.cmpEntry_ne (PySem.W.check_slot PySem.F.cmpKind_ne PySem.F.cmpSplit_ne (I.type.andThen (PySem.W.looks_mroIn X T.hm)) (PySem.F.cmpArgs_ne _ _) ?_))
  unfold Builtin.«object.__ne__»
  refine wpAny_bind (wpAny_of_eq (a := ((Value.ref a : Value), [Value.ref a])) (by first | rfl | (simp only [slotArgs]; rfl)) ?_)
  refine wpAny_bind (wpAny_cRoomFor (by show A.units + 1 < cLine; omega) ?_)
  refine wpAny_bind (ifBound_objEq X I T.he ?_)
  refine obj_same X I T ?_
  refine wpAny_bind (wpAny_of_eq (a := true) (by first | rfl | (simp only [truthy]; rfl)) ?_)
  exact wpAny_pure (wpAny_pure hq)
/-! the whole comparison -/
theorem rcne_sc_in {Q : Value → Shared → Prop} (hu : A.units + 1 < cLine) (X : K.In s.heap) (J : PySem.W.InstAt s.heap b (PySem.W.instObj C dx) C oe) (T : IdC K C) (hne : PySem.W.findIn K (.ref C) "__ne__" = some (some (.builtin "object.__ne__"))) (hsub : PySem.W.subIn K (.ref C) (.type t) = some false) (h : ScV x v t) (hq : Q (.bool true) s) : wpAny (model prog w) A (richCompare .NotEq v (.ref b)) Q E s := by
  have h0 : oneThing? .NotEq v (.ref b) = none := by cases h <;> rfl
  simp only [richCompare, cmpInfo_NotEq, h0]
  refine wpAny_holding (wpAny_bind (wpAny_cRoomFor (by omega) ?_))
  refine wpAny_bind (wpAny_typeOf (h.ty s) (wpAny_bind (J.type.here ?_)))
  split
  · refine wpAny_bind ((PySem.W.looks_subIn X hsub).here ?_)
    simp only [Bool.false_eq_true, if_false, Bool.not_false, if_true]
    refine wpAny_bind (m := tryCompare v _ (.ref b)) (sc_ne h J.1 ?_)
    refine wpAny_bind (m := tryCompare (.ref b) _ v) (in_ne hu X J T hne (fun A' R E' q => ob_sc X J T h q) ?_)
    exact wpAny_bind (wpAny_rule (wpAny_bind (wpAny_of_eq (a := false) (by cases h <;> rfl) (wpAny_pure hq))))
  · rename_i q
    exact absurd (by cases h <;> simp) q
theorem rcne_in_sc {Q : Value → Shared → Prop} (hu : A.units + 1 < cLine) (X : K.In s.heap) (J : PySem.W.InstAt s.heap b (PySem.W.instObj C dx) C oe) (T : IdC K C) (hne : PySem.W.findIn K (.ref C) "__ne__" = some (some (.builtin "object.__ne__"))) (h : ScV x v t) (hq : Q (.bool true) s) : wpAny (model prog w) A (richCompare .NotEq (.ref b) v) Q E s := by
  have h0 : oneThing? .NotEq (.ref b) v = none := by cases h <;> rfl
  simp only [richCompare, cmpInfo_NotEq, h0]
  refine wpAny_holding (wpAny_bind (wpAny_cRoomFor (by omega) ?_))
  refine wpAny_bind (J.type.here (wpAny_bind (wpAny_typeOf (h.ty s) ?_)))
  split
  · refine wpAny_bind ((PySem.W.looks_subIn X (by cases h <;> rfl : PySem.W.subIn K (.type t) (.ref C) = some false)).here ?_)
    simp only [Bool.false_eq_true, if_false, Bool.not_false, if_true]
    refine wpAny_bind (m := tryCompare (.ref b) _ v) (in_ne hu X J T hne (fun A' R E' q => ob_sc X J T h q) ?_)
    refine wpAny_bind (m := tryCompare v _ (.ref b)) (sc_ne h J.1 ?_)
    exact wpAny_bind (wpAny_rule (wpAny_bind (wpAny_of_eq (a := false) (by cases h <;> rfl) (wpAny_pure hq))))
  · rename_i q
    exact absurd (by cases h <;> simp) q
theorem rcne_in_in {Q : Value → Shared → Prop} (hu : A.units + 1 < cLine) (X : K.In s.heap) (I : PySem.W.InstAt s.heap a ox C od) (J : PySem.W.InstAt s.heap b oy C' oe) (T : IdC K C) (hne : PySem.W.findIn K (.ref C) "__ne__" = some (some (.builtin "object.__ne__"))) (T' : IdC K C') (hne' : PySem.W.findIn K (.ref C') "__ne__" = some (some (.builtin "object.__ne__")))
    (hsub : C ≠ C' → PySem.W.subIn K (.ref C') (.ref C) = some false) (hab : a ≠ b) (hq : Q (.bool true) s) : wpAny (model prog w) A (richCompare .NotEq (.ref a) (.ref b)) Q E s := by
  simp only [richCompare, cmpInfo_NotEq, oneThing_ref]
  refine wpAny_holding (wpAny_bind (wpAny_cRoomFor (by omega) ?_))
  refine wpAny_bind (I.type.here (wpAny_bind (J.type.here ?_)))
  have last : wpAny (model prog w) A (tryCompare (.ref a) "__ne__" (.ref b)) (fun r s' => r = none ∧ s' = s) E s := in_ne hu X I T hne (fun A' R E' q => ob_in X I J T hab q) ⟨rfl, rfl⟩
  have last2 : wpAny (model prog w) A (tryCompare (.ref b) "__ne__" (.ref a)) (fun r s' => r = none ∧ s' = s) E s := in_ne hu X J T' hne' (fun A' R E' q => ob_in X J I T' hab.symm q) ⟨rfl, rfl⟩
  by_cases hC : C = C'
  · subst hC
    simp only [bne_self_eq_false, Bool.false_eq_true, if_false]
    refine wpAny_bind (wpAny_pure (wpAny_bind (m := tryCompare (.ref a) _ (.ref b)) (wpAny_mono last (fun r s' z => ?_) fun _ _ z => z)))
    obtain ⟨rfl, rfl⟩ := z
    simp only [Bool.false_eq_true, if_false, Bool.not_false, if_true]
    refine wpAny_bind (m := tryCompare (.ref b) _ (.ref a)) (wpAny_mono last2 (fun r s' z => ?_) fun _ _ z => z)
    obtain ⟨rfl, rfl⟩ := z
    exact wpAny_bind (wpAny_rule (wpAny_bind (wpAny_isSame_ref_other hab I.1 J.1 (inst_nt I) (wpAny_pure hq))))
  · split
    · refine wpAny_bind ((PySem.W.looks_subIn X (hsub hC)).here ?_)
      simp only [Bool.false_eq_true, if_false, Bool.not_false, if_true]
      refine wpAny_bind (m := tryCompare (.ref a) _ (.ref b)) (wpAny_mono last (fun r s' z => ?_) fun _ _ z => z)
      obtain ⟨rfl, rfl⟩ := z
      refine wpAny_bind (m := tryCompare (.ref b) _ (.ref a)) (wpAny_mono last2 (fun r s' z => ?_) fun _ _ z => z)
      obtain ⟨rfl, rfl⟩ := z
      exact wpAny_bind (wpAny_rule (wpAny_bind (wpAny_isSame_ref_other hab I.1 J.1 (inst_nt I) (wpAny_pure hq))))
    · rename_i q
      exact absurd (by simpa using hC) q
theorem rcne_same {Q : Value → Shared → Prop} (hu : A.units + 1 < cLine) (X : K.In s.heap) (I : PySem.W.InstAt s.heap a ox C od) (T : IdC K C) (hne : PySem.W.findIn K (.ref C) "__ne__" = some (some (.builtin "object.__ne__"))) (hq : Q (.bool false) s) : wpAny (model prog w) A (richCompare .NotEq (.ref a) (.ref a)) Q E s := by
  simp only [richCompare, cmpInfo_NotEq, oneThing_ref]
  refine wpAny_holding (wpAny_bind (wpAny_cRoomFor (by omega) ?_))
  refine wpAny_bind (I.type.here (wpAny_bind (I.type.here ?_)))
  simp only [bne_self_eq_false, Bool.false_eq_true, if_false]
  refine wpAny_bind (wpAny_pure (wpAny_bind (m := tryCompare (.ref a) _ (.ref a)) (in_ne_same hu X I T hne ?_)))
  exact wpAny_pure hq
/-! == -/
theorem rceq_sc_in {Q : Value → Shared → Prop} (hu : A.units + 1 < cLine) (X : K.In s.heap) (J : PySem.W.InstAt s.heap b (PySem.W.instObj C dx) C oe) (T : IdC K C) (hsub : PySem.W.subIn K (.ref C) (.type t) = some false) (h : ScV x v t) (hq : Q (.bool false) s) : wpAny (model prog w) A (richCompare .Eq v (.ref b)) Q E s := by
  have h0 : oneThing? .Eq v (.ref b) = none := by cases h <;> rfl
  simp only [richCompare, cmpInfo_Eq, h0]
  refine wpAny_holding (wpAny_bind (wpAny_cRoomFor (by omega) ?_))
  refine wpAny_bind (wpAny_typeOf (h.ty s) (wpAny_bind (J.type.here ?_)))
  split
  · refine wpAny_bind ((PySem.W.looks_subIn X hsub).here ?_)
    simp only [Bool.false_eq_true, if_false, Bool.not_false, if_true]
    refine wpAny_bind (m := tryCompare v _ (.ref b)) (sc_eq h J.1 ?_)
    refine wpAny_bind (m := tryCompare (.ref b) _ v) (in_eq_sc X J T h ?_)
    exact wpAny_bind (wpAny_rule (wpAny_bind (wpAny_of_eq (a := false) (by cases h <;> rfl) (wpAny_pure hq))))
  · rename_i q
    exact absurd (by cases h <;> simp) q
theorem rceq_in_sc {Q : Value → Shared → Prop} (hu : A.units + 1 < cLine) (X : K.In s.heap) (J : PySem.W.InstAt s.heap b (PySem.W.instObj C dx) C oe) (T : IdC K C) (h : ScV x v t) (hq : Q (.bool false) s) : wpAny (model prog w) A (richCompare .Eq (.ref b) v) Q E s := by
  have h0 : oneThing? .Eq (.ref b) v = none := by cases h <;> rfl
  simp only [richCompare, cmpInfo_Eq, h0]
  refine wpAny_holding (wpAny_bind (wpAny_cRoomFor (by omega) ?_))
  refine wpAny_bind (J.type.here (wpAny_bind (wpAny_typeOf (h.ty s) ?_)))
  split
  · refine wpAny_bind ((PySem.W.looks_subIn X (by cases h <;> rfl : PySem.W.subIn K (.type t) (.ref C) = some false)).here ?_)
    simp only [Bool.false_eq_true, if_false, Bool.not_false, if_true]
    refine wpAny_bind (m := tryCompare (.ref b) _ v) (in_eq_sc X J T h ?_)
    refine wpAny_bind (m := tryCompare v _ (.ref b)) (sc_eq h J.1 ?_)
    exact wpAny_bind (wpAny_rule (wpAny_bind (wpAny_of_eq (a := false) (by cases h <;> rfl) (wpAny_pure hq))))
  · rename_i q
    exact absurd (by cases h <;> simp) q
theorem rceq_in_in {Q : Value → Shared → Prop} (hu : A.units + 1 < cLine) (X : K.In s.heap) (I : PySem.W.InstAt s.heap a ox C od) (J : PySem.W.InstAt s.heap b oy C' oe) (T : IdC K C) (T' : IdC K C')
    (hsub : C ≠ C' → PySem.W.subIn K (.ref C') (.ref C) = some false) (hab : a ≠ b) (hq : Q (.bool false) s) : wpAny (model prog w) A (richCompare .Eq (.ref a) (.ref b)) Q E s := by
  simp only [richCompare, cmpInfo_Eq, oneThing_ref]
  refine wpAny_holding (wpAny_bind (wpAny_cRoomFor (by omega) ?_))
  refine wpAny_bind (I.type.here (wpAny_bind (J.type.here ?_)))
  have last : wpAny (model prog w) A (tryCompare (.ref a) "__eq__" (.ref b)) (fun r s' => r = none ∧ s' = s) E s := in_eq_in X I J T hab ⟨rfl, rfl⟩
  have last2 : wpAny (model prog w) A (tryCompare (.ref b) "__eq__" (.ref a)) (fun r s' => r = none ∧ s' = s) E s := in_eq_in X J I T' hab.symm ⟨rfl, rfl⟩
  by_cases hC : C = C'
  · subst hC
    simp only [bne_self_eq_false, Bool.false_eq_true, if_false]
    refine wpAny_bind (wpAny_pure (wpAny_bind (m := tryCompare (.ref a) _ (.ref b)) (wpAny_mono last (fun r s' z => ?_) fun _ _ z => z)))
    obtain ⟨rfl, rfl⟩ := z
    simp only [Bool.false_eq_true, if_false, Bool.not_false, if_true]
    refine wpAny_bind (m := tryCompare (.ref b) _ (.ref a)) (wpAny_mono last2 (fun r s' z => ?_) fun _ _ z => z)
    obtain ⟨rfl, rfl⟩ := z
    exact wpAny_bind (wpAny_rule (wpAny_bind (wpAny_isSame_ref_other hab I.1 J.1 (inst_nt I) (wpAny_pure hq))))
  · split
    · refine wpAny_bind ((PySem.W.looks_subIn X (hsub hC)).here ?_)
      simp only [Bool.false_eq_true, if_false, Bool.not_false, if_true]
      refine wpAny_bind (m := tryCompare (.ref a) _ (.ref b)) (wpAny_mono last (fun r s' z => ?_) fun _ _ z => z)
      obtain ⟨rfl, rfl⟩ := z
      refine wpAny_bind (m := tryCompare (.ref b) _ (.ref a)) (wpAny_mono last2 (fun r s' z => ?_) fun _ _ z => z)
      obtain ⟨rfl, rfl⟩ := z
      exact wpAny_bind (wpAny_rule (wpAny_bind (wpAny_isSame_ref_other hab I.1 J.1 (inst_nt I) (wpAny_pure hq))))
    · rename_i q
      exact absurd (by simpa using hC) q
end
/-! ### as rules -/
/-- a value that is no sequence: a scalar, or an instance of one of these classes -/
inductive IsV (Cs : List Addr) (H : Hp) : V → Prop where
  | sc {x : V} : isSc x = true → IsV Cs H x
  | ins {C a dx : Addr} {fs : List (Str × V)} : C ∈ Cs → H a = some (.ins C dx fs) → IsV Cs H (.ref a)
/-- at least one is an instance -/
def rNeIS (Cs : List Addr) : R2 := fun x y H Q => IsV Cs H x ∧ IsV Cs H y ∧ (isSc x = true → isSc y = false) ∧ Q (.bl (!decide (x = y))) H
def rEqIS (Cs : List Addr) : R2 := fun x y H Q => IsV Cs H x ∧ IsV Cs H y ∧ (isSc x = true → isSc y = false) ∧ Q (.bl (decide (x = y))) H
theorem sc_ne_ref {x : V} {a : Addr} (h : isSc x = true) : x ≠ .ref a := fun z => by subst z; cases h
section
variable {X : Cx} {Cs : List Addr}
theorem op_neIS (T : IdCs X.K Cs) (hu : X.A.units + 64 < cLine) : OpR X (compareOp .NotEq) (rNeIS Cs) := by
  intro pins s σ H x y v u Q I rx ry ⟨hx, hy, hn, q⟩
  have hu0 : X.A.units + 1 < cLine := by omega
  show wpAny (model X.prog X.w) X.A (richCompare .NotEq v u) (EP X pins σ Q) X.xe s
  cases hx with
  | sc hx =>
    obtain ⟨t, sv⟩ := sc_of hx rx
    cases hy with
    | sc hy => rw [hn hx] at hy; cases hy
    | @ins C b dx fs hC hb =>
      cases ry
      obtain ⟨mB, O, _⟩ := ins_get I.hok hb
      obtain ⟨oe, J, _⟩ := O.look
      rw [decide_eq_false (sc_ne_ref hx)] at q
      exact rcne_sc_in hu0 I.kIn J (T.id C hC) (T.ne C hC) (T.subT C hC t sv.mem) sv ⟨.bl true, H, I, rfl, q⟩
  | @ins C a dx fs hC ha =>
    cases rx
    obtain ⟨mA, O, _⟩ := ins_get I.hok ha
    obtain ⟨od, J, _⟩ := O.look
    cases hy with
    | sc hy =>
      obtain ⟨t, sv⟩ := sc_of hy ry
      rw [decide_eq_false (fun z => sc_ne_ref hy z.symm)] at q
      exact rcne_in_sc hu0 I.kIn J (T.id C hC) (T.ne C hC) sv ⟨.bl true, H, I, rfl, q⟩
    | @ins C' b dy gs hC' hb =>
      cases ry
      obtain ⟨mB, O2, _⟩ := ins_get I.hok hb
      obtain ⟨oe, J2, _⟩ := O2.look
      by_cases hab : a = b
      · subst hab
        rw [decide_eq_true rfl] at q
        exact rcne_same hu0 I.kIn J (T.id C hC) (T.ne C hC) ⟨.bl false, H, I, rfl, q⟩
      · rw [decide_eq_false (fun z => hab (by injection z))] at q
        exact rcne_in_in hu0 I.kIn J J2 (T.id C hC) (T.ne C hC) (T.id C' hC') (T.ne C' hC') (fun z => T.sub C' hC' C hC (fun y => z y.symm)) hab ⟨.bl true, H, I, rfl, q⟩
theorem op_eqIS (T : IdCs X.K Cs) (hu : X.A.units + 64 < cLine) : OpR X (compareOp .Eq) (rEqIS Cs) := by
  intro pins s σ H x y v u Q I rx ry ⟨hx, hy, hn, q⟩
  have hu0 : X.A.units + 1 < cLine := by omega
  show wpAny (model X.prog X.w) X.A (richCompare .Eq v u) (EP X pins σ Q) X.xe s
  cases hx with
  | sc hx =>
    obtain ⟨t, sv⟩ := sc_of hx rx
    cases hy with
    | sc hy => rw [hn hx] at hy; cases hy
    | @ins C b dx fs hC hb =>
      cases ry
      obtain ⟨mB, O, _⟩ := ins_get I.hok hb
      obtain ⟨oe, J, _⟩ := O.look
      rw [decide_eq_false (sc_ne_ref hx)] at q
      exact rceq_sc_in hu0 I.kIn J (T.id C hC) (T.subT C hC t sv.mem) sv ⟨.bl false, H, I, rfl, q⟩
  | @ins C a dx fs hC ha =>
    cases rx
    obtain ⟨mA, O, _⟩ := ins_get I.hok ha
    obtain ⟨od, J, _⟩ := O.look
    cases hy with
    | sc hy =>
      obtain ⟨t, sv⟩ := sc_of hy ry
      rw [decide_eq_false (fun z => sc_ne_ref hy z.symm)] at q
      exact rceq_in_sc hu0 I.kIn J (T.id C hC) sv ⟨.bl false, H, I, rfl, q⟩
    | @ins C' b dy gs hC' hb =>
      cases ry
      obtain ⟨mB, O2, _⟩ := ins_get I.hok hb
      obtain ⟨oe, J2, _⟩ := O2.look
      by_cases hab : a = b
      · subst hab
        rw [decide_eq_true rfl] at q
        exact rc_same (by omega) I.kIn J (T.id C hC) ⟨.bl true, H, I, rfl, q⟩
      · rw [decide_eq_false (fun z => hab (by injection z))] at q
        exact rceq_in_in hu0 I.kIn J J2 (T.id C hC) (T.id C' hC') (fun z => T.sub C' hC' C hC (fun y => z y.symm)) hab ⟨.bl false, H, I, rfl, q⟩
end
end Up

set_option Elab.async false
set_option linter.all false
set_option maxRecDepth 100000
set_option maxHeartbeats 4000000
namespace Up
open PySem PySem.Spec PyProof.Rows L2 PySem.SeqAt
/-! ### == of lists and tuples whose parts are the same, one by one -/
def okV : V → Prop
  | .non => True
  | .bl _ => True
  | .int _ => True
  | .str _ => True
  | .ref _ => True
  | _ => False
inductive DS (K : PySem.W.Frag) (H : Hp) : Nat → V → V → Prop
  | same {n : Nat} {v : V} : okV v → DS K H n v v
  | tup {n : Nat} {a b : Addr} {xs ys : List V} : SqT K H a xs → SqT K H b ys → xs.length = ys.length → (∀ (i : Nat) (x y : V), xs[i]? = some x → ys[i]? = some y → DS K H n x y) → DS K H (n + 1) (.ref a) (.ref b)
  | lst {n : Nat} {a b : Addr} {xs ys : List V} : SqL K H a xs → SqL K H b ys → xs.length = ys.length → (∀ (i : Nat) (x y : V), xs[i]? = some x → ys[i]? = some y → DS K H n x y) → DS K H (n + 1) (.ref a) (.ref b)
/-- two sequences, one by one -/
inductive DTop (K : PySem.W.Frag) (H : Hp) (n : Nat) : V → V → Prop
  | tup {a b : Addr} {xs ys : List V} : SqT K H a xs → SqT K H b ys → xs.length = ys.length → (∀ (i : Nat) (x y : V), xs[i]? = some x → ys[i]? = some y → DS K H n x y) → DTop K H n (.ref a) (.ref b)
  | lst {a b : Addr} {xs ys : List V} : SqL K H a xs → SqL K H b ys → xs.length = ys.length → (∀ (i : Nat) (x y : V), xs[i]? = some x → ys[i]? = some y → DS K H n x y) → DTop K H n (.ref a) (.ref b)
theorem range_all (n : Nat) : (List.range n).all (fun _ => true) = true := by simp
theorem DS.eqAt {X : Cx} {pins : List (Addr × Obj)} {σ : L2.St} {H : Hp} {s : Shared} (I : Inv X pins σ H s) {n : Nat} {x y : V} (h : DS X.K H n x y) : ∀ {v u : Value} {A : Around}, RelV x v → RelV y u → A.units + n < cLine → EqAt A s v u true := by
  induction h with
  | @same n x hx =>
    intro v u A r1 r2 _
    cases x with
    | non => cases r1; cases r2; exact EqAt.same _
    | bl b => cases r1; cases r2; exact EqAt.same _
    | int i =>
      obtain ⟨t, rfl⟩ := r1
      obtain ⟨t', rfl⟩ := r2
      have := EqAt.int_int (A := A) (s := s) i t i t'
      rw [show (i == i) = true by simp] at this
      exact this
    | str i =>
      obtain ⟨t, rfl⟩ := r1
      obtain ⟨t', rfl⟩ := r2
      have := EqAt.str_str (A := A) (s := s) i t i t'
      rw [show (i == i) = true by simp] at this
      exact this
    | ref a => cases r1; cases r2; exact EqAt.same _
    | _ => exact hx.elim
  | @tup n a b xs ys ha hb hl _ ih =>
    intro v u A r1 r2 hu
    cases r1
    cases r2
    by_cases hab : a = b
    · subst hab; exact EqAt.same _
    · refine EqAt.of_refs hab ?_
      obtain ⟨its, q1, p1, _⟩ := I.tuple ha
      obtain ⟨jts, q2, p2, _⟩ := I.tuple hb
      have l1 := q1.length
      have l2 := q2.length
      have h1 := RcAt.tuples (A := A) (e := fun _ => true) p1 p2 (by omega) (fun j h1 h2 => by
        obtain ⟨x, ex⟩ : ∃ x, xs[j]? = some x := ⟨_, List.getElem?_eq_getElem (by simp at h1; omega)⟩
        obtain ⟨y, ey⟩ : ∃ y, ys[j]? = some y := ⟨_, List.getElem?_eq_getElem (by simp at h2; omega)⟩
        obtain ⟨w1, e1, rw1⟩ := q1.get ex
        obtain ⟨w2, e2, rw2⟩ := q2.get ey
        have f1 : its.toArray[j] = w1 := by have := List.getElem?_eq_some_iff.mp e1; obtain ⟨_, z⟩ := this; simpa using z
        have f2 : jts.toArray[j] = w2 := by have := List.getElem?_eq_some_iff.mp e2; obtain ⟨_, z⟩ := this; simpa using z
        rw [f1, f2]
        exact ih j x y ex ey rw1 rw2 (by show A.units + 1 + n < cLine; omega))
      have e : ((List.range (min its.toArray.size jts.toArray.size)).all (fun _ => true) && its.toArray.size == jts.toArray.size) = true := by
        rw [range_all, List.size_toArray, List.size_toArray, ← l1, ← l2, hl]
        simp
      rw [e] at h1
      exact h1
  | @lst n a b xs ys ha hb hl _ ih =>
    intro v u A r1 r2 hu
    cases r1
    cases r2
    by_cases hab : a = b
    · subst hab; exact EqAt.same _
    · refine EqAt.of_refs hab ?_
      obtain ⟨its, q1, p1, _⟩ := I.list ha
      obtain ⟨jts, q2, p2, _⟩ := I.list hb
      have l1 := q1.length
      have l2 := q2.length
      have h1 := RcAt.lists (A := A) (e := fun _ => true) p1.isList p2.isList (by rw [List.size_toArray, List.size_toArray, ← l1, ← l2, hl]) (by omega) (fun j h1 h2 => by
        obtain ⟨x, ex⟩ : ∃ x, xs[j]? = some x := ⟨_, List.getElem?_eq_getElem (by simp at h1; omega)⟩
        obtain ⟨y, ey⟩ : ∃ y, ys[j]? = some y := ⟨_, List.getElem?_eq_getElem (by simp at h2; omega)⟩
        obtain ⟨w1, e1, rw1⟩ := q1.get ex
        obtain ⟨w2, e2, rw2⟩ := q2.get ey
        have f1 : its.toArray[j] = w1 := by have := List.getElem?_eq_some_iff.mp e1; obtain ⟨_, z⟩ := this; simpa using z
        have f2 : jts.toArray[j] = w2 := by have := List.getElem?_eq_some_iff.mp e2; obtain ⟨_, z⟩ := this; simpa using z
        rw [f1, f2]
        exact ih j x y ex ey rw1 rw2 (by show A.units + 1 + n < cLine; omega))
      rw [range_all] at h1
      exact h1
section
variable {X : Cx}
def oEqDS (K : PySem.W.Frag) : R2 := fun x y H Q => ∃ n, n ≤ 60 ∧ DTop K H n x y ∧ Q (.bl true) H
def oNeDS (K : PySem.W.Frag) : R2 := fun x y H Q => ∃ n, n ≤ 60 ∧ DTop K H n x y ∧ Q (.bl false) H
theorem op_eqDS (hu : X.A.units + 64 < cLine) : OpR X (compareOp .Eq) (oEqDS X.K) := by
  intro pins s σ H x y v u Q I rx ry h
  obtain ⟨n, hn, d, q⟩ := h
  cases d with
  | @tup a b xs ys ha hb hl hd =>
    cases rx
    cases ry
    obtain ⟨its, q1, p1, _⟩ := I.tuple ha
    obtain ⟨jts, q2, p2, _⟩ := I.tuple hb
    have l1 := q1.length
    have l2 := q2.length
    refine eq_tupleAt (e := fun _ => true) p1 p2 (by omega) (fun j h1 h2 => ?_) ?_
    · obtain ⟨x, ex⟩ : ∃ x, xs[j]? = some x := ⟨_, List.getElem?_eq_getElem (by simp at h1; omega)⟩
      obtain ⟨y, ey⟩ : ∃ y, ys[j]? = some y := ⟨_, List.getElem?_eq_getElem (by simp at h2; omega)⟩
      obtain ⟨w1, e1, rw1⟩ := q1.get ex
      obtain ⟨w2, e2, rw2⟩ := q2.get ey
      have f1 : its.toArray[j] = w1 := by have := List.getElem?_eq_some_iff.mp e1; obtain ⟨_, z⟩ := this; simpa using z
      have f2 : jts.toArray[j] = w2 := by have := List.getElem?_eq_some_iff.mp e2; obtain ⟨_, z⟩ := this; simpa using z
      rw [f1, f2]
      exact (hd j x y ex ey).eqAt I rw1 rw2 (by show X.A.units + 1 + n < cLine; omega)
    · have e : ((List.range (min its.toArray.size jts.toArray.size)).all (fun _ => true) && its.toArray.size == jts.toArray.size) = true := by
        rw [range_all, List.size_toArray, List.size_toArray, ← l1, ← l2, hl]
        simp
      rw [e]
      exact ⟨.bl true, H, I, rfl, q⟩
  | @lst a b xs ys ha hb hl hd =>
    cases rx
    cases ry
    obtain ⟨its, q1, p1, _⟩ := I.list ha
    obtain ⟨jts, q2, p2, _⟩ := I.list hb
    have l1 := q1.length
    have l2 := q2.length
    refine eq_listAt (e := fun _ => true) p1.isList p2.isList (by rw [List.size_toArray, List.size_toArray, ← l1, ← l2, hl]) (by omega) (fun j h1 h2 => ?_) ?_
    · obtain ⟨x, ex⟩ : ∃ x, xs[j]? = some x := ⟨_, List.getElem?_eq_getElem (by simp at h1; omega)⟩
      obtain ⟨y, ey⟩ : ∃ y, ys[j]? = some y := ⟨_, List.getElem?_eq_getElem (by simp at h2; omega)⟩
      obtain ⟨w1, e1, rw1⟩ := q1.get ex
      obtain ⟨w2, e2, rw2⟩ := q2.get ey
      have f1 : its.toArray[j] = w1 := by have := List.getElem?_eq_some_iff.mp e1; obtain ⟨_, z⟩ := this; simpa using z
      have f2 : jts.toArray[j] = w2 := by have := List.getElem?_eq_some_iff.mp e2; obtain ⟨_, z⟩ := this; simpa using z
      rw [f1, f2]
      exact (hd j x y ex ey).eqAt I rw1 rw2 (by show X.A.units + 1 + n < cLine; omega)
    · rw [range_all]
      exact ⟨.bl true, H, I, rfl, q⟩
theorem op_neDS (hu : X.A.units + 64 < cLine) : OpR X (compareOp .NotEq) (oNeDS X.K) := by
  intro pins s σ H x y v u Q I rx ry h
  obtain ⟨n, hn, d, q⟩ := h
  cases d with
  | @tup a b xs ys ha hb hl hd =>
    cases rx
    cases ry
    obtain ⟨its, q1, p1, _⟩ := I.tuple ha
    obtain ⟨jts, q2, p2, _⟩ := I.tuple hb
    have l1 := q1.length
    have l2 := q2.length
    refine RcNeAt.tuples (e := fun _ => true) p1 p2 (by omega) (fun j h1 h2 => ?_) _ _ _ _ ?_
    · obtain ⟨x, ex⟩ : ∃ x, xs[j]? = some x := ⟨_, List.getElem?_eq_getElem (by simp at h1; omega)⟩
      obtain ⟨y, ey⟩ : ∃ y, ys[j]? = some y := ⟨_, List.getElem?_eq_getElem (by simp at h2; omega)⟩
      obtain ⟨w1, e1, rw1⟩ := q1.get ex
      obtain ⟨w2, e2, rw2⟩ := q2.get ey
      have f1 : its.toArray[j] = w1 := by have := List.getElem?_eq_some_iff.mp e1; obtain ⟨_, z⟩ := this; simpa using z
      have f2 : jts.toArray[j] = w2 := by have := List.getElem?_eq_some_iff.mp e2; obtain ⟨_, z⟩ := this; simpa using z
      rw [f1, f2]
      exact (hd j x y ex ey).eqAt I rw1 rw2 (by show X.A.units + 1 + n < cLine; omega)
    · have e : ((List.range (min its.toArray.size jts.toArray.size)).all (fun _ => true) && its.toArray.size == jts.toArray.size) = true := by
        rw [range_all, List.size_toArray, List.size_toArray, ← l1, ← l2, hl]
        simp
      rw [e]
      exact ⟨.bl false, H, I, rfl, q⟩
  | @lst a b xs ys ha hb hl hd =>
    cases rx
    cases ry
    obtain ⟨its, q1, p1, _⟩ := I.list ha
    obtain ⟨jts, q2, p2, _⟩ := I.list hb
    have l1 := q1.length
    have l2 := q2.length
    refine RcNeAt.lists (e := fun _ => true) p1.isList p2.isList (by rw [List.size_toArray, List.size_toArray, ← l1, ← l2, hl]) (by omega) (fun j h1 h2 => ?_) _ _ _ _ ?_
    · obtain ⟨x, ex⟩ : ∃ x, xs[j]? = some x := ⟨_, List.getElem?_eq_getElem (by simp at h1; omega)⟩
      obtain ⟨y, ey⟩ : ∃ y, ys[j]? = some y := ⟨_, List.getElem?_eq_getElem (by simp at h2; omega)⟩
      obtain ⟨w1, e1, rw1⟩ := q1.get ex
      obtain ⟨w2, e2, rw2⟩ := q2.get ey
      have f1 : its.toArray[j] = w1 := by have := List.getElem?_eq_some_iff.mp e1; obtain ⟨_, z⟩ := this; simpa using z
      have f2 : jts.toArray[j] = w2 := by have := List.getElem?_eq_some_iff.mp e2; obtain ⟨_, z⟩ := this; simpa using z
      rw [f1, f2]
      exact (hd j x y ex ey).eqAt I rw1 rw2 (by show X.A.units + 1 + n < cLine; omega)
    · rw [range_all]
      exact ⟨.bl false, H, I, rfl, q⟩
/-- all of these -/
def oEqG (K : PySem.W.Frag) : R2 := fun x y H Q => oEq K x y H Q ∨ oEqDS K x y H Q
def oNeG (K : PySem.W.Frag) : R2 := fun x y H Q => oNe K x y H Q ∨ oNeDS K x y H Q
theorem op_oEqG (hu : X.A.units + 64 < cLine) : OpR X (compareOp .Eq) (oEqG X.K) := op_or (op_oEq hu) (op_eqDS hu)
theorem op_oNeG (hu : X.A.units + 64 < cLine) : OpR X (compareOp .NotEq) (oNeG X.K) := op_or (op_oNe hu) (op_neDS hu)
theorem op_oEqGE (K : PySem.W.Frag) (h : X.K = K) (hu : X.A.units + 64 < cLine) : OpR X (compareOp .Eq) (oEqG K) := h ▸ op_oEqG hu
theorem op_oNeGE (K : PySem.W.Frag) (h : X.K = K) (hu : X.A.units + 64 < cLine) : OpR X (compareOp .NotEq) (oNeG K) := h ▸ op_oNeG hu
end
end Up

set_option Elab.async false
set_option linter.all false
set_option pp.maxSteps 600
set_option maxRecDepth 100000
set_option maxHeartbeats 4000000
set_option exponentiation.threshold 200000
namespace Up
open PySem PySem.Spec PyProof.Rows L2 LamX
local macro_rules | `(tactic| walk_at "u") => `(tactic| first
  | with_reducible refine g_seq ?_
  | with_reducible refine g_asg ?_
  | with_reducible refine g_op ?_
  | ((with_reducible show tVar _ _ _ _); apply g_var; exact rfl)
  | with_reducible refine g_c ?_
  | with_reducible refine g_name ?_
  | with_reducible refine g_ifs ?_
  | with_reducible refine g_tt ?_
  | with_reducible refine g_tB ?_
  | with_reducible refine g_bl ?_
  | with_reducible refine g_ret ?_
  | with_reducible refine g_cb ?_
  | with_reducible refine g_cons ?_
  | with_reducible refine g_nil ?_
  | with_reducible refine g_call ?_
  | with_reducible refine g_and ?_
  | with_reducible refine g_or ?_
  | with_reducible refine g_not ?_
  | with_reducible refine g_andV ?_
  | with_reducible refine g_orV ?_
  | with_reducible refine g_notV ?_
  | with_reducible refine g_if ?_
  | with_reducible refine g_un ?_
  | with_reducible refine g_neg ?_
  | with_reducible refine g_addI ?_
  | with_reducible refine g_subI ?_
  | with_reducible refine g_subB ?_
  | with_reducible refine g_I0 ?_
  | with_reducible refine g_cmpI ?_
  | with_reducible refine g_eqI ?_
  | with_reducible refine g_neI ?_
  | with_reducible refine g_eqS ?_
  | with_reducible refine g_neS ?_
  | with_reducible refine g_eqB ?_
  | with_reducible refine g_neB ?_
  | with_reducible refine g_bits ?_
  | with_reducible refine g_bitsI ?_
  | with_reducible refine g_fld ?_
  | with_reducible refine g_tup ?_
  | with_reducible refine g_lst ?_
  | with_reducible refine g_gtup ?_
  | with_reducible refine g_make ?_
  | with_reducible refine g_lc ?_
  | with_reducible refine g_yesT ?_
  | with_reducible refine g_intI ?_
  | with_reducible refine g_intB ?_
  | with_reducible refine g_max2 ?_
  | with_reducible refine g_abs1 ?_
  | with_reducible refine g_for ?_
  | with_reducible refine g_iList ?_
  | with_reducible refine g_iTup ?_
  | with_reducible refine g_iRng1 ?_
  | with_reducible refine g_iEnum ?_
  | with_reducible refine g_slice ?_
  | with_reducible refine g_po0 ?_
  | with_reducible refine g_po1 ?_
  | with_reducible refine g_gsub ?_
  | with_reducible refine g_par ?_
  | with_reducible refine g_par2 ?_
  | with_reducible refine g_rfl ?_
  | with_reducible refine g_meth ?_
  | with_reducible refine g_gcons ?_
  | with_reducible refine g_gnil ?_
  | with_reducible refine g_gfld ?_
  | with_reducible refine g_sfld ?_
  | with_reducible refine g_drop ?_
  | with_reducible refine g_next ?_
  | with_reducible refine iteT ?_
  | with_reducible refine iteF ?_)
local macro_rules | `(tactic| walk_at "go") => `(tactic| (repeat walk_at "u"))
local macro_rules | `(tactic| walk_at "t1") => `(tactic| (first
  | walk_at "u"
  | with_reducible refine g_chain ?_
  | with_reducible refine g_par3 ?_
  | with_reducible refine g_par3' ?_
  | with_reducible refine g_augS ?_
  | with_reducible refine g_nt ?_
  | with_reducible refine g_nf ?_
  | with_reducible refine g_methK ?_
  | with_reducible refine g_makeK ?_
  | with_reducible refine g_iRng2 ?_
  | with_reducible refine g_bm ?_
  | with_reducible refine g_fldaug ?_
  | with_reducible refine g_iStr ?_
  | with_reducible refine g_ipI ?_
  | ((with_reducible show tAug _ _ _ _ _ _); refine ⟨_, rfl, ?_⟩)
  | ((with_reducible refine show_exT ?_); first
    | refine rdT3 (by assumption) (by assumption) ?_
    | refine rdT4 (by assumption) (by assumption) ?_
    | refine rdT5 (by assumption) (by assumption) ?_
    | refine rdT1 (by assumption) (by assumption) ?_
    | refine rdT2 (by assumption) (by assumption) ?_
    | refine rdN1 (by assumption) (by assumption) ?_
    | refine rdN2 (by assumption) (by assumption) ?_
    | refine rdN3 (by assumption) (by assumption) ?_
    | refine rdN4 (by assumption) (by assumption) ?_)))
local macro_rules | `(tactic| walk_at "t") => `(tactic| (repeat walk_at "t1"))
local macro_rules | `(tactic| walk_at "v") => `(tactic| (repeat (first
  | walk_at "t1"
  | with_reducible refine g_js ?_
  | with_reducible refine g_js0 ?_
  | with_reducible refine g_fmt ?_
  | with_reducible refine g_joined ?_
  | with_reducible refine g_isBool ?_
  | with_reducible refine g_notBool ?_
  | with_reducible refine g_revL ?_
  | with_reducible refine g_self ?_
  | with_reducible refine g_selfN ?_
  | with_reducible refine g_rN ?_
  | with_reducible refine g_rNN ?_
  | with_reducible refine g_iN ?_
  | with_reducible refine g_iNN ?_
  | with_reducible refine g_sN ?_
  | with_reducible refine g_sNN ?_
  | with_reducible refine g_bN ?_
  | with_reducible refine g_bNN ?_)))

/-! ### == and != of the values of events -/
def oEqA (K : PySem.W.Frag) (Cs : List Addr) : R2 := fun x y H Q => oEqG K x y H Q ∨ rEqIS Cs x y H Q
def oNeA (K : PySem.W.Frag) (Cs : List Addr) : R2 := fun x y H Q => oNeG K x y H Q ∨ rNeIS Cs x y H Q
section
variable {X : Cx} {Cs : List Addr}
theorem op_oEqA (T : IdCs X.K Cs) (hu : X.A.units + 64 < cLine) : OpR X (compareOp .Eq) (oEqA X.K Cs) := Up.op_or (op_oEqG hu) (op_eqIS T hu)
theorem op_oNeA (T : IdCs X.K Cs) (hu : X.A.units + 64 < cLine) : OpR X (compareOp .NotEq) (oNeA X.K Cs) := Up.op_or (op_oNeG hu) (op_neIS T hu)
end
section
variable {P : Program} {w : World} {K : PySem.W.Frag} {mg : Str → Option Value} {base : Heap} {C D N NA CT : Addr} {H H' H1 : Hp} {a wl : Addr} {n m : Nat} {f : Addr → Int} {W W' : Wm} {ls : List (Addr × HO)} {T : List (Addr × Str)} {v x y : V} {name : Str} {Cs : List Addr} {Q : VK}
theorem scal_self {x : V} (h : isSc x = true) : scal x x = true := by
  cases x <;> first | rfl | cases h
theorem g_neSelf (h : IsV Cs H x) (q : Q (.bl false) H) : oNeA K Cs x x H Q := by
  cases h with
  | sc h => exact .inl (.inl (.inl ⟨scal_self h, by rw [decide_eq_true rfl]; exact q⟩))
  | ins h1 h2 => exact .inr ⟨.ins h1 h2, .ins h1 h2, fun z => (nomatch z), by rw [decide_eq_true rfl]; exact q⟩
theorem g_eqSelf (h : IsV Cs H x) (q : Q (.bl true) H) : oEqA K Cs x x H Q := by
  cases h with
  | sc h => exact .inl (.inl (.inl ⟨scal_self h, by rw [decide_eq_true rfl]; exact q⟩))
  | ins h1 h2 => exact .inr ⟨.ins h1 h2, .ins h1 h2, fun z => (nomatch z), by rw [decide_eq_true rfl]; exact q⟩
theorem g_neOth (h : IsV Cs H x) (h2 : IsV Cs H y) (hn : isSc x = true → isSc y = false) (ne : x ≠ y) (q : Q (.bl true) H) : oNeA K Cs x y H Q := .inr ⟨h, h2, hn, by rw [decide_eq_false ne]; exact q⟩
theorem IsV.same (s : Same H H') (h : IsV Cs H x) : IsV Cs H' x := by
  cases h with
  | sc h => exact .sc h
  | ins h1 h2 => exact .ins h1 (s _ _ h2)
theorem metaV_eq {e em : Tn} {m : Addr} (h : W a = some e) (h2 : e.me = .ref m) (h3 : W m = some em) : metaV W (.ref a) name = getX em.t (.str name) := by
  unfold metaV metaT
  simp only [h, h2, h3]
theorem metaV_non {e : Tn} (h : W a = some e) (h2 : e.me = .non) : metaV W (.ref a) name = .non := by
  unfold metaV metaT
  simp only [h, h2]
theorem meV_eq {e : Tn} (h : W a = some e) : meV W (.ref a) = e.me := by
  unfold meV
  simp only [h]
theorem VkAt.isv (hw : Wo C D N T f H W ls) (hD : D ∈ Cs) (hN : NA ∈ Cs) : ∀ {k : Vk}, k.isF = false → VkAt C NA H W v k → IsV Cs H v
  | .nil, _, z => by cases (show v = _ from z); exact .sc rfl
  | .bl _, _, z => by cases (show v = _ from z); exact .sc rfl
  | .int _, _, z => by cases (show v = _ from z); exact .sc rfl
  | .str _, _, z => by cases (show v = _ from z); exact .sc rfl
  | .flt _ _ _, h, _ => nomatch h
  | .tab _, _, ⟨e, t, z⟩ => by
    subst e
    obtain ⟨dx, ho⟩ := hw.obj z
    exact .ins hD ho
  | .fn _, _, ⟨e, dx, n, m, z⟩ => by
    subst e
    exact .ins hN z
theorem g_eqT2 {p p' : Addr} {vs : List V} (h1 : H p = some (.tup vs)) (h2 : H p' = some (.tup vs)) (hv : ∀ v ∈ vs, okV v) (q : Q (.bl true) H) : oEqG K (.ref p) (.ref p') H Q :=
  .inr ⟨0, by decide, .tup (SqT.of h1) (SqT.of h2) rfl fun i x y e1 e2 => by
    rw [e1] at e2; cases e2
    exact .same (hv _ (List.mem_of_getElem? e1)), q⟩
theorem okSS {x y : Str} : ∀ v ∈ [V.str x, V.str y], okV v := fun v hv => by
  simp only [List.mem_cons, List.not_mem_nil, or_false] at hv
  rcases hv with rfl | rfl <;> trivial
end
end Up

set_option Elab.async false
set_option linter.all false
set_option pp.maxSteps 600
set_option maxRecDepth 100000
set_option maxHeartbeats 4000000
set_option exponentiation.threshold 200000
namespace Up
open PySem PySem.Spec PyProof.Rows L2 LamX
local macro_rules | `(tactic| walk_at "u") => `(tactic| first
  | with_reducible refine g_seq ?_
  | with_reducible refine g_asg ?_
  | with_reducible refine g_op ?_
  | ((with_reducible show tVar _ _ _ _); apply g_var; exact rfl)
  | with_reducible refine g_c ?_
  | with_reducible refine g_name ?_
  | with_reducible refine g_ifs ?_
  | with_reducible refine g_tt ?_
  | with_reducible refine g_tB ?_
  | with_reducible refine g_bl ?_
  | with_reducible refine g_ret ?_
  | with_reducible refine g_cb ?_
  | with_reducible refine g_cons ?_
  | with_reducible refine g_nil ?_
  | with_reducible refine g_call ?_
  | with_reducible refine g_and ?_
  | with_reducible refine g_or ?_
  | with_reducible refine g_not ?_
  | with_reducible refine g_andV ?_
  | with_reducible refine g_orV ?_
  | with_reducible refine g_notV ?_
  | with_reducible refine g_if ?_
  | with_reducible refine g_un ?_
  | with_reducible refine g_neg ?_
  | with_reducible refine g_addI ?_
  | with_reducible refine g_subI ?_
  | with_reducible refine g_subB ?_
  | with_reducible refine g_I0 ?_
  | with_reducible refine g_cmpI ?_
  | with_reducible refine g_eqI ?_
  | with_reducible refine g_neI ?_
  | with_reducible refine g_eqS ?_
  | with_reducible refine g_neS ?_
  | with_reducible refine g_eqB ?_
  | with_reducible refine g_neB ?_
  | with_reducible refine g_bits ?_
  | with_reducible refine g_bitsI ?_
  | with_reducible refine g_fld ?_
  | with_reducible refine g_tup ?_
  | with_reducible refine g_lst ?_
  | with_reducible refine g_gtup ?_
  | with_reducible refine g_make ?_
  | with_reducible refine g_lc ?_
  | with_reducible refine g_yesT ?_
  | with_reducible refine g_intI ?_
  | with_reducible refine g_intB ?_
  | with_reducible refine g_max2 ?_
  | with_reducible refine g_abs1 ?_
  | with_reducible refine g_for ?_
  | with_reducible refine g_iList ?_
  | with_reducible refine g_iTup ?_
  | with_reducible refine g_iRng1 ?_
  | with_reducible refine g_iEnum ?_
  | with_reducible refine g_slice ?_
  | with_reducible refine g_po0 ?_
  | with_reducible refine g_po1 ?_
  | with_reducible refine g_gsub ?_
  | with_reducible refine g_par ?_
  | with_reducible refine g_par2 ?_
  | with_reducible refine g_rfl ?_
  | with_reducible refine g_meth ?_
  | with_reducible refine g_gcons ?_
  | with_reducible refine g_gnil ?_
  | with_reducible refine g_gfld ?_
  | with_reducible refine g_sfld ?_
  | with_reducible refine g_drop ?_
  | with_reducible refine g_next ?_
  | with_reducible refine iteT ?_
  | with_reducible refine iteF ?_)
local macro_rules | `(tactic| walk_at "go") => `(tactic| (repeat walk_at "u"))
local macro_rules | `(tactic| walk_at "t1") => `(tactic| (first
  | walk_at "u"
  | with_reducible refine g_chain ?_
  | with_reducible refine g_par3 ?_
  | with_reducible refine g_par3' ?_
  | with_reducible refine g_augS ?_
  | with_reducible refine g_nt ?_
  | with_reducible refine g_nf ?_
  | with_reducible refine g_methK ?_
  | with_reducible refine g_makeK ?_
  | with_reducible refine g_iRng2 ?_
  | with_reducible refine g_bm ?_
  | with_reducible refine g_fldaug ?_
  | with_reducible refine g_iStr ?_
  | with_reducible refine g_ipI ?_
  | ((with_reducible show tAug _ _ _ _ _ _); refine ⟨_, rfl, ?_⟩)
  | ((with_reducible refine show_exT ?_); first
    | refine rdT3 (by assumption) (by assumption) ?_
    | refine rdT4 (by assumption) (by assumption) ?_
    | refine rdT5 (by assumption) (by assumption) ?_
    | refine rdT1 (by assumption) (by assumption) ?_
    | refine rdT2 (by assumption) (by assumption) ?_
    | refine rdN1 (by assumption) (by assumption) ?_
    | refine rdN2 (by assumption) (by assumption) ?_
    | refine rdN3 (by assumption) (by assumption) ?_
    | refine rdN4 (by assumption) (by assumption) ?_)))
local macro_rules | `(tactic| walk_at "t") => `(tactic| (repeat walk_at "t1"))
local macro_rules | `(tactic| walk_at "v") => `(tactic| (repeat (first
  | walk_at "t1"
  | with_reducible refine g_js ?_
  | with_reducible refine g_js0 ?_
  | with_reducible refine g_fmt ?_
  | with_reducible refine g_joined ?_
  | with_reducible refine g_isBool ?_
  | with_reducible refine g_notBool ?_
  | with_reducible refine g_revL ?_
  | with_reducible refine g_self ?_
  | with_reducible refine g_selfN ?_
  | with_reducible refine g_rN ?_
  | with_reducible refine g_rNN ?_
  | with_reducible refine g_iN ?_
  | with_reducible refine g_iNN ?_
  | with_reducible refine g_sN ?_
  | with_reducible refine g_sNN ?_
  | with_reducible refine g_bN ?_
  | with_reducible refine g_bNN ?_)))

local macro_rules | `(tactic| walk_at "w") => `(tactic| (walk_at "v"; repeat ((with_reducible refine g_fnK ?_); walk_at "v")))
section
variable {ls' : List V} {P : Program} {w : World} {K : PySem.W.Frag} {mg : Str → Option Value} {base : Heap} {C D N NA CT : Addr} {H H' H1 : Hp} {a wl : Addr} {n m : Nat} {f : Addr → Int} {W W' : Wm} {ls : List (Addr × HO)} {T : List (Addr × Str)} {v u : V} {name : Str} {k k' : Vk}
/-! ### k34: numbers -/
def VR (H : Hp) (v d : V) : Prop := ∃ p, v = .ref p ∧ H p = some (.tup [.str "value", d])
theorem VR.same {d : V} (h : VR H v d) (s : Same H H') : VR H' v d := by
  obtain ⟨p, e, h⟩ := h
  exact ⟨p, e, s _ _ h⟩
theorem VR.ds {d : V} (h : VR H v d) (h' : VR H u d) (o : okV d) : DS K H 1 v u := by
  obtain ⟨p, rfl, h⟩ := h
  obtain ⟨p', rfl, h'⟩ := h'
  exact .tup (SqT.of h) (SqT.of h') rfl fun i x y e1 e2 => by
    rw [e1] at e2
    cases e2
    match i, e1 with
    | 0, e1 => cases e1; exact .same trivial
    | 1, e1 => cases e1; exact .same o
    | i + 2, e1 => cases e1
theorem VR.upd {d : V} {l : Addr} {xs : List V} {o : HO} (h : VR H v d) (hl : H l = some (.lst xs)) : VR (upd H l o) v d := by
  obtain ⟨p, e, h⟩ := h
  exact ⟨p, e, by rw [upd_ne (ne_of h hl (by intro z; cases z))]; exact h⟩
theorem tyLs (h : H a = some (.lst ls')) : tyV K "list" (.ref a) H := .inl ⟨rfl, _, SqL.of h⟩
theorem vr_of {Q : VK} {d : V} (h : ∀ H' v, Same H H' → VR H' v d → Q v H') : RetV H d Q := fun H' p _ s hp => h H' _ s ⟨p, rfl, hp⟩
theorem sc_Lnumbersright : FnScope ["_law_small", "_law_great", "_law_found", "_law_due", "_law_some"] ["_law_small", "_law_great"] (defScope s_Lnumbersright) := ⟨rfl, rfl, rfl, by decide +kernel, rfl, by decide +kernel, by decide +kernel⟩
def sp_Lnum : Sp := fun vs H Q _ => ∃ i j : Int, vs = [.int i, .int j] ∧ 0 ≤ i ∧ i < 100 ∧ i < j ∧ j < 200 ∧ ∀ H', Same H H' → Q (.bl true) H'
theorem ok_Lnum {g : Addr} {fd : FuncData} (F : FunD K "_law_numbers_right" "_law_numbers_right" (defArgs s_Lnumbersright) (defBody s_Lnumbersright) (defScope s_Lnumbersright) [] [] g fd) (B : Blt mg)
    (c_arithdeedK : FnK P w K mg base CX0 3 "arith_deed" ["word", "one", "other"] 0 ["other", "one", "word"] gR sp_arithdI) (c_binarydeedK : FnK P w K mg base CX0 4 "binary_deed" ["word", "one", "other"] 0 ["other", "one", "word"] gR sp_arithdI)
    (c_unarydeedK : FnK P w K mg base CX0 5 "unary_deed" ["word", "one"] 0 ["one", "word"] gR sp_unI) (c_concatdeedK : FnK P w K mg base CX0 4 "concat_deed" ["one", "other"] 0 ["other", "one"] gR sp_concatS) (c_lengthdeedK : FnK P w K mg base CX0 1 "length_deed" ["one"] 0 ["one"] gR sp_lenS)
    (c_equaldeedK : FnK P w K mg base CX0 5 "equal_deed" ["one", "other"] 0 ["other", "one"] gR sp_eqI) (c_unlikedeedK : FnK P w K mg base CX0 6 "unlike_deed" ["one", "other"] 0 ["other", "one"] gR sp_neI) (c_lessdeedK : FnK P w K mg base CX0 5 "less_deed" ["word", "one", "other"] 0 ["other", "one", "word"] gR sp_ltI) :
    FnOk P w K mg base CX0 7 g fd ["_law_small", "_law_great"] sp_Lnum := by
  refine F.ok sc_Lnumbersright (fun vs H Q E h => ?_) (fun cdv A outer s H vs Q E hr h => ?_)
  · obtain ⟨_, _, rfl, _⟩ := h; rfl
  · obtain ⟨i, j, rfl, i0, i1, ij, j1, q⟩ := h
    refine ⟨_, PSs.nox (pss_cons (ps_set (i := 2) sc_Lnumbersright.nd rfl (Or.inl rfl) (pe_lstN (pa_cons (pe_fnK0 c_arithdeedK (hr.mono (by first | decide | omega)) pass0 (pk_cons (pv 1) (pk_cons (pv 0) (pk_cons pe_str pk_nil)))) (pa_cons (pe_fnK0 c_binarydeedK (hr.mono (by first | decide | omega)) pass0 (pk_cons (pv 1) (pk_cons (pv 0) (pk_cons pe_str pk_nil)))) pa_nil))))
  (pss_cons (ps_set (i := 2) sc_Lnumbersright.nd rfl (Or.inl rfl) (pe_op op_oAdd (pv 2) (pe_lstN (pa_cons (pe_fnK0 c_unarydeedK (hr.mono (by first | decide | omega)) pass0 (pk_cons (pv 0) (pk_cons pe_str pk_nil))) (pa_cons (pe_fnK0 c_concatdeedK (hr.mono (by first | decide | omega)) pass0 (pk_cons pe_str (pk_cons pe_str pk_nil))) (pa_cons (pe_fnK0 c_lengthdeedK (hr.mono (by first | decide | omega)) pass0 (pk_cons pe_str pk_nil)) pa_nil))))))
  (pss_cons (ps_set (i := 2) sc_Lnumbersright.nd rfl (Or.inl rfl) (pe_op op_oAdd (pv 2) (pe_lstN (pa_cons (pe_fnK0 c_equaldeedK (hr.mono (by first | decide | omega)) pass0 (pk_cons (pv 1) (pk_cons (pv 0) pk_nil))) (pa_cons (pe_fnK0 c_unlikedeedK (hr.mono (by first | decide | omega)) pass0 (pk_cons (pv 1) (pk_cons (pv 0) pk_nil))) pa_nil)))))
  (pss_cons (ps_expr (pe_bm PySem.F.plainAttrs_list PySem.F.slot_list_append PySem.F.type_list_append mt_append (pv 2) (pa_cons (pe_fnK0 c_lessdeedK (hr.mono (by first | decide | omega)) pass0 (pk_cons (pv 1) (pk_cons (pv 0) (pk_cons pe_str pk_nil)))) pa_nil)))
  (pss_cons (ps_set (i := 3) sc_Lnumbersright.nd rfl (Or.inl rfl) (pe_lstN (pa_cons (pe_op op_oSub (pv 0) (pv 1)) (pa_cons (pe_op op_oMul (pv 0) (pv 1)) (pa_cons (pe_op op_oSub (pe_un un_neg pe_int) (pv 0)) (pa_cons pe_str (pa_cons pe_int (pa_cons pe_bl (pa_cons pe_bl (pa_cons pe_bl pa_nil))))))))))
  (pss_one (ps_ret (pe_cmpR (op_oEqG hr.units) (pv 2) (pe_lc (own := [("_law_some", 4)]) (g := gName 4) rfl sc_Lnumbersright.nd (pi_list (pv 3)) (blkOk_by (own := [("_law_some", 4)]) (N := ["_law_small", "_law_great", "_law_found", "_law_due", "_law_some"]) (sc := defScope s_Lnumbersright) (by decide +kernel)) (fun _ _ _ _ _ => pg_name (i := 4) sc_Lnumbersright.nd rfl (Or.inl rfl)) (fun _ _ _ _ _ => pts_nil) (fun _ _ _ _ _ => (pe_tupN (pa_cons pe_str (pa_cons (pv 4) pa_nil))))) (nomark _))))))))), ?_⟩
    have si : sml i := by unfold sml; omega
    have sj : sml j := by unfold sml; omega
    have hm1 : 0 ≤ i * j := Int.mul_nonneg i0 (by omega)
    have hm2 : i * j ≤ 100 * 200 := Int.mul_le_mul (by omega) (by omega) (by omega) (by omega)
    walk_at "w"
    refine ⟨rfl, rfl, "sub", i, j, rfl, .inr (.inr rfl), si, sj, (by show sml (i - j); unfold sml; omega), vr_of fun H1 v1 s1 h1 => ?_⟩
    have h1 : VR H1 v1 (.int (i - j)) := h1
    walk_at "w"
    refine ⟨rfl, rfl, "mul", i, j, rfl, .inl rfl, si, sj, (by show sml (i * j); unfold sml; omega), vr_of fun H2 v2 s2 h2 => ?_⟩
    have h2 : VR H2 v2 (.int (i * j)) := h2
    have h1 := h1.same s2
    walk_at "w"
    refine g_new (sz rfl) fun l3 H3 n3 s3 e3 _ => ?_
    have h1 := h1.same s3
    have h2 := h2.same s3
    walk_at "w"
    refine ⟨rfl, rfl, i, rfl, vr_of fun H4 v4 s4 h4 => ?_⟩
    have e3 := s4 _ _ e3
    have h1 := h1.same s4
    have h2 := h2.same s4
    walk_at "w"
    refine ⟨rfl, rfl, "a", "b", rfl, by decide +kernel, by decide +kernel, vr_of fun H5 v5 s5 h5 => ?_⟩
    have e3 := s5 _ _ e3
    have h1 := h1.same s5
    have h2 := h2.same s5
    have h4 := h4.same s5
    walk_at "w"
    refine ⟨rfl, rfl, "abc", rfl, by decide +kernel, vr_of fun H6 v6 s6 h6 => ?_⟩
    have e3 := s6 _ _ e3
    have h1 := h1.same s6
    have h2 := h2.same s6
    have h4 := h4.same s6
    have h5 := h5.same s6
    walk_at "w"
    refine g_new (sz rfl) fun l7 H7 n7 s7 e7 _ => ?_
    have e3 := s7 _ _ e3
    have h1 := h1.same s7
    have h2 := h2.same s7
    have h4 := h4.same s7
    have h5 := h5.same s7
    have h6 := h6.same s7
    refine .inl ⟨l3, l7, _, _, rfl, rfl, SqL.of e3, SqL.of e7, sz rfl, fun l8 H8 n8 s8 e8 _ => ?_⟩
    have h1 := h1.same s8
    have h2 := h2.same s8
    have h4 := h4.same s8
    have h5 := h5.same s8
    have h6 := h6.same s8
    walk_at "w"
    refine ⟨rfl, rfl, i, j, rfl, si, sj, by omega, vr_of fun H9 v9 s9 h9 => ?_⟩
    have e8 := s9 _ _ e8
    have h1 := h1.same s9
    have h2 := h2.same s9
    have h4 := h4.same s9
    have h5 := h5.same s9
    have h6 := h6.same s9
    walk_at "w"
    refine ⟨rfl, rfl, i, j, rfl, si, sj, by omega, vr_of fun H10 v10 s10 h10 => ?_⟩
    have e8 := s10 _ _ e8
    have h1 := h1.same s10
    have h2 := h2.same s10
    have h4 := h4.same s10
    have h5 := h5.same s10
    have h6 := h6.same s10
    have h9 := h9.same s10
    walk_at "w"
    refine g_new (sz rfl) fun l11 H11 n11 s11 e11 _ => ?_
    have e8 := s11 _ _ e8
    have h1 := h1.same s11
    have h2 := h2.same s11
    have h4 := h4.same s11
    have h5 := h5.same s11
    have h6 := h6.same s11
    have h9 := h9.same s11
    have h10 := h10.same s11
    refine .inl ⟨l8, l11, _, _, rfl, rfl, SqL.of e8, SqL.of e11, sz rfl, fun l12 H12 n12 s12 e12 _ => ?_⟩
    have h1 := h1.same s12
    have h2 := h2.same s12
    have h4 := h4.same s12
    have h5 := h5.same s12
    have h6 := h6.same s12
    have h9 := h9.same s12
    have h10 := h10.same s12
    walk_at "w"
    refine ⟨tyLs e12, ?_⟩
    have e12 : H12 l12 = some (.lst [v1, v2, v4, v5, v6, v9, v10]) := e12
    walk_at "w"
    refine ⟨rfl, rfl, i, j, rfl, si, sj, ij, vr_of fun H13 v13 s13 h13 => ?_⟩
    have e12 := s13 _ _ e12
    have h1 := h1.same s13
    have h2 := h2.same s13
    have h4 := h4.same s13
    have h5 := h5.same s13
    have h6 := h6.same s13
    have h9 := h9.same s13
    have h10 := h10.same s13
    walk_at "w"
    refine ⟨l12, _, _, rfl, rfl, e12, (by show 7 < sizeLine; decide), ?_⟩
    have S13 : Same H (upd H13 l12 (.lst ([v1, v2, v4, v5, v6, v9, v10] ++ [v13]))) := upd_sm ((s1.trans (s2.trans (s3.trans (s4.trans (s5.trans (s6.trans (s7.trans (s8.trans (s9.trans (s10.trans (s11.trans (s12.trans s13))))))))))))) ((s1.trans (s2.trans (s3.trans (s4.trans (s5.trans (s6.trans (s7.trans (s8.trans (s9.trans (s10.trans s11)))))))))).free n12)
    have h1 := h1.upd (o := .lst ([v1, v2, v4, v5, v6, v9, v10] ++ [v13])) e12
    have h2 := h2.upd (o := .lst ([v1, v2, v4, v5, v6, v9, v10] ++ [v13])) e12
    have h4 := h4.upd (o := .lst ([v1, v2, v4, v5, v6, v9, v10] ++ [v13])) e12
    have h5 := h5.upd (o := .lst ([v1, v2, v4, v5, v6, v9, v10] ++ [v13])) e12
    have h6 := h6.upd (o := .lst ([v1, v2, v4, v5, v6, v9, v10] ++ [v13])) e12
    have h9 := h9.upd (o := .lst ([v1, v2, v4, v5, v6, v9, v10] ++ [v13])) e12
    have h10 := h10.upd (o := .lst ([v1, v2, v4, v5, v6, v9, v10] ++ [v13])) e12
    have h13 := h13.upd (o := .lst ([v1, v2, v4, v5, v6, v9, v10] ++ [v13])) e12
    have e14 : upd H13 l12 (.lst ([v1, v2, v4, v5, v6, v9, v10] ++ [v13])) l12 = some (.lst [v1, v2, v4, v5, v6, v9, v10, v13]) := upd_same
    generalize upd H13 l12 (.lst ([v1, v2, v4, v5, v6, v9, v10] ++ [v13])) = H14 at *
    clear e12 e8 e3 e7 e11
    walk_at "w"
    refine g_mulI (.of_left (intBits_le_64 (by omega) (by omega))) ?_
    walk_at "w"
    refine g_new (sz rfl) fun l15 H15 n15 s15 e15 _ => ?_
    have e14 := s15 _ _ e14
    have h1 := h1.same s15
    have h2 := h2.same s15
    have h4 := h4.same s15
    have h5 := h5.same s15
    have h6 := h6.same s15
    have h9 := h9.same s15
    have h10 := h10.same s15
    have h13 := h13.same s15
    have S15 := S13.trans s15
    clear S13 s1 s2 s3 s4 s5 s6 s7 s8 s9 s10 s11 s12 s13 s15
    have h5 : VR H15 v5 (.str "ab") := by
      rw [show ("ab" : Str) = "a" ++ "b" by decide +kernel]; exact h5
    have h6 : VR H15 v6 (.int 3) := by
      rw [show (3 : Int) = (("abc" : Str).length : Int) by decide +kernel]; exact h6
    have nd : ∀ {D : Addr}, H15 D = none → l12 ≠ D := fun n z => by rw [z, n] at e14; cases e14
    walk_at "w"
    refine ⟨l15, rfl, ⟨_, SqL.of e15⟩, fun D nD => ?_⟩
    have ok8 : ∀ d ∈ [V.int (i - j), V.int (i * j), V.int (-1 - i), V.str "ab", V.int 3, V.bl false, V.bl true, V.bl true], okV d := fun d hd => by
      simp only [List.mem_cons, List.not_mem_nil, or_false] at hd
      rcases hd with rfl | rfl | rfl | rfl | rfl | rfl | rfl | rfl <;> trivial
    have fo : ∀ (k : Nat) (x d : V), [v1, v2, v4, v5, v6, v9, v10, v13][k]? = some x → [V.int (i - j), V.int (i * j), V.int (-1 - i), V.str "ab", V.int 3, V.bl false, V.bl true, V.bl true][k]? = some d → VR H15 x d := fun k x d e1 e2 => by
      match k, e1, e2 with
      | 0, e1, e2 => cases e1; cases e2; exact h1
      | 1, e1, e2 => cases e1; cases e2; exact h2
      | 2, e1, e2 => cases e1; cases e2; exact h4
      | 3, e1, e2 => cases e1; cases e2; exact h5
      | 4, e1, e2 => cases e1; cases e2; exact h6
      | 5, e1, e2 => cases e1; cases e2; exact h9
      | 6, e1, e2 => cases e1; cases e2; exact h10
      | 7, e1, e2 => cases e1; cases e2; exact h13
      | k + 8, e1, e2 => cases e1
    have hl : [v1, v2, v4, v5, v6, v9, v10, v13].length = [V.int (i - j), V.int (i * j), V.int (-1 - i), V.str "ab", V.int 3, V.bl false, V.bl true, V.bl true].length := rfl
    have hl8 : [V.int (i - j), V.int (i * j), V.int (-1 - i), V.str "ab", V.int 3, V.bl false, V.bl true, V.bl true].length = 8 := rfl
    clear h1 h2 h4 h5 h6 h9 h10 h13
    generalize [v1, v2, v4, v5, v6, v9, v10, v13] = fs at e14 fo hl
    generalize [V.int (i - j), V.int (i * j), V.int (-1 - i), V.str "ab", V.int 3, V.bl false, V.bl true, V.bl true] = ds at e15 fo hl ok8 hl8
    refine lc_list (K := K) (a := l15) (xs := ds) (fun k H' => Same H15 H' ∧ ∃ acc, H' D = some (.lst acc) ∧ acc.length = k ∧ ∀ (t : Nat) (x d : V), acc[t]? = some x → ds[t]? = some d → VR H' x d) ⟨upd_sm (Same.refl _) nD, [], upd_same, rfl, fun t x d z => by cases z⟩ ?_ ?_ ?_
    · rintro k H2 _ ⟨s2, _⟩
      exact SqL.of (s2 _ _ e15)
    · rintro k x H2 hx ⟨s2, acc, hD, ha, hacc⟩
      walk_at "w"
      refine ⟨rfl, ?_⟩
      walk_at "w"
      refine g_new (sz rfl) fun p H3 n3 s3 h3 _ => ?_
      have hk := (List.getElem?_eq_some_iff.mp hx).1
      have nD3 : ∀ b o, H15 b = some o → b ≠ D := fun b o e => ne_of_none e nD
      refine ⟨acc, s3 _ _ hD, by rw [ha]; exact Nat.lt_of_lt_of_le (show k < 8 by omega) (by decide), fun b o e => ?_, acc ++ [V.ref p], upd_same, by rw [List.length_append, ha]; rfl, fun t y d e1 e2 => ?_⟩
      · rw [upd_ne (nD3 _ _ e)]
        exact s3 _ _ (s2 _ _ e)
      · refine VR.upd ?_ (s3 _ _ hD)
        by_cases ht : t < acc.length
        · rw [List.getElem?_append_left ht] at e1
          exact (hacc t y d e1 e2).same s3
        · rw [List.getElem?_append_right (by omega)] at e1
          have h0 : t - acc.length = 0 := by
            by_cases z : t - acc.length = 0
            · exact z
            · rw [List.getElem?_eq_none (by simp; omega)] at e1
              cases e1
          rw [h0] at e1
          cases e1
          have : t = k := by omega
          rw [this, hx] at e2
          cases e2
          exact ⟨p, rfl, h3⟩
    · rintro H2 ⟨s2, acc, hD, ha, hacc⟩
      refine .inr ⟨1, by decide, .lst (SqL.of (s2 _ _ e14)) (SqL.of hD) (by rw [ha, hl]) fun t x y e1 e2 => ?_, q _ (S15.trans s2)⟩
      have ht := (List.getElem?_eq_some_iff.mp e1).1
      have e3 : ds[t]? = some ds[t] := List.getElem?_eq_getElem (by omega)
      exact ((fo t x _ e1 e3).same s2).ds (hacc t y _ e2 e3) (ok8 _ (List.getElem_mem _))
theorem sc_Lmetasright : FnScope ["_law_plain", "_law_holder", "_law_signs", "_law_asked"] ["_law_plain"] (defScope s_Lmetasright) := ⟨rfl, rfl, rfl, by decide +kernel, rfl, by decide +kernel, by decide +kernel⟩
theorem mkNatK {Q : VK} {E : XK} {n m : V} (q : ∀ H' a dx, H a = none → Same H H' → H' a = some (.ins NA dx (natF n m)) → Q (.ref a) H') : MakeRK NA (sp_Natinit NA) gR [] [m, n] H Q E := by
  intro x dx H1 n1 n2 ne s1 h1 _
  exact ⟨x, dx, n, m, rfl, h1, fun H2 k h2 => ⟨rfl, q H2 x dx n1 (fun b o e => k b o (ne_of_none e n1) (s1 _ _ e)) h2⟩⟩
def Pln (v : V) : Prop := (∃ i : Int, v = .int i) ∨ (∃ x : Str, v = .str x) ∨ ∃ b, v = .bl b
def sp_index0 (C D N NA CT : Addr) : Sp := fun vs H Q _ => ∃ c kv k T f W ls d, vs = [c, kv] ∧ Wo C D N T f H W ls ∧ MetaOk W ∧ KyAt C D H kv k ∧ KG (plK k) ∧ NoOk f (plK k) ∧ IxS C NA false H W kv (plA k.x) 2000 c d ∧ (∀ m, d ≠ .thr m) ∧ DdQ C CT H Q (fun _ _ _ => False) d
def sp_store0 (C D N NA CT : Addr) : Sp := fun vs H Q _ => ∃ c kv u k T f W ls a, vs = [c, kv, u] ∧ Wo C D N T f H W ls ∧ MetaOk W ∧ KyAt C D H kv k ∧ k.x ≠ .non ∧ isNanA k.x = false ∧ KG (plK k) ∧ NoOk f (plK k) ∧ StS C NA false H W (plA k.x) 2000 c (.put a) ∧ StQ C D N CT T f W ls kv u (plA k.x) H Q (fun _ _ _ => False) (.put a)
def sp_call0 (C D N NA CT : Addr) : Sp := fun vs H Q _ => ∃ c la as T f W ls v as', vs = [c, .ref la] ∧ Wo C D N T f H W ls ∧ MetaOk W ∧ H la = some (.lst as) ∧ as.length ≤ 500 ∧ CtS C NA false H W 100 c as (.ok v as') ∧ CtQ CT H Q (fun _ _ _ => False) (.ok v as')
def CThrK (P : Program) (w : World) (K : PySem.W.Frag) (mg : Str → Option Value) (base : Heap) (CT : Addr) : Prop := ThK K mg CT ∧ ∃ fI fd g, PySem.W.findIn K (.ref CT) "__init__" = some (some (.ref fI)) ∧ PySem.W.typeIn K (.ref fI) = some (.type "function") ∧
  FnOk P w K mg base CX0 1 fI fd ["self", "value", "level"] (sp_ThrInit CT) ∧ KBn K fd ["self", "value", "level"] 1 ["value"] g (fun vs zs => vs ++ (zs ++ [.int 1]))
def sp_Lmetas (C D N : Addr) (T : List (Addr × Str)) : Sp := fun vs H Q _ => ∃ (pl : V) (wl : Addr) (n : Nat) (f : Addr → Int) (ls : List (Addr × HO)), vs = [pl] ∧ Pln pl ∧ Ws C D N T f wl n H W0 ls ∧ ∀ H', Ws C D N T f wl n H' W0 ls → Q (.bl true) H'
theorem Pln.ok (h : Pln v) : okV v := by
  rcases h with ⟨_, rfl⟩ | ⟨_, rfl⟩ | ⟨_, rfl⟩ <;> trivial
theorem Pln.ne (h : Pln v) : v ≠ .non := by
  rcases h with ⟨_, rfl⟩ | ⟨_, rfl⟩ | ⟨_, rfl⟩ <;> exact fun z => nomatch z
theorem Pln.sc (h : Pln v) : scal v v = true := by
  rcases h with ⟨_, rfl⟩ | ⟨_, rfl⟩ | ⟨_, rfl⟩ <;> rfl
theorem g_neP {Cs : List Addr} {Q : VK} (h : Pln v) (q : Q (.bl false) H) : oNeA K Cs v v H Q := .inl (.inl (.inl ⟨h.sc, by simpa using q⟩))
theorem g_axV {tk : TA} {sp : Sp} {gV : List V → List V → List V} {σ : L2.St} {Q : VK} {m : Nat} {f : Str} (h : tk σ H fun zs H1 => zs.length = m ∧ ∀ a, H1 a = none → sp (gV [.ref a] zs) (upd H1 a (exo a C none)) (AxQ a C f Q) (fun _ _ _ => False)) : tAxV C m f sp gV tk σ H Q := h
theorem g_neTT {q q' : Addr} {xs ys : List V} {Q : VK} (h : H q = some (.tup xs)) (h' : H q' = some (.tup ys)) (l : xs.length = ys.length) (ds : ∀ (i : Nat) (x y : V), xs[i]? = some x → ys[i]? = some y → DS K H 1 x y) (z : Q (.bl false) H) : oNeG K (.ref q) (.ref q') H Q :=
  .inr ⟨1, by decide, .tup (SqT.of h) (SqT.of h') l ds, z⟩
theorem ds_lst {l l' : Addr} {as : List V} (h : H l = some (.lst as)) (h' : H l' = some (.lst as)) (o : ∀ a ∈ as, okV a) : DS K H 1 (.ref l) (.ref l') :=
  .lst (SqL.of h) (SqL.of h') rfl fun i x y e1 e2 => by
    rw [e1] at e2
    cases e2
    exact .same (o _ (List.mem_of_getElem? e1))
theorem thr_val {v l : V} : (thrF v l).lookup ("value" : Str) = some v := by
  show (match (("value" : Str) == ("level" : Str)) with | true => some l | false => (match (("value" : Str) == ("value" : Str)) with | true => some v | false => none)) = some v
  rw [show (("value" : Str) == ("level" : Str)) = false by decide +kernel, show (("value" : Str) == ("value" : Str)) = true by decide +kernel]
theorem ok_Lmetas {g : Addr} {fd : FuncData} {Cs : List Addr} (F : FunD K "_law_metas_right" "_law_metas_right" (defArgs s_Lmetasright) (defBody s_Lmetasright) (defScope s_Lmetasright) [] [] g fd) (B : Blt mg) (L : Cl3 C D N) (TF : FlC K mg C) (TT : TbC K mg D) (FC : FnC K mg C D N NA) (IC : IdCs K Cs) (hD : D ∈ Cs) (hN : NA ∈ Cs)
    (c_Table : CT1 P w K mg base D) (c_NativeK : CnK P w K mg base CX0 1 "Native" NA ["self", "name", "act"] 0 ["act", "name"] gR (sp_Natinit NA)) (c_put : CPutE P w K mg base C D N) (c_get : Mt P w K mg base CX0 6 D "get" ["self", "key"] (sp_get C D N))
    (c_setmetaK : FnK P w K mg base CX0 8 "set_meta" ["table", "meta"] 0 ["meta", "table"] gR (sp_setmeta0 C D N)) (c_toldmetaK : FnK P w K mg base CX0 7 "told_meta" ["value"] 0 ["value"] gR (sp_toldmeta C D N NA))
    (c_metaofK : FnK P w K mg base CX0 7 "meta_of" ["value", "name"] 0 ["name", "value"] gR (sp_metaof C D N NA)) (c_indexdeedK : FnK P w K mg base CX0 8 "index_deed" ["thing", "key"] 0 ["key", "thing"] gR (sp_index0 C D N NA CT))
    (c_storedeedK : FnK P w K mg base CX0 11 "store_deed" ["thing", "key", "value"] 0 ["value", "key", "thing"] gR (sp_store0 C D N NA CT)) (c_calltargetK : FnK P w K mg base CX0 8 "call_target" ["called", "args"] 0 ["args", "called"] gR (sp_call0 C D N NA CT))
    (c_isclosableK : FnK P w K mg base CX0 8 "is_closable" ["value"] 0 ["value"] gR (sp_isclosable C D N NA)) (c_shapedK : FnK P w K mg base CX0 1 "shaped" ["values", "shape"] 0 ["shape", "values"] gR sp_shaped)
    (c_kindnameK : FnK P w K mg base CX0 2 "kind_name" ["value"] 0 ["value"] gR (sp_kindname C D N NA false)) (c_ThrownK : CThrK P w K mg base CT) :
    FnOk P w K mg base CX0 12 g fd ["_law_plain"] (sp_Lmetas C D N T) := by
  have g_Table := TT.mg
  obtain ⟨TH, fTh, fdTh, gTh, iTh, tTh, FTh, kTh⟩ := c_ThrownK
  refine F.ok sc_Lmetasright (fun vs H Q E h => ?_) (fun cdv A outer s H vs Q E hr h => ?_)
  · obtain ⟨_, _, _, _, _, rfl, _⟩ := h; rfl
  · obtain ⟨pl, wl, n, f, ls, rfl, hp, hs, q⟩ := h
    refine ⟨_, PSs.nox (pss_cons (ps_par3 (i := 1) (j := 2) (l := 3) rfl sc_Lmetasright.nd rfl rfl rfl (by decide) (by decide) (by decide) rfl rfl rfl (pa_cons (pe_cn c_Table (hr.mono (by first | decide | omega)) pass0 (pa_cons pe_int pa_nil)) (pa_cons (pe_cn c_Table (hr.mono (by first | decide | omega)) pass0 (pa_cons pe_int pa_nil)) (pa_cons (pe_cnK0 c_NativeK (hr.mono (by first | decide | omega)) pass0 (pk_cons pe_non (pk_cons pe_str pk_nil))) pa_nil))) (by rfl))
  (pss_cons (ps_expr (pe_mt c_put (hr.mono (by first | decide | omega)) pass0 (pv 2) (pa_cons pe_str (pa_cons (pv 3) pa_nil))))
  (pss_cons (ps_expr (pe_mt c_put (hr.mono (by first | decide | omega)) pass0 (pv 2) (pa_cons pe_str (pa_cons (pv 3) pa_nil))))
  (pss_cons (ps_if (PW.pt (pw_or (pt_cmpR (op_oNeA IC hr.units) (pe_fld (pv 3) rfl) pe_str (nomark _)) (pw_or1 (pt_cmpR op_notN (pe_fnK0 c_setmetaK (hr.mono (by first | decide | omega)) pass0 (pk_cons (pv 2) (pk_cons (pv 1) pk_nil))) pe_non (nomark _))))) (pss_one (ps_ret pe_bl)) pss_nil)
  (pss_cons (ps_if (PW.pt (pw_or (pt_cmpR (op_oNeA IC hr.units) (pe_fnK0 c_toldmetaK (hr.mono (by first | decide | omega)) pass0 (pk_cons (pv 1) pk_nil)) (pv 2) (nomark _)) (pw_or1 (pt_cmpR (op_oNeA IC hr.units) (pe_fnK0 c_metaofK (hr.mono (by first | decide | omega)) pass0 (pk_cons pe_str (pk_cons (pv 1) pk_nil))) (pv 3) (nomark _))))) (pss_one (ps_ret pe_bl)) pss_nil)
  (pss_cons (ps_if (pt_cmpR (op_oNeA IC hr.units) (pe_fnK0 c_indexdeedK (hr.mono (by first | decide | omega)) pass0 (pk_cons pe_str (pk_cons (pv 1) pk_nil))) (pe_tupN (pa_cons pe_str (pa_cons (pv 3) (pa_cons (pe_lstN (pa_cons (pv 1) (pa_cons pe_str pa_nil))) (pa_cons pe_str pa_nil))))) (nomark _)) (pss_one (ps_ret pe_bl)) pss_nil)
  (pss_cons (ps_if (PW.pt (pw_or (pt_cmpR (op_oNeA IC hr.units) (pe_fnK0 c_storedeedK (hr.mono (by first | decide | omega)) pass0 (pk_cons (pv 0) (pk_cons pe_str (pk_cons (pv 1) pk_nil)))) (pe_tupN (pa_cons pe_str (pa_cons pe_non pa_nil))) (nomark _)) (pw_or1 (pt_cmpR (op_oNeA IC hr.units) (pe_mt c_get (hr.mono (by first | decide | omega)) pass0 (pv 1) (pa_cons pe_str pa_nil)) (pv 0) (nomark _))))) (pss_one (ps_ret pe_bl)) pss_nil)
  (pss_cons (ps_if (pt_cmpR (op_oNeA IC hr.units) (pe_fnK0 c_calltargetK (hr.mono (by first | decide | omega)) pass0 (pk_cons (pe_lstN (pa_cons (pv 0) pa_nil)) (pk_cons (pv 1) pk_nil))) (pe_tupN (pa_cons (pv 3) (pa_cons (pe_lstN (pa_cons (pv 1) (pa_cons (pv 0) pa_nil))) pa_nil))) (nomark _)) (pss_one (ps_ret pe_bl)) pss_nil)
  (pss_cons (ps_if (PW.pt (pw_or (pt_val (pe_fnK0 c_isclosableK (hr.mono (by first | decide | omega)) pass0 (pk_cons (pv 1) pk_nil))) (pw_or (pt_not (pt_val (pe_fnK0 c_isclosableK (hr.mono (by first | decide | omega)) pass0 (pk_cons pe_non pk_nil)))) (pw_or1 (pt_cmpR (op_oNeA IC hr.units) (pe_fnK0 c_shapedK (hr.mono (by first | decide | omega)) pass0 (pk_cons pe_str (pk_cons (pe_lstN (pa_cons (pv 0) (pa_cons pe_int pa_nil))) pk_nil))) (pv 0) (nomark _)))))) (pss_one (ps_ret pe_bl)) pss_nil)
  (pss_one (ps_ret (pe_and (pe_cmpR (op_oEq hr.units) (pe_axV TH.ax TH.xf TH.nV iTh tTh FTh (hr.mono (by decide)) kTh pass0 TH.mg (pk_cons (pv 0) pk_nil)) (pv 0) (nomark _)) (pe_one (pe_cmpR (op_oEq hr.units) (pe_fnK0 c_kindnameK (hr.mono (by first | decide | omega)) pass0 (pk_cons (pv 1) pk_nil)) pe_str (nomark _))))))))))))))), ?_⟩
    walk_at "w"
    refine hs.newT fun H1 h1 W1 x1 n1 s1 hs => ?_
    obtain ⟨e1, w1, _, me1, ge1, le1⟩ := x1.ex
    have mo1 := MetaOk.w0.add x1
    walk_at "w"
    refine hs.newT fun H2 h2 W2 x2 n2 s2 hs => ?_
    obtain ⟨e2, w2, _, me2, ge2, le2⟩ := x2.ex
    have mo2 := mo1.add x2
    have w1 := x2.old w1
    have h12 : h1 ≠ h2 := x2.ne (x1.ex.choose_spec.1)
    walk_at "w"
    refine ⟨rfl, rfl, mkNatK fun H3 h3 d3 n3 s3 hn3 => ?_⟩
    have hs := hs.same s3
    walk_at "w"
    obtain ⟨dx3, ho3⟩ := hs.wo.obj w2
    refine ⟨h2, dx3, _, rfl, ho3, rfl, ?_⟩
    walk_at "w"
    refine hs.putS L w2 (by omega) fun H4 W4 x4 hs kq4 => ?_
    obtain ⟨e2', e4, z, w4, num4, me4, ge4, le4⟩ := x4.ex
    rw [w2] at z
    cases z
    have mo4 := mo2.put x4
    have w1 := (x4.oth h1 h12).trans w1
    have hn4 := kq4.ins FC.nn FC.nd hn3
    walk_at "w"
    obtain ⟨dx4, ho4⟩ := hs.wo.obj w4
    refine ⟨h2, dx4, _, rfl, ho4, rfl, ?_⟩
    walk_at "w"
    refine hs.putS L w4 (by omega) fun H5 W5 x5 hs kq5 => ?_
    obtain ⟨e4', e5, z, w5, num5, me5, ge5, le5⟩ := x5.ex
    rw [w4] at z
    cases z
    have mo5 := mo4.put x5
    have w1 := (x5.oth h1 h12).trans w1
    have hn5 := kq5.ins FC.nn FC.nd hn4
    walk_at "w"
    refine ⟨h3, NA, d3, _, _, rfl, hn5, FC.own.cl, FC.nN, rfl, ?_⟩
    walk_at "w"
    refine .inl (.inl (g_neS ?_))
    walk_at "w"
    refine g_iten (fun z => absurd rfl z) fun _ => ?_
    walk_at "w"
    refine ⟨rfl, rfl, hs.setM mo5 w1 (metaV_non w1 me1) fun H6 W6 x6 hs kq6 => ?_⟩
    obtain ⟨e1', z, w6⟩ := x6.ex
    rw [w1] at z
    cases z
    have mo6 := mo5.set x6 (.inr ⟨h2, e5, rfl, w5⟩)
    have w5 := (x6.oth h2 h12.symm).trans w5
    have hn6 := kq6.ins FC.nn FC.nd hn5
    have mv : ∀ y : Str, metaV W6 (.ref h1) y = if y = "__call" then .ref h3 else if y = "__index" then .ref h3 else .non := fun y => by
      rw [metaV_eq w6 rfl w5, ge5, ge4, ge2]
      by_cases z1 : y = "__call"
      · rw [if_pos z1, if_pos (by rw [z1])]
      · rw [if_neg z1, if_neg (fun z => z1 (by injection z))]
        by_cases z2 : y = "__index"
        · rw [if_pos z2, if_pos (by rw [z2])]
        · rw [if_neg z2, if_neg (fun z => z2 (by injection z))]
    have gk : getX e1.t (.str "k") = .non := ge1 _
    have mvM : metaV W6 (.ref h1) "__metatable" = .non := by rw [mv, if_neg (by decide +kernel), if_neg (by decide +kernel)]
    have mvI : metaV W6 (.ref h1) "__index" = .ref h3 := by rw [mv, if_neg (by decide +kernel), if_pos rfl]
    have mvN : metaV W6 (.ref h1) "__newindex" = .non := by rw [mv, if_neg (by decide +kernel), if_neg (by decide +kernel)]
    have mv0 : ∀ y, metaV W6 (.ref h1) y = getX e5.t (.str y) := fun y => metaV_eq w6 rfl w5
    walk_at "w"
    refine ⟨rfl, rfl, .ref h1, .tab h1, T, f, W6, ls, rfl, hs.wo, mo6, ⟨rfl, _, w6⟩, fun H7 s7 => ?_⟩
    have et : toldV W6 (.ref h1) = .ref h2 := by
      unfold toldV
      rw [mvM, if_pos rfl, meV_eq w6]
    rw [et]
    have hs := hs.same s7
    have hn7 := s7 _ _ hn6
    have vk2 : ∀ H', VkAt C NA H' W6 (.ref h2) (.tab h2) := fun _ => ⟨rfl, _, w5⟩
    have vk1 : ∀ H', VkAt C NA H' W6 (.ref h1) (.tab h1) := fun _ => ⟨rfl, _, w6⟩
    walk_at "w"
    refine g_neSelf ((vk2 H7).isv hs.wo hD hN rfl) ?_
    walk_at "w"
    refine ⟨rfl, rfl, .ref h1, .tab h1, T, f, W6, ls, "__index", rfl, hs.wo, mo6, vk1 _, fun H8 s8 => ?_⟩
    rw [mvI]
    have hs := hs.same s8
    have hn8 := s8 _ _ hn7
    walk_at "w"
    have vk3 : ∀ H' W', H' h3 = some (.ins NA d3 (natF (V.str "f") V.non)) → VkAt C NA H' W' (.ref h3) (.fn h3) := fun H' W' e => ⟨rfl, d3, _, _, e⟩
    refine g_neSelf ((vk3 H8 W6 hn8).isv hs.wo hD hN rfl) ?_
    walk_at "w"
    refine ⟨rfl, rfl, .ref h1, .str "k", ⟨.str "k", 0⟩, T, f, W6, ls, .call (.ref h3) [.ref h1, .str "k"] "one", rfl, hs.wo, mo6, ky_strW, kg_str, no_str, .call w6 gk mvI (vk3 _ _ hn8) rfl, (fun m z => nomatch z), fun H9 p9 l9 np nl s9 hp9 hl9 => ?_⟩
    have hs := hs.same s9
    have hn9 := s9 _ _ hn8
    walk_at "w"
    refine g_new (sz rfl) fun l10 H10 n10 s10 hl10 _ => ?_
    walk_at "w"
    refine g_new (sz rfl) fun p11 H11 n11 s11 hp11 _ => ?_
    have hs := (hs.same s10).same s11
    have hn11 := s11 _ _ (s10 _ _ hn9)
    refine .inl (g_neTT (s11 _ _ (s10 _ _ hp9)) hp11 rfl (fun i x y a b => ?_) ?_)
    · match i, a, b with
      | 0, a, b => cases a; cases b; exact .same trivial
      | 1, a, b => cases a; cases b; exact .same trivial
      | 2, a, b =>
        cases a
        cases b
        exact ds_lst (s11 _ _ (s10 _ _ hl9)) (s11 _ _ hl10) (fun a ha => by
          simp only [List.mem_cons, List.not_mem_nil, or_false] at ha
          rcases ha with rfl | rfl <;> trivial)
      | 3, a, b => cases a; cases b; exact .same trivial
      | i + 4, a, b => cases a
    clear s1 s2 s3 kq4 kq5 kq6 s7 s8 s9 s10 s11 hn3 hn4 hn5 hn6 hn7 hn8 hn9 hp9 hl9 hl10 hp11 n10 n11 np nl n3
    walk_at "w"
    obtain ⟨xw, yw, zw, hw, hb⟩ := hs
    refine ⟨rfl, rfl, .ref h1, .str "k", pl, ⟨.str "k", 0⟩, T, f, W6, _, h1, rfl, hw, mo6, ky_strW, (fun z => nomatch z), rfl, kg_str, no_str, .nil w6 gk mvN, _, w6, (by show lv e1.t < 4000; omega), fun H12 F' t' H13 p13 w12 g12 l12 kq12 n13 s13 hp13 => ?_⟩
    have hs : Ws C D N T f wl n H12 _ ls := ⟨xw, yw, zw, w12, hb⟩
    have hn12 := kq12.ins FC.nn FC.nd hn11
    clear hw hn11
    have mo7 : MetaOk (updW W6 h1 { ({ e1 with me := .ref h2 } : Tn) with F := F', t := t' }) := mo6.upd w6 (.inl rfl)
    have w7 : updW W6 h1 { ({ e1 with me := .ref h2 } : Tn) with F := F', t := t' } h1 = some { ({ e1 with me := .ref h2 } : Tn) with F := F', t := t' } := updW_same
    have w7' : updW W6 h1 { ({ e1 with me := .ref h2 } : Tn) with F := F', t := t' } h2 = some e5 := by rw [updW_ne h12.symm]; exact w5
    generalize updW W6 h1 { ({ e1 with me := .ref h2 } : Tn) with F := F', t := t' } = W7 at *
    have mv7 : ∀ y, metaV W7 (.ref h1) y = metaV W6 (.ref h1) y := fun y => by rw [mv0, metaV_eq w7 rfl w7']
    have mvC : metaV W7 (.ref h1) "__call" = .ref h3 := by rw [mv7, mv, if_pos rfl]
    have g7 : getX t' (.str "k") = pl := by rw [g12]; exact if_pos rfl
    have hs := hs.same s13
    have hn13 := s13 _ _ hn12
    walk_at "w"
    refine g_new (sz rfl) fun p14 H14 n14 s14 hp14 _ => ?_
    have hs := hs.same s14
    have hn14 := s14 _ _ hn13
    refine .inl (g_neTT (s14 _ _ hp13) hp14 rfl (fun i x y a b => ?_) ?_)
    · match i, a, b with
      | 0, a, b => cases a; cases b; exact .same trivial
      | 1, a, b => cases a; cases b; exact .same trivial
      | i + 2, a, b => cases a
    walk_at "w"
    obtain ⟨dx7, ho7⟩ := hs.wo.obj w7
    refine ⟨h1, dx7, _, rfl, ho7, rfl, ?_⟩
    walk_at "w"
    refine hs.wo.gets w7 "k" fun H15 s15 => ?_
    rw [show getX ({ ({ e1 with me := .ref h2 } : Tn) with F := F', t := t' } : Tn).t (.str "k") = pl from g7]
    have hs := hs.same s15
    have hn15 := s15 _ _ hn14
    walk_at "w"
    refine g_neP hp ?_
    walk_at "w"
    refine g_new (sz rfl) fun l16 H16 n16 s16 hl16 _ => ?_
    have hs := hs.same s16
    have hn16 := s16 _ _ hn15
    have vk1 : ∀ H', VkAt C NA H' W7 (.ref h1) (.tab h1) := fun _ => ⟨rfl, _, w7⟩
    walk_at "w"
    refine ⟨rfl, rfl, .ref h1, l16, [pl], T, f, W7, ls, .ref h3, [.ref h1, pl], rfl, hs.wo, mo7, hl16, (show 1 ≤ 500 by decide), .go (u := .ref h3) (vk1 _) rfl mvC (fun z => nomatch z) (.fn (vk3 _ _ hn16) rfl), fun H17 p17 l17 np nl s17 hp17 hl17 => ?_⟩
    have hs := hs.same s17
    have hn17 := s17 _ _ hn16
    walk_at "w"
    refine g_new (sz rfl) fun l18 H18 n18 s18 hl18 _ => ?_
    walk_at "w"
    refine g_new (sz rfl) fun p19 H19 n19 s19 hp19 _ => ?_
    have hs := (hs.same s18).same s19
    have hn19 := s19 _ _ (s18 _ _ hn17)
    refine .inl (g_neTT (s19 _ _ (s18 _ _ hp17)) hp19 rfl (fun i x y a b => ?_) ?_)
    · match i, a, b with
      | 0, a, b => cases a; cases b; exact .same trivial
      | 1, a, b =>
        cases a
        cases b
        exact ds_lst (s19 _ _ (s18 _ _ hl17)) (s19 _ _ hl18) (fun a ha => by
          simp only [List.mem_cons, List.not_mem_nil, or_false] at ha
          rcases ha with rfl | rfl
          · trivial
          · exact hp.ok)
      | i + 2, a, b => cases a
    walk_at "w"
    refine ⟨rfl, rfl, .ref h1, .tab h1, T, f, W7, ls, rfl, hs.wo, mo7, vk1 _, fun H20 s20 => ?_⟩
    have ec : closB W7 (.ref h1) = false := by
      unfold closB
      rw [mv7, mv, if_neg (by decide +kernel), if_neg (by decide +kernel)]
      rfl
    rw [ec]
    have hs := hs.same s20
    walk_at "w"
    refine ⟨rfl, rfl, .non, .nil, T, f, W7, ls, rfl, hs.wo, mo7, rfl, fun H21 s21 => ?_⟩
    rw [show closB W7 .non = true from rfl]
    have hs := hs.same s21
    walk_at "w"
    refine g_new (sz rfl) fun l22 H22 n22 s22 hl22 _ => ?_
    have hs := hs.same s22
    walk_at "w"
    refine ⟨rfl, rfl, l22, [pl, .int 1], "one", rfl, hl22, fun H23 s23 => ?_⟩
    rw [show shapeV [pl, .int 1] "one" = pl from rfl]
    have hs := hs.same s23
    walk_at "w"
    refine g_neP hp ?_
    walk_at "w"
    refine g_axV ?_
    walk_at "w"
    refine ⟨rfl, fun a na => ⟨a, pl, .int 1, rfl, upd_same, fun d H24 nd da ha hd kp => ⟨rfl, d, _, pl, ha, hd, thr_val, ?_⟩⟩⟩
    have s24 : Same H23 H24 := fun b o e => by
      have b1 : b ≠ a := ne_of_none e na
      have b2 : b ≠ d := fun z => by
        subst z
        rw [upd_ne da] at nd
        rw [nd] at e; cases e
      rw [kp b b1 b2, upd_ne b1]
      exact e
    have hs := hs.same s24
    walk_at "w"
    refine g_eqV hp.sc ?_
    refine ⟨_, rfl, ?_⟩
    rw [decide_eq_true rfl]
    walk_at "w"
    refine ⟨rfl, rfl, .ref h1, .tab h1, T, f, W7, ls, rfl, hs.wo, vk1 _, (fun z => nomatch z), ?_⟩
    walk_at "w"
    exact q _ hs.drop
theorem Wo.startX {f : Addr → Int} (tb : Tabs T H) (h1 : ∀ p ∈ ls, H p.1 = some p.2) (h2 : ∀ p ∈ ls, ∀ ps, p.2 ≠ .tbl ps) : Wo C D N T f H W0 ls := ⟨fun a e z => (nomatch z), fun a e z => (nomatch z), fun a b e e' z => (nomatch z), h1, fun a e z => (nomatch z), h2, tb⟩
theorem Wo.wellX {f : Addr → Int} {b : Addr} (h : Wo C D N T f H W0 ls) (nb : H b = none) (s : Same H H') (wz : Wz H' b n) : Ws C D N T f b n H' W0 ls := by
  obtain ⟨x, y, z, e, h1, h2, h3⟩ := wz
  refine ⟨x, y, z, h.add nb s e, h1, h2, h3, fun p hp z => ?_⟩
  have := h.hls p hp
  rw [z, nb] at this; cases this
theorem sql_lsX {xs : List V} (h : SqL K H a xs) : ∃ ls : List (Addr × HO), (∀ p ∈ ls, H p.1 = some p.2) ∧ (∀ p ∈ ls, ∀ ps, p.2 ≠ .tbl ps) ∧ ∀ H' : Hp, (∀ p ∈ ls, H' p.1 = some p.2) → SqL K H' a xs := by
  have one : ∀ o : HO, H a = some o → (∀ ps, o ≠ .tbl ps) → (∀ p ∈ [(a, o)], H p.1 = some p.2) ∧ (∀ p ∈ [(a, o)], ∀ ps, p.2 ≠ .tbl ps) := fun o e n => by
    constructor
    · intro p hp
      rw [List.mem_singleton.mp hp]; exact e
    · intro p hp
      rw [List.mem_singleton.mp hp]; exact n
  rcases h with (h | ⟨o, h⟩) | h
  · obtain ⟨h1, h2⟩ := one _ h (fun ps z => nomatch z)
    exact ⟨_, h1, h2, fun H' h' => .inl (.inl (h' _ List.mem_cons_self))⟩
  · obtain ⟨h1, h2⟩ := one _ h (fun ps z => nomatch z)
    exact ⟨_, h1, h2, fun H' h' => .inl (.inr ⟨o, h' _ List.mem_cons_self⟩)⟩
  · refine ⟨[], ?_, ?_, fun H' _ => .inr h⟩
    · intro p hp
      cases hp
    · intro p hp
      cases hp
theorem sc_law : FnScope ["_law_script", "_law_k", "_law_well_here", "_law_small"] ["_law_script"] (defScope s_law) := ⟨rfl, rfl, rfl, by decide +kernel, rfl, by decide +kernel, by decide +kernel⟩
def spLaw (K : PySem.W.Frag) : Sp := fun vs H Q _ => ∃ (a : Addr) (ns : List Int), vs = [.ref a] ∧ SqL K H a (ns.map V.int) ∧ ns.length ≤ 63 ∧ ∀ H', Q (.bl true) H'
theorem ok_law {g : Addr} {fd : FuncData} (F : FunD K "law" "law" (defArgs s_law) (defBody s_law) (defScope s_law) [] [] g fd) (B : Blt mg) (L : Cl3 C D N) (c_Lcellat : Fn P w K mg base CX0 1 "_law_cell_at" ["_law_script", "_law_k"] [] (sp_Lcellat K)) (c_Lwell : Fn P w K mg base CX0 1 "_law_well" ["_law_cell"] [] sp_Lwl) (c_Ldraw : CZ P w K mg base)
    (c_Lnumbersright : Fn P w K mg base CX0 7 "_law_numbers_right" ["_law_small", "_law_great"] [] sp_Lnum) (c_Lmetasright : Fn P w K mg base CX0 12 "_law_metas_right" ["_law_plain"] [] (sp_Lmetas C D N [])) :
    FnOk P w K mg base CX0 14 g fd ["_law_script"] (spLaw K) := by
  refine F.ok sc_law (fun vs H Q E h => ?_) (fun cdv A outer s H vs Q E hr h => ?_)
  · obtain ⟨a, ns, rfl, _⟩ := h; rfl
  · obtain ⟨a, ns, rfl, hS, hlen, q⟩ := h
    refine ⟨_, PSs.nox (pss_cons (ps_for PassesOwn.never rfl (pi_range1 (by rfl) B.range (pa_cons (pe_callB (call_max2 rfl) (by rfl) B.max (by decide +kernel) (pa_cons pe_int (pa_cons (pe_callB (call_min2 rfl) (by rfl) B.min (by decide +kernel) (pa_cons pe_int (pa_cons (pe_callB call_len_seq (by rfl) B.len (by decide +kernel) (pa_cons (pv 0) pa_nil)) pa_nil))) pa_nil))) pa_nil)) (pg_name (i := 1) sc_law.nd rfl (Or.inl rfl))
    (pss_cons (ps_set (i := 2) sc_law.nd rfl (Or.inl rfl) (pe_fn c_Lwell (hr.mono (by first | decide | omega)) pass0 (pa_cons (pe_fn c_Lcellat (hr.mono (by first | decide | omega)) pass0 (pa_cons (pv 0) (pa_cons (pv 1) pa_nil))) pa_nil)))
  (pss_cons (ps_set (i := 3) sc_law.nd rfl (Or.inl rfl) (pe_fn c_Ldraw (hr.mono (by first | decide | omega)) pass0 (pa_cons (pv 2) (pa_cons pe_int pa_nil))))
  (pss_cons (ps_if (pt_not (pt_val (pe_fn c_Lnumbersright (hr.mono (by first | decide | omega)) pass0 (pa_cons (pv 3) (pa_cons (pe_op op_oAdd (pe_op op_oAdd (pv 3) pe_int) (pe_fn c_Ldraw (hr.mono (by first | decide | omega)) pass0 (pa_cons (pv 2) (pa_cons pe_int pa_nil)))) pa_nil))))) (pss_one (ps_ret pe_bl)) pss_nil)
  (pss_one (ps_if (pt_not (pt_val (pe_fn c_Lmetasright (hr.mono (by first | decide | omega)) pass0 (pa_cons (pe_ix ix_seq (pe_lstN (pa_cons pe_int (pa_cons pe_str (pa_cons pe_bl (pa_cons pe_int (pa_cons (pe_un un_neg pe_int) pa_nil)))))) (pe_fn c_Ldraw (hr.mono (by first | decide | omega)) pass0 (pa_cons (pv 2) (pa_cons pe_int pa_nil))) (fun _ _ => rfl)) pa_nil)))) (pss_one (ps_ret pe_bl)) pss_nil))))))
  (pss_one (ps_ret pe_bl))), ?_⟩
    obtain ⟨ls, l1, l2, l3⟩ := sql_lsX hS
    have hw : Wo C D N [] (fun _ => 0) H W0 ls := Wo.startX (fun p hp => nomatch hp) l1 l2
    walk_at "v"
    refine ⟨a, _, rfl, .inl (l3 _ hw.hls), ?_⟩
    rw [List.length_map]
    walk_at "v"
    have e1 : (if (if ((ns.length : Nat) : Int) < 4 then ((ns.length : Nat) : Int) else 4) > 1 then (if ((ns.length : Nat) : Int) < 4 then ((ns.length : Nat) : Int) else 4) else 1) = ((max 1 (min 4 ns.length) : Nat) : Int) := by
      split <;> split at * <;> omega
    rw [e1]
    refine ⟨by omega, by omega, ?_⟩
    rw [Int.toNat_natCast]
    refine for_range (lo := 0) (n := max 1 (min 4 ns.length)) (fun i σ' H' => Wo C D N [] (fun _ => 0) H' W0 ls ∧ ∃ e1 e2 e3, σ' = [some (.ref a), e1, e2, e3]) ⟨hw, _, _, _, rfl⟩ ?_ ?_
    · rintro i _ H2 hi ⟨hw, e1, e2, e3, rfl⟩
      walk_at "v"
      rw [Int.zero_add]
      refine ⟨a, ns, i, rfl, l3 _ hw.hls, fun c => ?_⟩
      walk_at "v"
      refine ⟨c, rfl, fun b H3 n3 s3 wz _ => ?_⟩
      have hs := hw.wellX n3 s3 wz
      walk_at "v"
      refine hs.draw L (by decide) (by decide) (by omega) fun k H4 hk st4 hs => ?_
      walk_at "v"
      refine hs.draw L (by decide) (by decide) (by omega) fun k2 H5 hk2 st5 hs => ?_
      walk_at "v"
      refine ⟨k, k + 1 + k2, rfl, by omega, by omega, by omega, by omega, fun H6 s6 => ?_⟩
      have hs := hs.same s6
      walk_at "v"
      refine g_new (sz rfl) fun l7 H7 n7 s7 h7 _ => ?_
      have hs0 := hs
      have hs := hs.same s7
      walk_at "v"
      refine hs.draw L (by decide) (by decide) (by omega) fun k3 H8 hk3 st8 hs => ?_
      have e8 : H8 l7 = some (.lst [.int 5, .str "x", .bl true, .int 0, .int (-7)]) := st8 _ _ (hs0.ne n7) h7
      have hk3' : k3 < [V.int 5, .str "x", .bl true, .int 0, .int (-7)].length := by show k3 < 5; omega
      refine g_ixL e8 (atI_of (by omega) (by rw [Int.toNat_natCast]; exact List.getElem?_eq_getElem hk3')) ?_
      walk_at "v"
      refine ⟨_, b, _, _, ls, rfl, ?_, hs, fun H9 hs => ?_⟩
      · have := List.getElem_mem hk3'
        simp only [List.mem_cons, List.not_mem_nil, or_false] at this
        rcases this with z | z | z | z | z <;> rw [z]
        · exact .inl ⟨_, rfl⟩
        · exact .inr (.inl ⟨_, rfl⟩)
        · exact .inr (.inr ⟨_, rfl⟩)
        · exact .inl ⟨_, rfl⟩
        · exact .inl ⟨_, rfl⟩
      walk_at "v"
      exact ⟨hs.wo, _, _, _, rfl⟩
    · rintro _ H2 ⟨hw, e1, e2, e3, rfl⟩
      walk_at "v"
      exact q _
end
end Up

set_option Elab.async false
set_option linter.all false
set_option maxRecDepth 100000
set_option maxHeartbeats 4000000
namespace Up
open PySem PySem.Spec PyProof.Rows L2
/-! ### what the head's one Bool says of the classes of events -/
theorem fnB_ok {K : PySem.W.Frag} {mg : Str → Option Value} {C D N NA : Addr} (h : fnB K C D N NA = true) (h1 : mg "Native" = some (.ref NA)) : FnC K mg C D N NA := by
  unfold fnB at h
  simp only [Bool.and_eq_true, decide_eq_true_eq] at h
  obtain ⟨x1, x2, x3, x4, x5, x6, x7, x8, x9, y1⟩ := h
  exact { own := ownB_ok x1, nN := noB_ok x2 (by simp), nA := noB_ok x2 (by simp), nd := x3, nc := x4, nn := x5, mgN := h1, nf := kitB'_ok x6 (by simp), nT := kitB'_ok x7 (by simp), fT := kitB'_ok x7 (by simp), tT := kitB'_ok x8 (by simp)
          bT := fun t ht => by
            simp only [List.mem_cons, List.not_mem_nil, or_false] at ht
            rcases ht with rfl | rfl | rfl | rfl <;> exact kitB'_ok x7 (by simp)
          yN := kitB'_ok x9 (by simp), cN := kitB'_ok y1 (by simp), dN := kitB'_ok y1 (by simp)
          bN := fun t ht => by
            simp only [List.mem_cons, List.not_mem_nil, or_false] at ht
            rcases ht with rfl | rfl | rfl | rfl <;> exact kitB'_ok y1 (by simp) }
theorem fnAB_ok {K : PySem.W.Frag} {mg : Str → Option Value} {C D NA FU WR : Addr} (h : fnAB K C D NA FU WR = true) (h2 : mg "Function" = some (.ref FU)) (h3 : mg "Wrapped" = some (.ref WR)) : FnA K mg C D NA FU WR := by
  unfold fnAB at h
  simp only [Bool.and_eq_true, decide_eq_true_eq] at h
  obtain ⟨y1, y2, y3, y4⟩ := h
  have y4 := List.all_eq_true.mp y4
  exact ⟨h2, h3, y1, y2, y3, fun t ht => of_decide_eq_true (y4 t ht)⟩
theorem idsB_ok {K : PySem.W.Frag} {Cs : List Addr} (h : idsB K Cs = true) : IdCs K Cs := by
  have h := List.all_eq_true.mp h
  have key : ∀ C ∈ Cs, IdC K C ∧ PySem.W.findIn K (.ref C) "__ne__" = some (some (.builtin "object.__ne__")) ∧ (∀ C' ∈ Cs, C ≠ C' → PySem.W.subIn K (.ref C) (.ref C') = some false) ∧ ∀ t ∈ (["NoneType", "bool", "int", "str"] : List String), PySem.W.subIn K (.ref C) (.type t) = some false := fun C hC => by
    have z := h C hC
    simp only [Bool.and_eq_true, decide_eq_true_eq] at z
    obtain ⟨z1, z2, z3, z4⟩ := z
    refine ⟨idB_ok z1, z2, fun C' hC' hn => ?_, fun t ht => of_decide_eq_true (List.all_eq_true.mp z4 t ht)⟩
    have := List.all_eq_true.mp z3 C' hC'
    rw [decide_eq_false hn, Bool.false_or] at this
    exact of_decide_eq_true this
  exact ⟨fun C h => (key C h).1, fun C h => (key C h).2.1, fun C h => (key C h).2.2.1, fun C h => (key C h).2.2.2⟩
end Up

set_option Elab.async false
set_option linter.all false
set_option maxRecDepth 100000
set_option maxHeartbeats 4000000
namespace Up
open PySem PySem.Spec PyProof.Rows L2 LamX
/-! ### deeds that throw nothing here -/
section
variable {P : Program} {w : World} {K : PySem.W.Frag} {mg : Str → Option Value} {base : Heap} {C D N NA CT : Addr} {n : Nat} {g : Addr} {fd : FuncData} {ps : List Str}
theorem no_setmetaD (F : FnOk P w K mg base (L2.CX P w) n g fd ps (sp_setmeta C D N NA CT)) : FnOk P w K mg base CX0 n g fd ps (sp_setmeta0 C D N) :=
  Up.FnOk.noX F fun vs H Q E ⟨a, u, T, f, W, ls, e, h1, h2, h3, h4, h5, h6⟩ => ⟨a, u, T, f, W, ls, e, h1, h2, h3, h4, .inl ⟨h5, h6⟩⟩
theorem no_indexD (F : FnOk P w K mg base (L2.CX P w) n g fd ps (sp_index C D N NA CT false)) : FnOk P w K mg base CX0 n g fd ps (sp_index0 C D N NA CT) :=
  Up.FnOk.noX F fun vs H Q E ⟨c, kv, k, T, f, W, ls, d, h1, h2, h3, h4, h5, h6, h7, _, h8⟩ => ⟨c, kv, k, T, f, W, ls, d, h1, h2, h3, h4, h5, h6, h7, h8⟩
theorem no_storeD (F : FnOk P w K mg base (L2.CX P w) n g fd ps (sp_store C D N NA CT false)) : FnOk P w K mg base CX0 n g fd ps (sp_store0 C D N NA CT) :=
  Up.FnOk.noX F fun vs H Q E ⟨c, kv, u, k, T, f, W, ls, a, h1, h2, h3, h4, h5, h6, h7, h8, h9, h10⟩ => ⟨c, kv, u, k, T, f, W, ls, .put a, h1, h2, h3, h4, h5, h6, h7, h8, h9, h10⟩
theorem no_callD (F : FnOk P w K mg base (L2.CX P w) n g fd ps (sp_calltarget C D N NA CT false)) : FnOk P w K mg base CX0 n g fd ps (sp_call0 C D N NA CT) :=
  Up.FnOk.noX F fun vs H Q E ⟨c, la, as, T, f, W, ls, v, as', h1, h2, h3, h4, h5, h6, h7⟩ => ⟨c, la, as, T, f, W, ls, .ok v as', h1, h2, h3, h4, h5, h6, h7⟩
end
end Up

set_option Elab.async false
set_option linter.all false
set_option maxRecDepth 100000
set_option maxHeartbeats 0
set_option pp.maxSteps 300
namespace Up
open PySem PySem.Spec PyProof.Rows L2
theorem facts {P : Program} {w : World} {K : PySem.W.Frag} {h : Heap} {mg : Str → Option Value} {f : Addr} (X : K.In h) (G : h.Ns mainGlobals mg) (hfa' : mg ("law" : Str) = some (.ref f)) (cs : He.SaysX hfa hfn [] [] hex w h K) :
    ∃ fd : FuncData, (∀ (s : Shared) (v : Value), BindsTo s fd ⟨[v], []⟩ [("_law_script", v)]) ∧ ∀ base : Heap, K.In base → base.Ns mainGlobals mg → FnOk P w K mg base CX0 14 f fd ["_law_script"] (spLaw K) := by
  have c := cs.t.d
  have glo : ∀ x ∈ hglo, mg x = some (.ref (He.ga K x)) := fun x hx => He.glo_ok X G (c.facts (f := .glo x) (List.mem_append_left _ (List.mem_map_of_mem hx)))
  have B : Blt mg := blt_of fun x hx => He.free_ok X G (c.facts (f := .free x) (List.mem_append_right _ (List.mem_append_left _ (List.mem_map_of_mem hx))))
  have i_LEAST : ∃ t, mg "LEAST" = some (.int (-9223372036854775808) t) := He.int_ok X G (c.facts (f := .int "LEAST" (-9223372036854775808)) (List.mem_append_right _ (List.mem_append_right _ (by simp))))
  have i_MOST : ∃ t, mg "MOST" = some (.int (9223372036854775807) t) := He.int_ok X G (c.facts (f := .int "MOST" (9223372036854775807)) (List.mem_append_right _ (List.mem_append_right _ (by simp))))
  have i_ROOM : ∃ t, mg "ROOM" = some (.int (9007199254740992) t) := He.int_ok X G (c.facts (f := .int "ROOM" (9007199254740992)) (List.mem_append_right _ (List.mem_append_right _ (by simp))))
  have i_LOWEST : ∃ t, mg "LOWEST" = some (.int (-1074) t) := He.int_ok X G (c.facts (f := .int "LOWEST" (-1074)) (List.mem_append_right _ (List.mem_append_right _ (by simp))))
  have i_TOO_GREAT : ∃ t, mg "TOO_GREAT" = some (.int (1024) t) := He.int_ok X G (c.facts (f := .int "TOO_GREAT" (1024)) (List.mem_append_right _ (List.mem_append_right _ (by simp))))
  have i_MOST_PLACE : ∃ t, mg "MOST_PLACE" = some (.int (2147483648) t) := He.int_ok X G (c.facts (f := .int "MOST_PLACE" (2147483648)) (List.mem_append_right _ (List.mem_append_right _ (by simp))))
  have i_LOW_HALF : ∃ t, mg "LOW_HALF" = some (.int (2147483647) t) := He.int_ok X G (c.facts (f := .int "LOW_HALF" (2147483647)) (List.mem_append_right _ (List.mem_append_right _ (by simp))))
  have i_MOST_CALLED : ∃ t, mg "MOST_CALLED" = some (.int (100) t) := He.int_ok X G (c.facts (f := .int "MOST_CALLED" (100)) (List.mem_append_right _ (List.mem_append_right _ (by simp))))
  have i_MOST_ROUNDS : ∃ t, mg "MOST_ROUNDS" = some (.int (2000) t) := He.int_ok X G (c.facts (f := .int "MOST_ROUNDS" (2000)) (List.mem_append_right _ (List.mem_append_right _ (by simp))))
  have i_MOST_SIGNS : ∃ t, mg "MOST_SIGNS" = some (.int (100000) t) := He.int_ok X G (c.facts (f := .int "MOST_SIGNS" (100000)) (List.mem_append_right _ (List.mem_append_right _ (by simp))))
  have mk_Float := He.mkr_ok (c.facts (f := .mkr "Float") (List.mem_append_right _ (List.mem_append_right _ (by simp))))
  have mt_Float_ratio := He.meth_ok (c.facts (f := .meth "Float" "ratio") (List.mem_append_right _ (List.mem_append_right _ (by simp))))
  have mt_Float_isfinite := He.meth_ok (c.facts (f := .meth "Float" "is_finite") (List.mem_append_right _ (List.mem_append_right _ (by simp))))
  have mk_Node := He.mkr_ok (c.facts (f := .mkr "Node") (List.mem_append_right _ (List.mem_append_right _ (by simp))))
  have mk_Table := He.mkr_ok (c.facts (f := .mkr "Table") (List.mem_append_right _ (List.mem_append_right _ (by simp))))
  have mt_Table_find := He.meth_ok (c.facts (f := .meth "Table" "find") (List.mem_append_right _ (List.mem_append_right _ (by simp))))
  have mt_Table_isinside := He.meth_ok (c.facts (f := .meth "Table" "is_inside") (List.mem_append_right _ (List.mem_append_right _ (by simp))))
  have mt_Table_get := He.meth_ok (c.facts (f := .meth "Table" "get") (List.mem_append_right _ (List.mem_append_right _ (by simp))))
  have mt_Table_freeplace := He.meth_ok (c.facts (f := .meth "Table" "free_place") (List.mem_append_right _ (List.mem_append_right _ (by simp))))
  have mt_Table_aheadof := He.meth_ok (c.facts (f := .meth "Table" "ahead_of") (List.mem_append_right _ (List.mem_append_right _ (by simp))))
  have mt_Table_putnew := He.meth_ok (c.facts (f := .meth "Table" "put_new") (List.mem_append_right _ (List.mem_append_right _ (by simp))))
  have mt_Table_put := He.meth_ok (c.facts (f := .meth "Table" "put") (List.mem_append_right _ (List.mem_append_right _ (by simp))))
  have mt_Table_resize := He.meth_ok (c.facts (f := .meth "Table" "resize") (List.mem_append_right _ (List.mem_append_right _ (by simp))))
  have mt_Table_grow := He.meth_ok (c.facts (f := .meth "Table" "grow") (List.mem_append_right _ (List.mem_append_right _ (by simp))))
  have mk_Native := He.mkr_ok (c.facts (f := .mkr "Native") (List.mem_append_right _ (List.mem_append_right _ (by simp))))
  have mt_Table_kindword := He.meth_ok (c.facts (f := .meth "Table" "kind_word") (List.mem_append_right _ (List.mem_append_right _ (by simp))))
  have mt_Native_kindword := He.meth_ok (c.facts (f := .meth "Native" "kind_word") (List.mem_append_right _ (List.mem_append_right _ (by simp))))
  have mt_Thrown_init := He.meth_ok (c.facts (f := .meth "Thrown" "__init__") (List.mem_append_right _ (List.mem_append_right _ (by simp))))
  have ex := cs.more
  unfold hex at ex
  simp only [Bool.and_eq_true] at ex
  obtain ⟨x1, x2, x3, x4, x5, x6, x7, x8, x9, x10, x11, x12, x13, xev⟩ := ex
  have T : FlC K mg (He.ga K "Float") := {
    own := ownB_ok x1, nS := noB_ok x2 (by simp), nT := noB_ok x2 (by simp), nP := noB_ok x2 (by simp), mg := glo "Float" (by simp [hglo]), yes := kitB'_ok x3 (by simp)
    fi := kitB'_ok x4 (by simp), fb := kitB'_ok x4 (by simp), fs := kitB'_ok x4 (by simp), fn := kitB'_ok x4 (by simp), fl := kitB'_ok x4 (by simp), ft := kitB'_ok x4 (by simp), fd := kitB'_ok x4 (by simp) }
  have O : ObC K (He.ga K "Float") (He.ga K "Table") := ⟨ownB_ok x5, kitB'_ok x4 (by simp)⟩
  have TT : TbC K mg (He.ga K "Table") := ⟨ownB_ok x5, noB_ok x6 (by simp), noB_ok x6 (by simp), noB_ok x6 (by simp), noB_ok x6 (by simp), noB_ok x6 (by simp), glo "Table" (by simp [hglo])⟩
  have TI := idB_ok x7
  have ON := ownB_ok x8
  have TN : NdC K mg (He.ga K "Node") := ⟨ON.cl, noB_ok x9 (by simp), noB_ok x9 (by simp), noB_ok x9 (by simp), noB_ok x9 (by simp), glo "Node" (by simp [hglo])⟩
  have NA : NaC K mg (He.ga K "Table") := ⟨_, glo "Native" (by simp [hglo]), kitB'_ok x10 (by simp)⟩
  have L : Cl3 (He.ga K "Float") (He.ga K "Table") (He.ga K "Node") := ⟨of_decide_eq_true x11, of_decide_eq_true x12, of_decide_eq_true x13⟩
  unfold evB at xev
  simp only [Bool.and_eq_true] at xev
  obtain ⟨xf, xi, xm, x6⟩ := xev
  unfold thB at x6
  simp only [Bool.and_eq_true, decide_eq_true_eq] at x6
  obtain ⟨y1, y2, y3, y4, y5, y6, y7, y8, y9, y10, y11, y12⟩ := x6
  have y11 : PySem.W.findCls K (.type "ArithmeticError") (.type "type") "__init__" = some (.val (.builtin "ArithmeticError.__init__")) := by
    split at y11
    · rename_i n e
      rw [e, eq_of_beq y11]
    · cases y11
  have TH : ThK K mg (He.ga K "Thrown") := {
    ax := ⟨y1, y2, y3, y4, y5, y6, y7⟩, nV := noB_ok y8 (by simp), nL := noB_ok y8 (by simp), xf := xfB_ok y9, te := y10, ae := He.free_ok X G (c.facts (f := .free "ArithmeticError") (List.mem_append_right _ (List.mem_append_right _ (by simp)))), vV := y11, mg := glo "Thrown" (by simp [hglo]) }
  have FC : FnC K mg (He.ga K "Float") (He.ga K "Table") (He.ga K "Node") (He.ga K "Native") := fnB_ok xf (glo "Native" (by simp [hglo]))
  have IC := idsB_ok xi
  have FA : FnA K mg (He.ga K "Float") (He.ga K "Table") (He.ga K "Native") (He.ga K "Function") (He.ga K "Wrapped") := fnAB_ok xm (glo "Function" (by simp [hglo])) (glo "Wrapped" (by simp [hglo]))
  obtain ⟨f_isplain, F_isplain⟩ := c.defs (d := d_isplain) (by simp [hfn])
  obtain ⟨f_reduced, F_reduced⟩ := c.defs (d := d_reduced) (by simp [hfn])
  obtain ⟨f_fits, F_fits⟩ := c.defs (d := d_fits) (by simp [hfn])
  obtain ⟨f_Float_init, F_Float_init⟩ := c.defs (d := d_Float_init) (by simp [hfn])
  obtain ⟨f_Float_ratio, F_Float_ratio⟩ := c.defs (d := d_Float_ratio) (by simp [hfn])
  obtain ⟨f_Float_isfinite, F_Float_isfinite⟩ := c.defs (d := d_Float_isfinite) (by simp [hfn])
  obtain ⟨f_isnumber, F_isnumber⟩ := c.defs (d := d_isnumber) (by simp [hfn])
  obtain ⟨f_wholeof, F_wholeof⟩ := c.defs (d := d_wholeof) (by simp [hfn])
  obtain ⟨f_placeof0, F_placeof0⟩ := c.defs (d := d_placeof0) (by simp [hfn])
  obtain ⟨f_orderof, F_orderof⟩ := c.defs (d := d_orderof) (by simp [hfn])
  obtain ⟨f_same, F_same⟩ := c.defs (d := d_same) (by simp [hfn])
  obtain ⟨f_sumof, F_sumof⟩ := c.defs (d := d_sumof) (by simp [hfn])
  obtain ⟨f_floatsum, F_floatsum⟩ := c.defs (d := d_floatsum) (by simp [hfn])
  obtain ⟨f_placeof1, F_placeof1⟩ := c.defs (d := d_placeof1) (by simp [hfn])
  obtain ⟨f_plainkey, F_plainkey⟩ := c.defs (d := d_plainkey) (by simp [hfn])
  obtain ⟨f_isnan, F_isnan⟩ := c.defs (d := d_isnan) (by simp [hfn])
  obtain ⟨f_iswhole, F_iswhole⟩ := c.defs (d := d_iswhole) (by simp [hfn])
  obtain ⟨f_powerfor, F_powerfor⟩ := c.defs (d := d_powerfor) (by simp [hfn])
  obtain ⟨f_bestsize, F_bestsize⟩ := c.defs (d := d_bestsize) (by simp [hfn])
  obtain ⟨f_Node_init, F_Node_init⟩ := c.defs (d := d_Node_init) (by simp [hfn])
  obtain ⟨f_Table_init, F_Table_init⟩ := c.defs (d := d_Table_init) (by simp [hfn])
  obtain ⟨f_Table_find, F_Table_find⟩ := c.defs (d := d_Table_find) (by simp [hfn])
  obtain ⟨f_Table_isinside, F_Table_isinside⟩ := c.defs (d := d_Table_isinside) (by simp [hfn])
  obtain ⟨f_Table_get, F_Table_get⟩ := c.defs (d := d_Table_get) (by simp [hfn])
  obtain ⟨f_Table_freeplace, F_Table_freeplace⟩ := c.defs (d := d_Table_freeplace) (by simp [hfn])
  obtain ⟨f_Table_aheadof, F_Table_aheadof⟩ := c.defs (d := d_Table_aheadof) (by simp [hfn])
  obtain ⟨f_Table_putnew, F_Table_putnew⟩ := c.defs (d := d_Table_putnew) (by simp [hfn])
  obtain ⟨f_Table_put, F_Table_put⟩ := c.defs (d := d_Table_put) (by simp [hfn])
  obtain ⟨f_Table_resize, F_Table_resize⟩ := c.defs (d := d_Table_resize) (by simp [hfn])
  obtain ⟨f_Table_grow, F_Table_grow⟩ := c.defs (d := d_Table_grow) (by simp [hfn])
  obtain ⟨f_Native_init, F_Native_init⟩ := c.defs (d := d_Native_init) (by simp [hfn])
  obtain ⟨f_Table_kindword, F_Table_kindword⟩ := c.defs (d := d_Table_kindword) (by simp [hfn])
  obtain ⟨f_Native_kindword, F_Native_kindword⟩ := c.defs (d := d_Native_kindword) (by simp [hfn])
  obtain ⟨f_kindname, F_kindname⟩ := c.defs (d := d_kindname) (by simp [hfn])
  obtain ⟨f_Thrown_init, F_Thrown_init⟩ := c.defs (d := d_Thrown_init) (by simp [hfn])
  obtain ⟨f_isfunction, F_isfunction⟩ := c.defs (d := d_isfunction) (by simp [hfn])
  obtain ⟨f_metaof, F_metaof⟩ := c.defs (d := d_metaof) (by simp [hfn])
  obtain ⟨f_compare, F_compare⟩ := c.defs (d := d_compare) (by simp [hfn])
  obtain ⟨f_setmeta, F_setmeta⟩ := c.defs (d := d_setmeta) (by simp [hfn])
  obtain ⟨f_toldmeta, F_toldmeta⟩ := c.defs (d := d_toldmeta) (by simp [hfn])
  obtain ⟨f_isclosable, F_isclosable⟩ := c.defs (d := d_isclosable) (by simp [hfn])
  obtain ⟨f_calltarget, F_calltarget⟩ := c.defs (d := d_calltarget) (by simp [hfn])
  obtain ⟨f_indexdeed, F_indexdeed⟩ := c.defs (d := d_indexdeed) (by simp [hfn])
  obtain ⟨f_storedeed, F_storedeed⟩ := c.defs (d := d_storedeed) (by simp [hfn])
  obtain ⟨f_shaped, F_shaped⟩ := c.defs (d := d_shaped) (by simp [hfn])
  obtain ⟨f_wrapped, F_wrapped⟩ := c.defs (d := d_wrapped) (by simp [hfn])
  obtain ⟨f_arith, F_arith⟩ := c.defs (d := d_arith) (by simp [hfn])
  obtain ⟨f_wholeorthrown, F_wholeorthrown⟩ := c.defs (d := d_wholeorthrown) (by simp [hfn])
  obtain ⟨f_bitnot, F_bitnot⟩ := c.defs (d := d_bitnot) (by simp [hfn])
  obtain ⟨f_arithdeed, F_arithdeed⟩ := c.defs (d := d_arithdeed) (by simp [hfn])
  obtain ⟨f_binarydeed, F_binarydeed⟩ := c.defs (d := d_binarydeed) (by simp [hfn])
  obtain ⟨f_unarydeed, F_unarydeed⟩ := c.defs (d := d_unarydeed) (by simp [hfn])
  obtain ⟨f_istext, F_istext⟩ := c.defs (d := d_istext) (by simp [hfn])
  obtain ⟨f_concatdeed, F_concatdeed⟩ := c.defs (d := d_concatdeed) (by simp [hfn])
  obtain ⟨f_lengthdeed, F_lengthdeed⟩ := c.defs (d := d_lengthdeed) (by simp [hfn])
  obtain ⟨f_equaldeed, F_equaldeed⟩ := c.defs (d := d_equaldeed) (by simp [hfn])
  obtain ⟨f_unlikedeed, F_unlikedeed⟩ := c.defs (d := d_unlikedeed) (by simp [hfn])
  obtain ⟨f_lessdeed, F_lessdeed⟩ := c.defs (d := d_lessdeed) (by simp [hfn])
  obtain ⟨f_Lcellat, F_Lcellat⟩ := c.defs (d := d_Lcellat) (by simp [hfn])
  obtain ⟨f_Lwell, F_Lwell⟩ := c.defs (d := d_Lwell) (by simp [hfn])
  obtain ⟨f_Ldraw, F_Ldraw⟩ := c.defs (d := d_Ldraw) (by simp [hfn])
  obtain ⟨f_Lnumbersright, F_Lnumbersright⟩ := c.defs (d := d_Lnumbersright) (by simp [hfn])
  obtain ⟨f_Lmetasright, F_Lmetasright⟩ := c.defs (d := d_Lmetasright) (by simp [hfn])
  obtain ⟨f_law, F_law⟩ := c.defs (d := d_law) (by simp [hfn])
  have e := hfa'.symm.trans (glo "law" (by simp [hglo]))
  cases e
  have b := FunD.bindsA (ps := ["_law_script"]) F_law fun _ _ _ _ _ _ us hl => match us, hl with | [_], _ => rfl
  refine ⟨f_law, fun s v => b s [v] rfl, fun base _ _ => ?_⟩
  have c_isplain : Fn P w K mg base CX0 1 "is_plain" _ [] _ := fn_mk F_isplain (glo "is_plain" (by simp [hglo])) (ok_isplain F_isplain B) (fun _ _ _ _ _ _ us hl => match us, hl with | [_], _ => rfl)
  have c_reduced : Fn P w K mg base CX0 1 "reduced" _ [] _ := fn_mk F_reduced (glo "reduced" (by simp [hglo])) (ok_reduced F_reduced B) (fun _ _ _ _ _ _ us hl => match us, hl with | [_, _], _ => rfl)
  have c_fits : Fn P w K mg base CX0 1 "fits" _ [] _ := fn_mk F_fits (glo "fits" (by simp [hglo])) (ok_fits F_fits B i_ROOM i_LOWEST i_TOO_GREAT) (fun _ _ _ _ _ _ us hl => match us, hl with | [_, _], _ => rfl)
  have c_Float : Cn P w K mg base CX0 2 "Float" (He.ga K "Float") _ [] _ := cn_mk F_Float_init mk_Float T.mg (ok_Finit F_Float_init B T c_isplain c_reduced c_fits) (fun _ _ _ _ _ _ us hl => match us, hl with | [_, _, _, _], _ => rfl)
  have c_Float_ratio : Mt P w K mg base CX0 1 (He.ga K "Float") "ratio" _ _ := mt_mk F_Float_ratio mt_Float_ratio T.own.cl (ok_ratio F_Float_ratio B T) (fun _ _ _ _ _ _ us hl => match us, hl with | [_], _ => rfl)
  have c_Float_isfinite : Mt P w K mg base CX0 1 (He.ga K "Float") "is_finite" _ _ := mt_mk F_Float_isfinite mt_Float_isfinite T.own.cl (ok_isfinite F_Float_isfinite B T) (fun _ _ _ _ _ _ us hl => match us, hl with | [_], _ => rfl)
  have c_isnumber : Fn P w K mg base CX0 2 "is_number" _ [] _ := fn_mk F_isnumber (glo "is_number" (by simp [hglo])) (ok_isnumber F_isnumber B T c_isplain) (fun _ _ _ _ _ _ us hl => match us, hl with | [_], _ => rfl)
  have c_wholeof : Fn P w K mg base CX0 2 "whole_of" _ [] _ := fn_mk F_wholeof (glo "whole_of" (by simp [hglo])) (ok_wholeof F_wholeof B T i_LEAST i_MOST c_Float_isfinite c_Float_ratio) (fun _ _ _ _ _ _ us hl => match us, hl with | [_], _ => rfl)
  have c_placeof0 : Fn P w K mg base CX0 2 "place_of_numbers" _ [] _ := fn_mk F_placeof0 (glo "place_of_numbers" (by simp [hglo])) (ok_placeof F_placeof0 B T i_TOO_GREAT c_Float_isfinite c_Float_ratio) (fun _ _ _ _ _ _ us hl => match us, hl with | [_], _ => rfl)
  have c_orderof : Fn P w K mg base CX0 3 "order_of" _ [] _ := fn_mk F_orderof (glo "order_of" (by simp [hglo])) (ok_orderof F_orderof B c_placeof0) (fun _ _ _ _ _ _ us hl => match us, hl with | [_, _], _ => rfl)
  have c_same : Fn P w K mg base CX0 4 "same" _ [] _ := fn_mk F_same (glo "same" (by simp [hglo])) (ok_same F_same B T O TI c_isnumber c_orderof) (fun _ _ _ _ _ _ us hl => match us, hl with | [_, _], _ => rfl)
  have c_sumof : Fn P w K mg base CX0 1 "sum_of" _ [] _ := fn_mk F_sumof (glo "sum_of" (by simp [hglo])) (ok_sumof F_sumof B) (fun _ _ _ _ _ _ us hl => match us, hl with | [_], _ => rfl)
  have c_floatsum : Fn P w K mg base CX0 2 "float_sum" _ [] _ := fn_mk F_floatsum (glo "float_sum" (by simp [hglo])) (ok_floatsum F_floatsum B T i_LOW_HALF c_Float_isfinite) (fun _ _ _ _ _ _ us hl => match us, hl with | [_], _ => rfl)
  have c_placeof1 : Fn P w K mg base CX0 3 "place_of_tables" _ [] _ := fn_mk F_placeof1 (glo "place_of_tables" (by simp [hglo])) (ok_placeofT F_placeof1 B T O NA TT c_sumof c_floatsum) (fun _ _ _ _ _ _ us hl => match us, hl with | [_, _], _ => rfl)
  have c_plainkey : Fn P w K mg base CX0 3 "plain_key" _ [] _ := fn_mk F_plainkey (glo "plain_key" (by simp [hglo])) (ok_plainkey F_plainkey B T O c_wholeof) (fun _ _ _ _ _ _ us hl => match us, hl with | [_], _ => rfl)
  have c_isnan : Fn P w K mg base CX0 1 "is_nan" _ [] _ := fn_mk F_isnan (glo "is_nan" (by simp [hglo])) (ok_isnan F_isnan B T O) (fun _ _ _ _ _ _ us hl => match us, hl with | [_], _ => rfl)
  have c_iswhole : Fn P w K mg base CX0 1 "is_whole" _ [] _ := fn_mk F_iswhole (glo "is_whole" (by simp [hglo])) (ok_iswhole F_iswhole B) (fun _ _ _ _ _ _ us hl => match us, hl with | [_], _ => rfl)
  have c_powerfor : Fn P w K mg base CX0 1 "power_for" _ [] _ := fn_mk F_powerfor (glo "power_for" (by simp [hglo])) (ok_powerfor F_powerfor B) (fun _ _ _ _ _ _ us hl => match us, hl with | [_], _ => rfl)
  have c_bestsize : Fn P w K mg base CX0 1 "best_size" _ [] _ := fn_mk F_bestsize (glo "best_size" (by simp [hglo])) (ok_bestsize F_bestsize B) (fun _ _ _ _ _ _ us hl => match us, hl with | [_], _ => rfl)
  have c_Node : Cn P w K mg base CX0 1 "Node" (He.ga K "Node") _ [] _ := cn_mk F_Node_init mk_Node TN.mg (ok_Ninit F_Node_init B TN) (fun _ _ _ _ _ _ us hl => match us, hl with | [_, _, _, _], _ => rfl)
  have o_Tinit := ok_Tinit (P := P) (w := w) (base := base) F_Table_init B TT c_powerfor
  have c_Table : CT1 P w K mg base (He.ga K "Table") := by
    obtain ⟨ds, r, b⟩ := FunD.binds (ps := psT) F_Table_init 2 0 (by simp [d_Table_init, He.DefD.dvs]) (by simp [d_Table_init, He.DefD.dvs, He.DefD.kws])
      (fun T D doc pm an cdv ct us its ks hu hi hk => match us, its, ks, hu, hi, hk with | [_, _], [_, _], [_], _, _, _ => ⟨_, rfl, _, _, _, _, _, _, rfl, rfl, rfl⟩) (by simp [d_Table_init, He.DefD.kws])
    exact ⟨_, f_Table_init, ds, o_Tinit, mk_Table, glo "Table" (by simp [hglo]), b, r⟩
  have c_Table3 : CT3 P w K mg base (He.ga K "Table") := by
    obtain ⟨ds, r, b⟩ := FunD.binds (ps := psT) F_Table_init 4 2 (by simp [d_Table_init, He.DefD.dvs]) (by simp [d_Table_init, He.DefD.dvs, He.DefD.kws])
      (fun T D doc pm an cdv ct us its ks hu hi hk => match us, its, ks, hu, hi, hk with | [_, _, _, _], [_, _], [_], _, _, _ => ⟨_, rfl, _, _, _, _, _, _, rfl, rfl, rfl⟩) (by simp [d_Table_init, He.DefD.kws])
    exact ⟨_, f_Table_init, ds, o_Tinit, mk_Table, glo "Table" (by simp [hglo]), b, r⟩
  have c_Table_find : Mt P w K mg base CX0 5 (He.ga K "Table") "find" _ _ := mt_mk F_Table_find mt_Table_find TT.own.cl (ok_find F_Table_find B TT TN c_placeof1 c_same) (fun _ _ _ _ _ _ us hl => match us, hl with | [_, _, _], _ => rfl)
  have c_Table_isinside : Mt P w K mg base CX0 2 (He.ga K "Table") "is_inside" _ _ := mt_mk F_Table_isinside mt_Table_isinside TT.own.cl (ok_isinside (N := He.ga K "Node") F_Table_isinside B TT T O c_iswhole) (fun _ _ _ _ _ _ us hl => match us, hl with | [_, _], _ => rfl)
  have c_Table_get : Mt P w K mg base CX0 6 (He.ga K "Table") "get" _ _ := mt_mk F_Table_get mt_Table_get TT.own.cl (ok_get F_Table_get B TT TN c_plainkey c_Table_isinside c_isnan c_Table_find) (fun _ _ _ _ _ _ us hl => match us, hl with | [_, _], _ => rfl)
  have c_Table_freeplace : Mt P w K mg base CX0 1 (He.ga K "Table") "free_place" _ _ := mt_mk F_Table_freeplace mt_Table_freeplace TT.own.cl (ok_freeplace F_Table_freeplace B L TT) (fun _ _ _ _ _ _ us hl => match us, hl with | [_], _ => rfl)
  have c_Table_aheadof : Mt P w K mg base CX0 4 (He.ga K "Table") "ahead_of" _ _ := mt_mk F_Table_aheadof mt_Table_aheadof TT.own.cl (ok_aheadof F_Table_aheadof B TT TN c_placeof1) (fun _ _ _ _ _ _ us hl => match us, hl with | [_, _, _], _ => rfl)
  have c_putnewS : Mt P w K mg base CX0 5 (He.ga K "Table") "put_new" _ _ := mt_mk F_Table_putnew mt_Table_putnew TT.own.cl (ok_putnewS F_Table_putnew B L TT TN c_placeof1 c_Node c_Table_freeplace c_Table_aheadof) (fun _ _ _ _ _ _ us hl => match us, hl with | [_, _, _], _ => rfl)
  have c_putS : CPutS P w K mg base (He.ga K "Float") (He.ga K "Table") (He.ga K "Node") := mt_mk F_Table_put mt_Table_put TT.own.cl (ok_putG (j := 0) (PutN KK) Room0 F_Table_put B L TT TN c_plainkey c_Table_isinside c_isnan c_Table_find c_putnewS) (fun _ _ _ _ _ _ us hl => match us, hl with | [_, _, _], _ => rfl)
  have c_Table_resize : Mt P w K mg base CX0 7 (He.ga K "Table") "resize" _ _ := mt_mk F_Table_resize mt_Table_resize TT.own.cl (ok_resize F_Table_resize B L TT TN c_powerfor c_putS) (fun _ _ _ _ _ _ us hl => match us, hl with | [_, _, _], _ => rfl)
  have c_Table_grow : Mt P w K mg base CX0 8 (He.ga K "Table") "grow" _ _ := mt_mk F_Table_grow mt_Table_grow TT.own.cl (ok_grow F_Table_grow B L TT TN T O i_MOST_PLACE c_iswhole c_bestsize c_Table_resize) (fun _ _ _ _ _ _ us hl => match us, hl with | [_, _], _ => rfl)
  have c_putnewF : Mt P w K mg base CX0 9 (He.ga K "Table") "put_new" _ _ := mt_mk F_Table_putnew mt_Table_putnew TT.own.cl (ok_putnewF F_Table_putnew B L TT TN c_placeof1 c_Node c_Table_grow c_putS c_Table_freeplace c_Table_aheadof) (fun _ _ _ _ _ _ us hl => match us, hl with | [_, _, _], _ => rfl)
  have c_put : CPutE P w K mg base (He.ga K "Float") (He.ga K "Table") (He.ga K "Node") := mt_mk F_Table_put mt_Table_put TT.own.cl (ok_putG (j := 4) PutNF Rm4 F_Table_put B L TT TN c_plainkey c_Table_isinside c_isnan c_Table_find c_putnewF) (fun _ _ _ _ _ _ us hl => match us, hl with | [_, _, _], _ => rfl)
  have c_Native : CNat P w K mg base (He.ga K "Native") := cn_mk F_Native_init mk_Native FC.mgN (ok_Natinit F_Native_init FC) (fun _ _ _ _ _ _ us hl => match us, hl with | [_, _, _], _ => rfl)
  have kwT : Mt P w K mg base CX0 1 (He.ga K "Table") "kind_word" ["self"] (sp_kw "table") := mt_mk F_Table_kindword mt_Table_kindword TT.own.cl (ok_kwT F_Table_kindword) (fun _ _ _ _ _ _ us hl => match us, hl with | [_], _ => rfl)
  have kwN : Mt P w K mg base CX0 1 (He.ga K "Native") "kind_word" ["self"] (sp_kw "function") := mt_mk F_Native_kindword mt_Native_kindword FC.own.cl (ok_kwN F_Native_kindword) (fun _ _ _ _ _ _ us hl => match us, hl with | [_], _ => rfl)
  have CK : CKw P w K mg base (He.ga K "Float") (He.ga K "Table") (He.ga K "Native") false := ⟨kwT, kwN, fun z => nomatch z⟩
  have c_kindname : Fn P w K mg base CX0 2 "kind_name" _ [] _ := fn_mk F_kindname (glo "kind_name" (by simp [hglo])) (ok_kindname F_kindname B T TT FC CK) (fun _ _ _ _ _ _ us hl => match us, hl with | [_], _ => rfl)
  have c_Thrown : CThr P w K mg base (He.ga K "Thrown") := by
    obtain ⟨ds, hd, hb⟩ := FunD.binds1 (ps := ["self", "value", "level"]) F_Thrown_init 2 0 (by show [V.int 1] ≠ []; simp) rfl (fun _ _ _ _ _ _ _ us its hu hi => match us, its, hu, hi with | [_, _], [_], _, _ => ⟨_, rfl, rfl⟩)
    exact ⟨TH, _, _, ds, mt_Thrown_init.at_, y12, ok_ThrInit F_Thrown_init TH, hb, hd⟩
  have c_isfunction : Fn P w K mg base CX0 1 "is_function" _ [] _ := fn_mk F_isfunction (glo "is_function" (by simp [hglo])) (ok_isfunction F_isfunction B T TT FC FA) (fun _ _ _ _ _ _ us hl => match us, hl with | [_], _ => rfl)
  have c_metaof : Fn P w K mg base CX0 7 "meta_of" _ [] _ := fn_mk F_metaof (glo "meta_of" (by simp [hglo])) (ok_metaof F_metaof B L T TT FC c_Table_get) (fun _ _ _ _ _ _ us hl => match us, hl with | [_, _], _ => rfl)
  have c_compare : Fn P w K mg base CX0 4 "compare" _ [] _ := fn_mk F_compare (glo "compare" (by simp [hglo])) (ok_compare F_compare B c_orderof) (fun _ _ _ _ _ _ us hl => match us, hl with | [_, _, _], _ => rfl)
  have c_setmetaK : FnK P w K mg base CX0 8 "set_meta" ["table", "meta"] 0 ["meta", "table"] gR (sp_setmeta0 (He.ga K "Float") (He.ga K "Table") (He.ga K "Node")) := fnk_mk F_setmeta (glo "set_meta" (by simp [hglo])) (no_setmetaD (ok_setmeta F_setmeta B L TT c_Thrown c_metaof)) (fun _ _ _ _ _ _ us ws hu hw => match us, ws, hu, hw with | [], [_, _], _, _ => rfl)
  have c_toldmetaK : FnK P w K mg base CX0 7 "told_meta" ["value"] 0 ["value"] gR (sp_toldmeta (He.ga K "Float") (He.ga K "Table") (He.ga K "Node") (He.ga K "Native")) := fnk_mk F_toldmeta (glo "told_meta" (by simp [hglo])) (ok_toldmeta F_toldmeta B L T TT FC c_Table_get) (fun _ _ _ _ _ _ us ws hu hw => match us, ws, hu, hw with | [], [_], _, _ => rfl)
  have c_isclosableK : FnK P w K mg base CX0 8 "is_closable" ["value"] 0 ["value"] gR (sp_isclosable (He.ga K "Float") (He.ga K "Table") (He.ga K "Node") (He.ga K "Native")) := fnk_mk F_isclosable (glo "is_closable" (by simp [hglo])) (ok_isclosable F_isclosable B c_metaof) (fun _ _ _ _ _ _ us ws hu hw => match us, ws, hu, hw with | [], [_], _, _ => rfl)
  have c_calltargetK : FnK P w K mg base CX0 8 "call_target" ["called", "args"] 0 ["args", "called"] gR (sp_call0 (He.ga K "Float") (He.ga K "Table") (He.ga K "Node") (He.ga K "Native") (He.ga K "Thrown")) := fnk_mk F_calltarget (glo "call_target" (by simp [hglo])) (no_callD (ok_calltarget (fl := false) F_calltarget B i_MOST_CALLED c_Thrown c_isfunction c_metaof c_kindname)) (fun _ _ _ _ _ _ us ws hu hw => match us, ws, hu, hw with | [], [_, _], _, _ => rfl)
  have c_indexdeedK : FnK P w K mg base CX0 8 "index_deed" ["thing", "key"] 0 ["key", "thing"] gR (sp_index0 (He.ga K "Float") (He.ga K "Table") (He.ga K "Node") (He.ga K "Native") (He.ga K "Thrown")) := fnk_mk F_indexdeed (glo "index_deed" (by simp [hglo])) (no_indexD (ok_index (fl := false) F_indexdeed B i_MOST_ROUNDS T TT FC c_Thrown c_isfunction c_metaof c_kindname c_Table_get)) (fun _ _ _ _ _ _ us ws hu hw => match us, ws, hu, hw with | [], [_, _], _, _ => rfl)
  have c_storedeedK : FnK P w K mg base CX0 11 "store_deed" ["thing", "key", "value"] 0 ["value", "key", "thing"] gR (sp_store0 (He.ga K "Float") (He.ga K "Table") (He.ga K "Node") (He.ga K "Native") (He.ga K "Thrown")) := fnk_mk F_storedeed (glo "store_deed" (by simp [hglo])) (no_storeD (ok_store (fl := false) F_storedeed B L i_MOST_ROUNDS T TT FC c_Thrown c_isfunction c_metaof c_kindname c_Table_get c_put)) (fun _ _ _ _ _ _ us ws hu hw => match us, ws, hu, hw with | [], [_, _, _], _, _ => rfl)
  have c_shapedK : FnK P w K mg base CX0 1 "shaped" ["values", "shape"] 0 ["shape", "values"] gR sp_shaped := fnk_mk F_shaped (glo "shaped" (by simp [hglo])) (ok_shaped F_shaped B) (fun _ _ _ _ _ _ us ws hu hw => match us, ws, hu, hw with | [], [_, _], _, _ => rfl)
  have c_metaofK : FnK P w K mg base CX0 7 "meta_of" ["value", "name"] 0 ["name", "value"] gR (sp_metaof (He.ga K "Float") (He.ga K "Table") (He.ga K "Node") (He.ga K "Native")) := fnk_mk F_metaof (glo "meta_of" (by simp [hglo])) (ok_metaof F_metaof B L T TT FC c_Table_get) (fun _ _ _ _ _ _ us ws hu hw => match us, ws, hu, hw with | [], [_, _], _, _ => rfl)
  have c_kindnameK : FnK P w K mg base CX0 2 "kind_name" ["value"] 0 ["value"] gR (sp_kindname (He.ga K "Float") (He.ga K "Table") (He.ga K "Node") (He.ga K "Native") false) := fnk_mk F_kindname (glo "kind_name" (by simp [hglo])) (ok_kindname F_kindname B T TT FC CK) (fun _ _ _ _ _ _ us ws hu hw => match us, ws, hu, hw with | [], [_], _, _ => rfl)
  have c_NativeK : CnK P w K mg base CX0 1 "Native" (He.ga K "Native") ["self", "name", "act"] 0 ["act", "name"] gR (sp_Natinit (He.ga K "Native")) := ⟨_, _, _, ok_Natinit F_Native_init FC, mk_Native, FC.mgN, kbnR F_Native_init (fun _ _ _ _ _ _ us ws hu hw => match us, ws, hu, hw with | [_], [_, _], _, _ => rfl)⟩
  have c_ThrownK : CThrK P w K mg base (He.ga K "Thrown") := by
    obtain ⟨its, kb⟩ := kbnD (ps := ["self", "value", "level"]) F_Thrown_init 1 ["value"] (fun us its ws => us ++ (ws ++ its)) (by show [V.int 1] ≠ []; simp) (fun r1 r2 r3 => r1.append (r3.append r2)) (fun _ _ _ _ _ _ _ us its ws hu hi hw => match us, its, ws, hu, hi, hw with | [_], [_], [_], _, _, _ => ⟨_, rfl, rfl⟩)
    exact ⟨TH, _, _, _, mt_Thrown_init.at_, y12, ok_ThrInit F_Thrown_init TH, kb⟩
  have c_wrapped : Fn P w K mg base CX0 1 "wrapped" _ [] _ := fn_mk F_wrapped (glo "wrapped" (by simp [hglo])) (ok_wrapped F_wrapped) (fun _ _ _ _ _ _ us hl => match us, hl with | [_], _ => rfl)
  have c_arith : Fn P w K mg base CX0 2 "arith" _ [] _ := fn_mk F_arith (glo "arith" (by simp [hglo])) (ok_arithI F_arith B T c_wrapped) (fun _ _ _ _ _ _ us hl => match us, hl with | [_, _, _], _ => rfl)
  have c_wholeorthrown : Fn P w K mg base CX0 3 "whole_or_thrown" _ [] _ := fn_mk F_wholeorthrown (glo "whole_or_thrown" (by simp [hglo])) (ok_wotI F_wholeorthrown c_wholeof) (fun _ _ _ _ _ _ us hl => match us, hl with | [_], _ => rfl)
  have c_bitnot : Fn P w K mg base CX0 4 "bit_not" _ [] _ := fn_mk F_bitnot (glo "bit_not" (by simp [hglo])) (ok_notI F_bitnot c_wholeorthrown) (fun _ _ _ _ _ _ us hl => match us, hl with | [_], _ => rfl)
  have c_arithdeed : Fn P w K mg base CX0 3 "arith_deed" _ [] _ := fn_mk F_arithdeed (glo "arith_deed" (by simp [hglo])) (ok_arithdI F_arithdeed T c_isnumber c_arith) (fun _ _ _ _ _ _ us hl => match us, hl with | [_, _, _], _ => rfl)
  have c_arithdeedK : FnK P w K mg base CX0 3 "arith_deed" ["word", "one", "other"] 0 ["other", "one", "word"] gR sp_arithdI := fnk_mk F_arithdeed (glo "arith_deed" (by simp [hglo])) (ok_arithdI F_arithdeed T c_isnumber c_arith) (fun _ _ _ _ _ _ us ws hu hw => match us, ws, hu, hw with | [], [_, _, _], _, _ => rfl)
  have c_binarydeedK : FnK P w K mg base CX0 4 "binary_deed" ["word", "one", "other"] 0 ["other", "one", "word"] gR sp_arithdI := fnk_mk F_binarydeed (glo "binary_deed" (by simp [hglo])) (ok_binI F_binarydeed B c_arithdeed) (fun _ _ _ _ _ _ us ws hu hw => match us, ws, hu, hw with | [], [_, _, _], _, _ => rfl)
  have c_unarydeedK : FnK P w K mg base CX0 5 "unary_deed" ["word", "one"] 0 ["one", "word"] gR sp_unI := fnk_mk F_unarydeed (glo "unary_deed" (by simp [hglo])) (ok_unI F_unarydeed T c_isnumber c_bitnot) (fun _ _ _ _ _ _ us ws hu hw => match us, ws, hu, hw with | [], [_, _], _, _ => rfl)
  have c_istext : Fn P w K mg base CX0 3 "is_text" _ [] _ := fn_mk F_istext (glo "is_text" (by simp [hglo])) (ok_istextS (C := He.ga K "Float") F_istext B c_isnumber) (fun _ _ _ _ _ _ us hl => match us, hl with | [_], _ => rfl)
  have c_concatdeedK : FnK P w K mg base CX0 4 "concat_deed" ["one", "other"] 0 ["other", "one"] gR sp_concatS := fnk_mk F_concatdeed (glo "concat_deed" (by simp [hglo])) (ok_concatS F_concatdeed B i_MOST_SIGNS c_istext) (fun _ _ _ _ _ _ us ws hu hw => match us, ws, hu, hw with | [], [_, _], _, _ => rfl)
  have c_lengthdeedK : FnK P w K mg base CX0 1 "length_deed" ["one"] 0 ["one"] gR sp_lenS := fnk_mk F_lengthdeed (glo "length_deed" (by simp [hglo])) (ok_lenS F_lengthdeed B) (fun _ _ _ _ _ _ us ws hu hw => match us, ws, hu, hw with | [], [_], _, _ => rfl)
  have o_eqI := ok_eqI (P := P) (w := w) (base := base) F_equaldeed B TT FC c_same
  have c_equaldeed : Fn P w K mg base CX0 5 "equal_deed" _ [] _ := fn_mk F_equaldeed (glo "equal_deed" (by simp [hglo])) o_eqI (fun _ _ _ _ _ _ us hl => match us, hl with | [_, _], _ => rfl)
  have c_equaldeedK : FnK P w K mg base CX0 5 "equal_deed" ["one", "other"] 0 ["other", "one"] gR sp_eqI := fnk_mk F_equaldeed (glo "equal_deed" (by simp [hglo])) (o_eqI) (fun _ _ _ _ _ _ us ws hu hw => match us, ws, hu, hw with | [], [_, _], _, _ => rfl)
  have c_unlikedeedK : FnK P w K mg base CX0 6 "unlike_deed" ["one", "other"] 0 ["other", "one"] gR sp_neI := fnk_mk F_unlikedeed (glo "unlike_deed" (by simp [hglo])) (ok_neI F_unlikedeed B c_equaldeed) (fun _ _ _ _ _ _ us ws hu hw => match us, ws, hu, hw with | [], [_, _], _, _ => rfl)
  have c_lessdeedK : FnK P w K mg base CX0 5 "less_deed" ["word", "one", "other"] 0 ["other", "one", "word"] gR sp_ltI := fnk_mk F_lessdeed (glo "less_deed" (by simp [hglo])) (ok_ltI F_lessdeed B T c_isnumber c_compare) (fun _ _ _ _ _ _ us ws hu hw => match us, ws, hu, hw with | [], [_, _, _], _, _ => rfl)
  have c_Lcellat : Fn P w K mg base CX0 1 "_law_cell_at" _ [] _ := fn_mk F_Lcellat (glo "_law_cell_at" (by simp [hglo])) (ok_Lcellat F_Lcellat B) (fun _ _ _ _ _ _ us hl => match us, hl with | [_, _], _ => rfl)
  have c_Lwell : Fn P w K mg base CX0 1 "_law_well" _ [] _ := fn_mk F_Lwell (glo "_law_well" (by simp [hglo])) (ok_Lwl F_Lwell B) (fun _ _ _ _ _ _ us hl => match us, hl with | [_], _ => rfl)
  have c_Ldraw : Fn P w K mg base CX0 1 "_law_draw" _ [] _ := fn_mk F_Ldraw (glo "_law_draw" (by simp [hglo])) (ok_Lz F_Ldraw B) (fun _ _ _ _ _ _ us hl => match us, hl with | [_, _], _ => rfl)
  have c_Lnumbersright : Fn P w K mg base CX0 7 "_law_numbers_right" _ [] _ := fn_mk F_Lnumbersright (glo "_law_numbers_right" (by simp [hglo])) (ok_Lnum F_Lnumbersright B c_arithdeedK c_binarydeedK c_unarydeedK c_concatdeedK c_lengthdeedK c_equaldeedK c_unlikedeedK c_lessdeedK) (fun _ _ _ _ _ _ us hl => match us, hl with | [_, _], _ => rfl)
  have c_Lmetasright : Fn P w K mg base CX0 12 "_law_metas_right" _ [] _ := fn_mk F_Lmetasright (glo "_law_metas_right" (by simp [hglo])) (ok_Lmetas (T := []) F_Lmetasright B L T TT FC IC (by simp) (by simp) c_Table c_NativeK c_put c_Table_get c_setmetaK c_toldmetaK c_metaofK c_indexdeedK c_storedeedK c_calltargetK c_isclosableK c_shapedK c_kindnameK c_ThrownK) (fun _ _ _ _ _ _ us hl => match us, hl with | [_], _ => rfl)
  exact ok_law F_law B L c_Lcellat c_Lwell c_Ldraw c_Lnumbersright c_Lmetasright
end Up
open PySem PySem.W PySem.Calls PyProof.Rows
theorem PySem.Challenge.cw_upvalues_k34_deeds_asked_by_names_holds : PySem.Challenge.rw_upvalues_k34_deeds_asked_by_names.Holds := by
  w_on; o_law
  refine HandSHeadRun.head_any (r := OpenLaw.row PySem.Challenge.rw_upvalues_k34_deeds_asked_by_names) (q := view (OpenLaw.row PySem.Challenge.rw_upvalues_k34_deeds_asked_by_names).prog [98]) (H := Up.hk) (ob := Up.hob) (M := 6000) (loose := Up.hloose) (d := HandSHeadRun.topDef (OpenLaw.row PySem.Challenge.rw_upvalues_k34_deeds_asked_by_names).prog 98) (kwd := []) Up.hob_eq
    (by kernel_rfl) (fun s => by kernel_rfl) Up.hrun (by kernel_rfl) (by kernel_rfl) (by kernel_rfl) (by rfl) (by first | assumption | decide +kernel) (by decide +kernel) ⟨rfl, rfl, rfl, rfl, rfl, by decide +kernel⟩ ?hw ?hc
  case hw => w_witness2
  case hc =>
    refine L2.walk_ofE (l := PySem.Challenge.rw_upvalues_k34_deeds_asked_by_names) (n := 63) (k := 14) (x := "_law_script") (CX := L2.CX0) rfl (by decide) (by kernel_rfl) ⟨rfl, by decide, by decide⟩ ?F (fun _ _ _ _ z => z)
    intro w mg fa h Y G hmg0
    obtain ⟨K, KX, c⟩ := Y
    have hmg : mg ("law" : PySem.Str) = some (.ref fa) := by
      have e : (HandSHeadRun.topDef (OpenLaw.row PySem.Challenge.rw_upvalues_k34_deeds_asked_by_names).prog 98).name = ("law" : PySem.Str) := by kernel_rfl
      rw [← e]
      exact hmg0
    obtain ⟨fd, hb, hF⟩ := Up.facts (P := (PySem.Challenge.rw_upvalues_k34_deeds_asked_by_names).prog) (w := w) KX G hmg c
    exact ⟨K, fd, Up.spLaw K, KX, hb, fun H a ns hl _ hS => ⟨a, ns, rfl, hS, hl, fun _ => rfl⟩, hF⟩
#print axioms PySem.Challenge.cw_upvalues_k34_deeds_asked_by_names_holds
