import PyProof.Rows.All
import Wide.All
import OpenK.AllK
import Wide.FinOn
import PyProof.EqAt
import PyProof.EqKinds
import PyProof.TupleCall
import HandS.ForMost
import HandS.IsInst
import HandS.Wide
import HandS.WideBits
import HandS.TupAny
import HandS.Deep
import HandS.Flow
import HandS.Defaults
import HandS.Exc
import HandS.WordsExc
import HandS.Codes
import HandS.More
import PyProof.NeKinds
import PyProof.StrOps2
import HandS.Style
import HandS.MakeKwOnly
import HandS.FStr
import HandS.StrMore
import KE.KExcInit
import KE.KExcSuper
import HandS.ExcInit
import HandS.ExcField
import HandS.ExcIs
import KE.KDictZip
import HandS.Conv
import PyProof.ListRange
import PyProof.StrWalks
import HandS.Walk
import HandS.Replace
import KE.KIntText
import HandS.Text
import OpenK.KCls
import PyProof.TableCode
import KE.KStateDown
import HandS.Head0
import HandS.Head1
import HandS.Head2
import HandS.HeadEnd
import HandS.HeadHook1
import HandS.HeadHook2
import HandS.HeadHook3
import HandS.HeadHook4
import PySem.Challenge.RW_upvalues_k07_whole_numbers_read_from_tex
set_option Elab.async false
set_option linter.all false
set_option maxRecDepth 100000
set_option maxHeartbeats 4000000
namespace Up
open PySem PySem.Spec PyProof.Rows L2
def top (i : Nat) : Stmt := PySem.Challenge.pw_upvalues_k07_whole_numbers_read_from_tex.main.body.getD i (.Pass ⟨0, 0, 0, 0⟩)
def bltNames : List Str := ["len", "int", "bool", "str", "isinstance", "abs", "max", "min", "divmod", "range", "enumerate", "zip", "list", "tuple", "ord", "sorted"]
abbrev s_isplain : Stmt := top 10
abbrev s_reduced : Stmt := top 11
abbrev s_fits : Stmt := top 12
abbrev s_signof : Stmt := top 13
abbrev s_Float_init : Stmt := inClass (top 9) 0
abbrev s_Float_isfinite : Stmt := inClass (top 9) 4
abbrev s_Float_ratio : Stmt := inClass (top 9) 5
abbrev s_infinity : Stmt := top 14
abbrev s_nearest : Stmt := top 15
abbrev s_Float_eq : Stmt := inClass (top 9) 2
abbrev s_tentimes : Stmt := top 27
abbrev s_placeoffirst : Stmt := top 29
abbrev s_roundedat : Stmt := top 30
abbrev s_shown : Stmt := top 28
abbrev s_textof : Stmt := top 26
abbrev aeT : List Value := [.type "ArithmeticError", .type "Exception", .type "BaseException", .type "object"]
abbrev s_Lwell : Stmt := top 38
abbrev s_Ldraw : Stmt := top 39
abbrev s_Lone : Stmt := top 40
abbrev s_Lgreat : Stmt := top 41
abbrev s_Lfinite : Stmt := top 42
abbrev s_Lfloat : Stmt := top 43
abbrev s_Lratio : Stmt := top 44
abbrev s_Lscaled : Stmt := top 46
abbrev s_Lisnearest : Stmt := top 45
abbrev s_wrapped : Stmt := top 17
abbrev s_ismadeof : Stmt := top 32
abbrev s_readhex : Stmt := top 33
abbrev s_scaled : Stmt := top 36
abbrev s_readwhole : Stmt := top 34
abbrev s_readfloat : Stmt := top 35
abbrev s_readnumber : Stmt := top 31
abbrev s_Lfigures : Stmt := top 47
abbrev s_Lhalf : Stmt := top 48
abbrev s_Ltext : Stmt := top 49
abbrev s_Lbent : Stmt := top 50
abbrev s_Lrun : Stmt := top 51
abbrev s_Lreadfar : Stmt := top 53
abbrev s_Lread : Stmt := top 52
abbrev s_Lright : Stmt := top 54
abbrev s_Lbackright : Stmt := top 55
abbrev s_Llongright : Stmt := top 56
abbrev s_isnumber : Stmt := top 16
abbrev s_placeof : Stmt := top 19
abbrev s_orderof : Stmt := top 18
abbrev s_same : Stmt := top 20
abbrev s_law : Stmt := top 57
def ownB (K : PySem.W.Frag) (C : Addr) : Bool :=
  PySem.W.plainGet K C Str.empty && (PySem.W.hasDictIn K C && (PySem.W.plainOver K C && (decide (PySem.W.findIn K (.ref C) "__setattr__" = some (some (.builtin "object.__setattr__"))) &&
  (decide (PySem.W.findIn K (.ref C) "__class__" = some (some (.builtin "object.__class__"))) && (decide (PySem.W.specialIn K (.builtin "object.__class__") "__get__" = some (some (.builtin "getset_descriptor.__get__"))) &&
  (decide (PySem.W.takesIn K (.builtin "object.__class__") = some true) && (decide (PySem.W.mroIn K C (.type "object") = some true) && (decide (PySem.W.kitOne K (.ref C) (.type "int") = some false) &&
  (decide (PySem.W.kitOne K (.ref C) (.type "bool") = some false) && decide (PySem.W.kitOne K (.ref C) (.type "str") = some false))))))))))
def idB (K : PySem.W.Frag) (C : Addr) : Bool := decide (PySem.W.mroIn K C (.type "object") = some true) && (decide (PySem.W.findIn K (.ref C) "__eq__" = some (some (.builtin "object.__eq__"))) && decide (PySem.W.subIn K (.ref C) (.type "NoneType") = some false))
def noB (K : PySem.W.Frag) (C : Addr) (xs : List Str) : Bool := xs.all fun f => decide (PySem.W.findIn K (.ref C) f = some none)
def kitB' (K : PySem.W.Frag) (C : Addr) (b : Bool) (xs : List Value) : Bool := xs.all fun t => decide (PySem.W.kitOne K t (.ref C) = some b)
end Up
set_option Elab.async false
set_option linter.all false
set_option maxRecDepth 100000
set_option maxHeartbeats 4000000
namespace Up
open PySem PySem.Spec PyProof.Rows L2
/-! ### a smaller head: the objects that are looked at are picked out (globals, what their classes name, what defs name), no closure by rounds -/
abbrev GT : Type := Addr → Option Obj
def rfS (g : GT) (a : Addr) : List Addr := match g a with
  | some o => He.refsD o
  | none => []
def isCS (g : GT) (a : Addr) : Bool := match g a with
  | some ⟨_, _, .cls _, _⟩ => true
  | _ => false
def fnS (g : GT) (a : Addr) : List Addr := match g a with
  | some ⟨_, _, .func fd, _⟩ => He.refV fd.defaults ++ (He.refV fd.kwdefaults ++ He.refV fd.code)
  | _ => []
def clsS (g : GT) (as : List Addr) : List Addr := (as.filter (isCS g)).flatMap (rfS g)
def allS (g : GT) (a1 a2 a3 : List Addr) : List Addr := cStatics :: mainGlobals :: (a1 ++ (a2 ++ (a3 ++ ((a1 ++ a3).flatMap (fnS g)))))
def selS (g : GT) : List Addr := allS g (rfS g mainGlobals) (clsS g (rfS g mainGlobals)) ((clsS g (rfS g mainGlobals)).flatMap (rfS g))
def fgS (g : GT) : PySem.W.Frag := He.frT g (selS g)
section
variable {fa : List He.Fa} {fn : List He.DefD} {ts : List He.Tab} {tf : List He.Defn} {ex : PySem.W.Frag → Bool} {w : World} {g : GT}
def obsS (fa : List He.Fa) (fn : List He.DefD) (ts : List He.Tab) (tf : List He.Defn) (ex : PySem.W.Frag → Bool) (g : GT) : He.AlX := (He.obsT fa fn ts (fgS g), ex (fgS g) && He.tabsB g tf (fgS g))
theorem tabS_of (h : He.tabsB g tf (fgS g) = true) {p : He.Defn} (hp : p ∈ tf) : PySem.W.codeHdIn (fgS g) (He.cT (fgS g) p).1 (He.cT (fgS g) p).2 = true ∧ ∃ o, g (He.cT (fgS g) p).2 = some o ∧ He.emptyTab o = true := by
  have z := List.all_eq_true.mp h p hp
  rw [Bool.and_eq_true] at z
  refine ⟨z.1, ?_⟩
  have z2 := z.2
  cases e : g (He.cT (fgS g) p).2 with
  | some o => rw [e] at z2; exact ⟨o, rfl, z2⟩
  | none => rw [e] at z2; cases z2
theorem saysS {h : Heap} (e : obsS fa fn ts tf ex h.get? = He.valX fn ts w) : He.SaysX fa fn ts tf ex w h (fgS h.get?) := by
  have a : He.obsT fa fn ts (fgS h.get?) = He.valT fn ts w := congrArg Prod.fst e
  have b : (ex (fgS h.get?) && He.tabsB h.get? tf (fgS h.get?)) = true := congrArg Prod.snd e
  rw [Bool.and_eq_true] at b
  refine { t := a, more := b.1, hd := fun p hp => (tabS_of b.2 hp).1, out := fun p hp => ?_, empty := fun p hp => ?_ }
  · have ⟨_, o, q, z⟩ := tabS_of b.2 hp
    exact He.frT_none q z
  · have ⟨_, o, q, z⟩ := tabS_of b.2 hp
    rw [← He.emptyTab_eq z]
    exact q
end
def hookS (fa : List He.Fa) (fn : List He.DefD) (ts : List He.Tab) (tf : List He.Defn) (ex : PySem.W.Frag → Bool) : PySem.W.Hook where
  α := He.AlX
  obs := fun s => obsS fa fn ts tf ex s.heap.get?
  val := fun w => He.valX fn ts w
  says := (He.hookX 0 fa fn ts tf ex).says
  of := fun _ _ e => ⟨_, He.frT_in, saysS e⟩
  keeps := (He.hookX 0 fa fn ts tf ex).keeps
theorem obsS_eq {fa : List He.Fa} {fn : List He.DefD} {ts : List He.Tab} {tf : List He.Defn} {ex : PySem.W.Frag → Bool} {g : GT} {s : Shared} (h : ∀ a, g a = s.heap.get? a) : obsS fa fn ts tf ex g = (hookS fa fn ts tf ex).obs s := by
  show obsS fa fn ts tf ex g = obsS fa fn ts tf ex s.heap.get?
  rw [funext h]
end Up

set_option Elab.async false
set_option linter.all false
set_option maxRecDepth 100000
set_option maxHeartbeats 0
set_option pp.maxSteps 300
namespace Up
open PySem PySem.Spec PyProof.Rows L2
def d_isplain : He.DefD := ⟨("is_plain", none), "is_plain", "is_plain", defArgs s_isplain, defBody s_isplain, defScope s_isplain, [], []⟩
def d_reduced : He.DefD := ⟨("reduced", none), "reduced", "reduced", defArgs s_reduced, defBody s_reduced, defScope s_reduced, [], []⟩
def d_fits : He.DefD := ⟨("fits", none), "fits", "fits", defArgs s_fits, defBody s_fits, defScope s_fits, [], []⟩
def d_signof : He.DefD := ⟨("sign_of", none), "sign_of", "sign_of", defArgs s_signof, defBody s_signof, defScope s_signof, [], []⟩
def d_Float_init : He.DefD := ⟨("Float", some "__init__"), "__init__", "Float.__init__", defArgs s_Float_init, defBody s_Float_init, defScope s_Float_init, [], []⟩
def d_Float_isfinite : He.DefD := ⟨("Float", some "is_finite"), "is_finite", "Float.is_finite", defArgs s_Float_isfinite, defBody s_Float_isfinite, defScope s_Float_isfinite, [], []⟩
def d_Float_ratio : He.DefD := ⟨("Float", some "ratio"), "ratio", "Float.ratio", defArgs s_Float_ratio, defBody s_Float_ratio, defScope s_Float_ratio, [], []⟩
def d_Float_eq : He.DefD := ⟨("Float", some "__eq__"), "__eq__", "Float.__eq__", defArgs s_Float_eq, defBody s_Float_eq, defScope s_Float_eq, [], []⟩
def d_infinity : He.DefD := ⟨("infinity", none), "infinity", "infinity", defArgs s_infinity, defBody s_infinity, defScope s_infinity, [], []⟩
def d_nearest : He.DefD := ⟨("nearest", none), "nearest", "nearest", defArgs s_nearest, defBody s_nearest, defScope s_nearest, [], []⟩
def d_isnumber : He.DefD := ⟨("is_number", none), "is_number", "is_number", defArgs s_isnumber, defBody s_isnumber, defScope s_isnumber, [], []⟩
def d_wrapped : He.DefD := ⟨("wrapped", none), "wrapped", "wrapped", defArgs s_wrapped, defBody s_wrapped, defScope s_wrapped, [], []⟩
def d_placeof : He.DefD := ⟨("place_of", none), "place_of", "place_of", defArgs s_placeof, defBody s_placeof, defScope s_placeof, [], []⟩
def d_orderof : He.DefD := ⟨("order_of", none), "order_of", "order_of", defArgs s_orderof, defBody s_orderof, defScope s_orderof, [], []⟩
def d_same : He.DefD := ⟨("same", none), "same", "same", defArgs s_same, defBody s_same, defScope s_same, [], []⟩
def d_tentimes : He.DefD := ⟨("ten_times", none), "ten_times", "ten_times", defArgs s_tentimes, defBody s_tentimes, defScope s_tentimes, [], []⟩
def d_placeoffirst : He.DefD := ⟨("place_of_first", none), "place_of_first", "place_of_first", defArgs s_placeoffirst, defBody s_placeoffirst, defScope s_placeoffirst, [], []⟩
def d_roundedat : He.DefD := ⟨("rounded_at", none), "rounded_at", "rounded_at", defArgs s_roundedat, defBody s_roundedat, defScope s_roundedat, [], []⟩
def d_shown : He.DefD := ⟨("shown", none), "shown", "shown", defArgs s_shown, defBody s_shown, defScope s_shown, [], []⟩
def d_textof : He.DefD := ⟨("text_of", none), "text_of", "text_of", defArgs s_textof, defBody s_textof, defScope s_textof, [], []⟩
def d_ismadeof : He.DefD := ⟨("is_made_of", none), "is_made_of", "is_made_of", defArgs s_ismadeof, defBody s_ismadeof, defScope s_ismadeof, [], []⟩
def d_readhex : He.DefD := ⟨("read_hex", none), "read_hex", "read_hex", defArgs s_readhex, defBody s_readhex, defScope s_readhex, [], []⟩
def d_scaled : He.DefD := ⟨("scaled", none), "scaled", "scaled", defArgs s_scaled, defBody s_scaled, defScope s_scaled, [], []⟩
def d_readwhole : He.DefD := ⟨("read_whole", none), "read_whole", "read_whole", defArgs s_readwhole, defBody s_readwhole, defScope s_readwhole, [], []⟩
def d_readfloat : He.DefD := ⟨("read_float", none), "read_float", "read_float", defArgs s_readfloat, defBody s_readfloat, defScope s_readfloat, [], []⟩
def d_readnumber : He.DefD := ⟨("read_number", none), "read_number", "read_number", defArgs s_readnumber, defBody s_readnumber, defScope s_readnumber, [], []⟩
def d_Lwell : He.DefD := ⟨("_law_well", none), "_law_well", "_law_well", defArgs s_Lwell, defBody s_Lwell, defScope s_Lwell, [], []⟩
def d_Ldraw : He.DefD := ⟨("_law_draw", none), "_law_draw", "_law_draw", defArgs s_Ldraw, defBody s_Ldraw, defScope s_Ldraw, [], []⟩
def d_Lone : He.DefD := ⟨("_law_one", none), "_law_one", "_law_one", defArgs s_Lone, defBody s_Lone, defScope s_Lone, [], []⟩
def d_Lgreat : He.DefD := ⟨("_law_great", none), "_law_great", "_law_great", defArgs s_Lgreat, defBody s_Lgreat, defScope s_Lgreat, [], []⟩
def d_Lfinite : He.DefD := ⟨("_law_finite", none), "_law_finite", "_law_finite", defArgs s_Lfinite, defBody s_Lfinite, defScope s_Lfinite, [], []⟩
def d_Lfloat : He.DefD := ⟨("_law_float", none), "_law_float", "_law_float", defArgs s_Lfloat, defBody s_Lfloat, defScope s_Lfloat, [], []⟩
def d_Lscaled : He.DefD := ⟨("_law_scaled", none), "_law_scaled", "_law_scaled", defArgs s_Lscaled, defBody s_Lscaled, defScope s_Lscaled, [], []⟩
def d_Lisnearest : He.DefD := ⟨("_law_is_nearest", none), "_law_is_nearest", "_law_is_nearest", defArgs s_Lisnearest, defBody s_Lisnearest, defScope s_Lisnearest, [], []⟩
def d_Lfigures : He.DefD := ⟨("_law_figures", none), "_law_figures", "_law_figures", defArgs s_Lfigures, defBody s_Lfigures, defScope s_Lfigures, [], []⟩
def d_Lhalf : He.DefD := ⟨("_law_half", none), "_law_half", "_law_half", defArgs s_Lhalf, defBody s_Lhalf, defScope s_Lhalf, [], []⟩
def d_Ltext : He.DefD := ⟨("_law_text", none), "_law_text", "_law_text", defArgs s_Ltext, defBody s_Ltext, defScope s_Ltext, [], []⟩
def d_Lbent : He.DefD := ⟨("_law_bent", none), "_law_bent", "_law_bent", defArgs s_Lbent, defBody s_Lbent, defScope s_Lbent, [], []⟩
def d_Lrun : He.DefD := ⟨("_law_run", none), "_law_run", "_law_run", defArgs s_Lrun, defBody s_Lrun, defScope s_Lrun, [], []⟩
def d_Lreadfar : He.DefD := ⟨("_law_read_far", none), "_law_read_far", "_law_read_far", defArgs s_Lreadfar, defBody s_Lreadfar, defScope s_Lreadfar, [], []⟩
def d_Lread : He.DefD := ⟨("_law_read", none), "_law_read", "_law_read", defArgs s_Lread, defBody s_Lread, defScope s_Lread, [], []⟩
def d_Lright : He.DefD := ⟨("_law_right", none), "_law_right", "_law_right", defArgs s_Lright, defBody s_Lright, defScope s_Lright, [], []⟩
def d_Lbackright : He.DefD := ⟨("_law_back_right", none), "_law_back_right", "_law_back_right", defArgs s_Lbackright, defBody s_Lbackright, defScope s_Lbackright, [], []⟩
def d_Llongright : He.DefD := ⟨("_law_long_right", none), "_law_long_right", "_law_long_right", defArgs s_Llongright, defBody s_Llongright, defScope s_Llongright, [], []⟩
def d_law : He.DefD := ⟨("law", none), "law", "law", defArgs s_law, defBody s_law, defScope s_law, [], []⟩
def hfn : List He.DefD := [d_isplain, d_reduced, d_fits, d_signof, d_Float_init, d_Float_isfinite, d_Float_ratio, d_Float_eq, d_infinity, d_nearest, d_isnumber, d_wrapped,
  d_placeof, d_orderof, d_same, d_tentimes, d_placeoffirst, d_roundedat, d_shown, d_textof, d_ismadeof, d_readhex, d_scaled, d_readwhole,
  d_readfloat, d_readnumber, d_Lwell, d_Ldraw, d_Lone, d_Lgreat, d_Lfinite, d_Lfloat, d_Lscaled, d_Lisnearest, d_Lfigures, d_Lhalf,
  d_Ltext, d_Lbent, d_Lrun, d_Lreadfar, d_Lread, d_Lright, d_Lbackright, d_Llongright, d_law]
def hglo : List Str := (["is_plain", "reduced", "fits", "sign_of", "infinity", "nearest", "is_number", "wrapped", "place_of", "order_of", "same", "ten_times"] : List Str) ++
  (["place_of_first", "rounded_at", "shown", "text_of", "is_made_of", "read_hex", "scaled", "read_whole", "read_float", "read_number", "_law_well", "_law_draw"] : List Str) ++
  (["_law_one", "_law_great", "_law_finite", "_law_float", "_law_scaled", "_law_is_nearest", "_law_figures", "_law_half", "_law_text", "_law_bent", "_law_run", "_law_read_far"] : List Str) ++
  (["_law_read", "_law_right", "_law_back_right", "_law_long_right", "law", "Float"] : List Str)
def hfa : List He.Fa := hglo.map He.Fa.glo ++ (bltNames.map He.Fa.free ++ [.int "ROOM" (9007199254740992), .int "LOWEST" (-1074), .int "TOO_GREAT" (1024), .int "SHOWN" (14), .int "MOST" (9223372036854775807), .str "FIGURES" "0123456789", .str "HEX" "0123456789abcdef", .str "BLANKS" " \t\n", .mkr "Float", .meth "Float" "is_finite", .meth "Float" "ratio", .meth "Float" "__eq__"])
def hex (K : PySem.W.Frag) : Bool := ownB K (He.ga K "Float") && (noB K (He.ga K "Float") ["sign", "top", "power"] && (kitB' K (He.ga K "Float") true [.ref (He.ga K "Float")] &&
  (kitB' K (He.ga K "Float") false [.type "int", .type "bool", .type "str", .type "NoneType", .type "list", .type "tuple", .type "dict"] && decide (PySem.W.findIn K (.ref (He.ga K "Float")) "__ne__" = some (some (.builtin "object.__ne__"))))) && (match PySem.W.nsIn K cStatics "sys.int_max_str_digits" with | some none => true | _ => false))
abbrev hR : PySem.W.OpenRow := PySem.W.OpenLaw.row PySem.Challenge.rw_upvalues_k07_whole_numbers_read_from_tex
abbrev hk : PySem.W.Hook := hookS hfa hfn [] [] hex
def hob (s : PySem.W.SharedT) : He.AlX := obsS hfa hfn [] [] hex (HandSHeadRun.getT s)
theorem hob_eq (s : PySem.W.SharedT) : hob s = hk.obs s.abs := obsS_eq (HandSHeadRun.getT_eq s)
def hloose : List PySem.Str := (["_wall", "LuaError", "InvalidArgument", "MOST", "ROOM", "LOWEST", "TOO_GREAT", "Float", "is_plain", "reduced", "fits", "sign_of", "infinity", "nearest", "is_number", "wrapped", "order_of", "place_of", "same", "FIGURES", "HEX", "BLANKS", "SHOWN", "text_of", "ten_times", "shown", "place_of_first", "rounded_at", "read_number", "is_made_of"] : List PySem.Str) ++ (["read_hex", "read_whole", "read_float", "scaled", "_law_well", "_law_draw", "_law_one", "_law_great", "_law_finite", "_law_float", "_law_ratio", "_law_is_nearest", "_law_scaled", "_law_figures", "_law_half", "_law_text", "_law_bent", "_law_run", "_law_read", "_law_read_far", "_law_right", "_law_back_right", "_law_long_right"] : List PySem.Str)
theorem hrun (w : World) : HandSHeadRun.RunEq hR (PySem.W.view hR.prog [57]) hk hob 6000 hloose w := by
  intro os
  kernel_rfl
end Up


set_option Elab.async false
set_option linter.all false
set_option maxRecDepth 100000
set_option maxHeartbeats 4000000
namespace Up
open PySem PySem.Spec PyProof.Rows L2

theorem sz {n : Nat} (h : Nat.ble n 100000 = true) : n ≤ sizeLine := Nat.le_trans (Nat.le_of_ble_eq_true h) (by decide)
/-! ### a new object, by what is known of the heap behind it -/
def NewAt (H : Hp) (o : HO) (Q : VK) : Prop := ∀ p H', H p = none → Same H H' → H' p = some o → (∀ b, b ≠ p → H' b = H b) → Q (.ref p) H'
theorem NewAt.all {H : Hp} {o : HO} {Q : VK} (h : NewAt H o Q) : ∀ p, H p = none → Q (.ref p) (upd H p o) := fun p hp =>
  h p _ hp (fun b u e => by rw [upd_ne (ne_of_none e hp)]; exact e) upd_same fun b hb => upd_ne hb
def tTupN (t : TA) : TE := fun σ H Q => t σ H fun xs H1 => xs.length ≤ sizeLine ∧ NewAt H1 (.tup xs) Q
def tLstN (t : TA) : TE := fun σ H Q => t σ H fun xs H1 => xs.length ≤ sizeLine ∧ NewAt H1 (.lst xs) Q
section
variable {X : Cx} {es : List Expr} {t : TA} {pos : Pos}
theorem pe_tupN {x1} (h : PA X es t) : PE X (.Tuple es x1 pos) (tTupN t) := by
  refine ⟨fun pins s σ H Q I hq => ?_⟩
  refine wpAny_Tuple_spliced (thn (h.run pos pins s σ H _ I hq) fun us s1 ⟨xs, H1, I1, r, z, q⟩ => ⟨(by rw [← r.length]; exact z), ?_⟩)
  exact ⟨.ref s1.heap.objs.size, upd H1 s1.heap.objs.size (.tup xs), I1.laid (t' := s1.toks) (fun b u e => Heap.get?_push_of_some _ e) (Nat.le_refl _) ⟨z, us, r, ⟨_, Heap.get?_push_size _ rfl, rfl, _, rfl⟩⟩, rfl, q.all _ (I1.hok.fresh (Nat.le_refl _))⟩
theorem pe_lstN (h : PA X es t) : PE X (.List es pos) (tLstN t) := by
  refine ⟨fun pins s σ H Q I hq => ?_⟩
  refine wpAny_List_spliced (thn (h.run pos pins s σ H _ I hq) fun us s1 ⟨xs, H1, I1, r, z, q⟩ => ⟨(by rw [← r.length]; exact z), ?_⟩)
  exact ⟨.ref s1.heap.objs.size, upd H1 s1.heap.objs.size (.lst xs), I1.laid (t' := s1.toks) (fun b u e => Heap.get?_push_of_some _ e) (Nat.le_refl _) ⟨z, us, 0, r, Heap.get?_push_size _ rfl⟩, rfl, q.all _ (I1.hok.fresh (Nat.le_refl _))⟩
end
/-! ### operators by the kinds of their values -/
section
variable {X : Cx} {f : Value → Value → Sem Value} {r r' : R2}
theorem op_or (h : OpR X f r) (h' : OpR X f r') : OpR X f (fun x y H Q => r x y H Q ∨ r' x y H Q) := by
  intro pins s σ H x y v u Q I rx ry q
  rcases q with q | q
  · exact h pins s σ H x y v u Q I rx ry q
  · exact h' pins s σ H x y v u Q I rx ry q
theorem op_wk (h : OpR X f r) (k : ∀ x y H Q, r' x y H Q → r x y H Q) : OpR X f r' := by
  intro pins s σ H x y v u Q I rx ry q
  exact h pins s σ H x y v u Q I rx ry (k _ _ _ _ q)
theorem op_wh {S : Prop} (h : S → OpR X f r) (k : ∀ x y H Q, r' x y H Q → S ∧ r x y H Q) : OpR X f r' := by
  intro pins s σ H x y v u Q I rx ry q
  exact h (k _ _ _ _ q).1 pins s σ H x y v u Q I rx ry (k _ _ _ _ q).2
end
/-- two lists that are read -/
def oCatS (K : PySem.W.Frag) : R2 := fun x y H Q => ∃ a b xs ys, x = .ref a ∧ y = .ref b ∧ SqL K H a xs ∧ SqL K H b ys ∧ xs.length + ys.length ≤ sizeLine ∧ NewAt H (.lst (xs ++ ys)) Q
theorem op_catS {X : Cx} : OpR X (binaryOp .Add) (oCatS X.K) := by
  intro pins s σ H x y v u Q I rx ry h
  obtain ⟨a, b, xs, ys, rfl, rfl, ha, hb, hz, q⟩ := h
  cases rx
  cases ry
  obtain ⟨its, r1, p1, _⟩ := I.list ha
  obtain ⟨jts, r2, p2, _⟩ := I.list hb
  have l1 := r1.length
  have l2 := r2.length
  obtain ⟨⟨c1, d1, t1, z1⟩, n1, e1, k1, _, w1⟩ := p1
  obtain ⟨⟨c2, d2, t2, z2⟩, n2, e2, k2, _, w2⟩ := p2
  simp only at k1 w1 k2 w2
  subst k1 w1 k2 w2
  refine concat_meets (S := _) ⟨_, e1, rfl⟩ ⟨_, e2, rfl⟩ noFill_list_add seq_list_add PySem.F.slot_list_add PySem.F.entry_list_add (PySem.F.args_list_add_2 _ _) (list_addW a b its.toArray jts.toArray n1 n2 d1 d2 z1 z2 (by rw [List.size_toArray, List.size_toArray]; omega)) ⟨e1, e2, ?_⟩
  rw [show its.toArray ++ jts.toArray = (its ++ jts).toArray by simp]
  exact ⟨.ref _, _, I.lnew (t' := s.toks) (r1.append r2) (by rw [List.length_append]; omega), rfl, q.all _ I.fresh⟩
/-- two tuples -/
def oCatU (K : PySem.W.Frag) : R2 := fun x y H Q => ∃ a b xs ys, x = .ref a ∧ y = .ref b ∧ SqT K H a xs ∧ SqT K H b ys ∧ xs.length + ys.length ≤ sizeLine ∧ xs ≠ [] ∧ ys ≠ [] ∧ NewAt H (.tup (xs ++ ys)) Q
/-- a + b -/
def oAdd (K : PySem.W.Frag) : R2 := fun x y H Q => match x, y with
  | .int i, .int j => Q (.int (i + j)) H
  | .str a, .str b => a.length + b.length ≤ sizeLine ∧ Q (.str (a ++ b)) H
  | .ref a, .ref b => oCatS K (.ref a) (.ref b) H Q ∨ oCatU K (.ref a) (.ref b) H Q
  | _, _ => False
theorem op_oAdd {X : Cx} : OpR X (binaryOp .Add) (oAdd X.K) := by
  refine op_wk (op_or op_add (op_or op_add_str (op_or op_catS op_catA))) fun x y H Q q => ?_
  cases x <;> cases y <;> first | exact q.elim | skip
  · exact .inl ⟨_, _, rfl, rfl, q⟩
  · exact .inr (.inl ⟨_, _, rfl, rfl, q⟩)
  · rcases q with q | ⟨c, d, xs, ys, e1, e2, h1, h2, hz, n1, n2, q⟩
    · exact .inr (.inr (.inl q))
    · exact .inr (.inr (.inr ⟨c, d, xs, ys, e1, e2, h1, h2, hz, fun z => absurd z n1, fun _ z => absurd z n2, fun _ _ => q.all⟩))
/-- a - b, of ints and of bools -/
def oSub : R2 := fun x y H Q => match x, y with
  | .int i, .int j => Q (.int (i - j)) H
  | .bl i, .bl j => Q (.int (b2i i - b2i j)) H
  | _, _ => False
theorem op_sub_bb {X : Cx} : OpR X (binaryOp .Sub) (fun x y H Q => ∃ i j, x = .bl i ∧ y = .bl j ∧ Q (.int (b2i i - b2i j)) H) := by
  intro pins s σ H x y v u Q I rx ry h
  obtain ⟨i, j, rfl, rfl, q⟩ := h
  cases rx
  cases ry
  exact sub_bool ⟨.int (b2i i - b2i j), H, I.tok _, ⟨_, rfl⟩, q⟩
theorem op_oSub {X : Cx} : OpR X (binaryOp .Sub) oSub := by
  refine op_wk (op_or op_sub op_sub_bb) fun x y H Q q => ?_
  cases x <;> cases y <;> first | exact q.elim | skip
  · exact .inr ⟨_, _, rfl, rfl, q⟩
  · exact .inl ⟨_, _, rfl, rfl, q⟩
/-- a * b -/
def oMul : R2 := fun x y H Q => match x, y with
  | .int i, .int j => IntMulOk i j ∧ Q (.int (i * j)) H
  | .ref a, .int k => ∃ xs, H a = some (.lst xs) ∧ -(2 ^ 63) ≤ k ∧ k < 2 ^ 63 ∧ xs.length * k.toNat ≤ sizeLine ∧ NewAt H (.lst (List.replicate k.toNat xs).flatten) Q
  | _, _ => False
theorem op_mulK {X : Cx} : OpR X (binaryOp .Mult) (rI IntMulOk fun i j => .int (i * j)) := opI fun _ _ _ _ _ _ _ hc q => mul_int q hc
theorem op_oMul {X : Cx} : OpR X (binaryOp .Mult) oMul := by
  refine op_wk (op_or op_mulK op_rep) fun x y H Q q => ?_
  cases x <;> cases y <;> first | exact q.elim | skip
  · exact .inl ⟨_, _, rfl, rfl, q⟩
  · obtain ⟨xs, h1, h2, h3, h4, q⟩ := q
    exact .inr ⟨_, _, xs, rfl, rfl, h1, h2, h3, h4, q.all⟩
/-- a // b -/
def oDiv : R2 := fun x y H Q => match x, y with
  | .int i, .int j => (j ≠ 0 ∧ j.natAbs.log2 < 9000) ∧ Q (.int (i.fdiv j)) H
  | _, _ => False
theorem op_oDiv {X : Cx} : OpR X (binaryOp .FloorDiv) oDiv := by
  refine op_wk (r := rI (fun _ j => j ≠ 0 ∧ j.natAbs.log2 < 9000) fun i j => .int (i.fdiv j)) (opI fun _ _ _ _ _ _ _ hc q => floordiv_int hc.1 q (.inl (PyProof.noPylong_of_log2 hc.2))) fun x y H Q q => ?_
  cases x <;> cases y <;> first | exact q.elim | skip
  exact ⟨_, _, rfl, rfl, q⟩
/-- a % b -/
def oMod : R2 := fun x y H Q => match x, y with
  | .int i, .int j => j ≠ 0 ∧ Q (.int (i.fmod j)) H
  | _, _ => False
theorem op_oMod {X : Cx} : OpR X (binaryOp .Mod) oMod := by
  refine op_wk op_modN fun x y H Q q => ?_
  cases x <;> cases y <;> first | exact q.elim | skip
  exact ⟨_, _, rfl, rfl, q⟩
/-- an operator of two ints with a condition -/
def oII (C : Int → Int → Prop) (g : Int → Int → V) : R2 := fun x y H Q => match x, y with
  | .int i, .int j => C i j ∧ Q (g i j) H
  | _, _ => False
theorem op_oII {X : Cx} {f : Value → Value → Sem Value} {C : Int → Int → Prop} {g : Int → Int → V} (h : OpR X f (rI C g)) : OpR X f (oII C g) := by
  refine op_wk h fun x y H Q q => ?_
  cases x <;> cases y <;> first | exact q.elim | skip
  exact ⟨_, _, rfl, rfl, q⟩
def oI0 (g : Int → Int → V) : R2 := fun x y H Q => match x, y with
  | .int i, .int j => Q (g i j) H
  | _, _ => False
theorem op_oI0 {X : Cx} {f : Value → Value → Sem Value} {g : Int → Int → V} (h : OpR X f (rI0 g)) : OpR X f (oI0 g) := by
  refine op_wk h fun x y H Q q => ?_
  cases x <;> cases y <;> first | exact q.elim | skip
  exact ⟨_, _, rfl, rfl, q⟩
abbrev oPow : R2 := oII CPow fun i j => .int (i ^ j.toNat)
abbrev oShl : R2 := oII CShl fun i j => .int (i * 2 ^ j.toNat)
abbrev oShr : R2 := oII (fun _ j => 0 ≤ j) fun i j => .int (i / 2 ^ j.toNat)
abbrev oAnd : R2 := oI0 fun i j => .int (Builtin.bitAnd i j)
abbrev oOr : R2 := oI0 fun i j => .int (Builtin.bitOr i j)
abbrev oXor : R2 := oI0 fun i j => .int (Builtin.bitXor i j)
theorem op_oPow {X : Cx} : OpR X (binaryOp .Pow) oPow := op_oII op_pow
theorem op_oShl {X : Cx} : OpR X (binaryOp .LShift) oShl := op_oII op_shlW
theorem op_oShr {X : Cx} : OpR X (binaryOp .RShift) oShr := op_oII op_shr
theorem op_oAnd {X : Cx} : OpR X (binaryOp .BitAnd) oAnd := op_oI0 op_and
theorem op_oOr {X : Cx} : OpR X (binaryOp .BitOr) oOr := op_oI0 L2.op_or
theorem op_oXor {X : Cx} : OpR X (binaryOp .BitXor) oXor := op_oI0 op_xor
/-! ### comparisons -/
def oCmp (g : Int → Int → Bool) (k : Str → Str → Bool) : R2 := fun x y H Q => match x, y with
  | .int i, .int j => Q (.bl (g i j)) H
  | .str a, .str b => Q (.bl (k a b)) H
  | _, _ => False
theorem op_oCmp {X : Cx} {f : Value → Value → Sem Value} {g : Int → Int → Bool} {k : Str → Str → Bool} (h : OpR X f (rI0 fun i j => .bl (g i j))) (h' : OpR X f (fun x y H Q => ∃ i j, x = .str i ∧ y = .str j ∧ Q (.bl (k i j)) H)) : OpR X f (oCmp g k) := by
  refine op_wk (op_or h h') fun x y H Q q => ?_
  cases x <;> cases y <;> first | exact q.elim | skip
  · exact .inl ⟨_, _, rfl, rfl, q⟩
  · exact .inr ⟨_, _, rfl, rfl, q⟩
abbrev oLt : R2 := oCmp (fun i j => decide (i < j)) fun a b => decide (a.cps.toList < b.cps.toList)
theorem op_oLt {X : Cx} : OpR X (compareOp .Lt) oLt := op_oCmp op_lt op_lt_str
abbrev oLe : R2 := oI0 fun i j => .bl (decide (i ≤ j))
abbrev oGt : R2 := oI0 fun i j => .bl (decide (j < i))
abbrev oGe : R2 := oI0 fun i j => .bl (decide (j ≤ i))
theorem op_oLe {X : Cx} : OpR X (compareOp .LtE) oLe := op_oI0 op_le
theorem op_oGt {X : Cx} : OpR X (compareOp .Gt) oGt := op_oI0 op_gt
theorem op_oGe {X : Cx} : OpR X (compareOp .GtE) oGe := op_oI0 op_ge
/-- a == b of scalars, of data -/
def oEq (K : PySem.W.Frag) : R2 := fun x y H Q => rEq x y H Q ∨ rEqD K x y H Q
def oNe (K : PySem.W.Frag) : R2 := fun x y H Q => rNe x y H Q ∨ rNeD K x y H Q
theorem op_oEq {X : Cx} (hu : X.A.units + 64 < cLine) : OpR X (compareOp .Eq) (oEq X.K) := op_or op_eq (op_eqD hu)
theorem op_oNe {X : Cx} (hu : X.A.units + 64 < cLine) : OpR X (compareOp .NotEq) (oNe X.K) := op_or op_ne (op_neD hu)

/-! ### slices, divmod -/
def oSlL (K : PySem.W.Frag) : V → Option Int → Option Int → Hp → VK → Prop := fun x lo hi H Q => ∃ a xs, x = .ref a ∧ SqL K H a xs ∧ NewAt H (.lst (cutV xs lo hi)) Q
theorem sl_lstN {X : Cx} : SlR X (oSlL X.K) := by
  intro pins s σ H x v vl vu lo hi sl Q I rx hs pl pu h
  obtain ⟨a, xs, e, hq, q⟩ := h
  exact sl_list pins s σ H x v vl vu lo hi sl Q I rx hs pl pu ⟨a, xs, e, hq, q.all⟩
def rDivm : List V → Hp → VK → Prop := fun xs H Q => ∃ i j, xs = [.int i, .int j] ∧ (0 < j ∧ j.natAbs.log2 < 9000) ∧ NewAt H (.tup [.int (i / j), .int (i % j)]) Q
theorem call_divmodK {X : Cx} : CallR X (.builtin "divmod") rDivm := by
  intro pins s σ H xs us Q I r h
  obtain ⟨i, j, e, hc, q⟩ := h
  exact call_divmodW pins s σ H xs us Q I r ⟨i, j, e, ⟨hc.1, PyProof.noPylong_of_log2 hc.2⟩, q.all⟩
/-! ### targets: o.f of an instance -/
def gFld (K : PySem.W.Frag) (to : TE) (f : Str) : TG := fun v σ H Q => to σ H fun x H1 => ∃ a C dx fs, x = .ref a ∧ H1 a = some (.ins C dx fs) ∧ Cls K C ∧ NoAttr K C f ∧ fs.length < 1000 ∧ Q σ (upd H1 a (.ins C dx (putF f v fs)))
theorem pg_fld {X : Cx} {o : Expr} {f : Str} {pos : Pos} {to : TE} (ho : PE X o to)
    (ha : ∀ v, assign (.Attribute o f pos) X.env v = (do
      let ov ← holding [v] (eval o X.env)
      standAt pos.atName
      holding [v, ov] (setAttr ov f v)
      release [v, ov] []) := by intro _; rfl) : PG X (.Attribute o f pos) (gFld X.K to f) := by
  refine ⟨fun pins s σ H v u Q I r h => ?_⟩
  rw [ha]
  refine wpAny_bind (wpAny_holding (thn (ho.run pins s σ H _ I h) fun ov s1 ⟨x, H1, I1, r1, a, C, dx, fs, ex, ea, c, n, l, q1⟩ => ?_))
  subst ex
  obtain rfl : ov = Value.ref a := r1
  refine wpAny_bind (wpAny_standAt (wpAny_bind (wpAny_holding (setattr_ok I1 ea c n l r fun s3 I3 => ?_))))
  exact wpAny_release ⟨σ, _, I3, q1⟩

/-! ### a def of the text, called by its name -/
section
variable (P : Program) (w : World) (K : PySem.W.Frag) (mg : Str → Option Value) (base : Heap)
/-- the module's name x holds a def that keeps sp -/
def Fn (CX : CXT) (k : Nat) (x : Str) (ps : List Str) (dvs : List V) (sp : Sp) : Prop :=
  ∃ f fd ds, FnOk P w K mg base CX k f fd ps sp ∧ mg x = some (.ref f) ∧ PySem.W.keepIn K (.ref f) = true ∧ Binds K fd ps ds ∧ Vals dvs ds
/-- the class at C has a method m that keeps sp -/
def Mt (CX : CXT) (k : Nat) (C : Addr) (m : Str) (ps : List Str) (sp : Sp) : Prop :=
  ∃ f fd, FnOk P w K mg base CX k f fd ps sp ∧ Meth K C m f ∧ Binds K fd ps [] ∧ Cls K C
/-- the name x holds a class at C that is made by an __init__ that keeps sp -/
def Cn (CX : CXT) (k : Nat) (x : Str) (C : Addr) (ps : List Str) (dvs : List V) (sp : Sp) : Prop :=
  ∃ f fd ds, FnOk P w K mg base CX k f fd ps sp ∧ Mk K C f ∧ mg x = some (.ref C) ∧ Binds K fd ps ds ∧ Vals dvs ds
end
section
variable {X : Cx} {CX : CXT} {k : Nat} {C : Addr} {x m : Str} {ps : List Str} {dvs : List V} {sp : Sp} {E : XK} {p pos apos : Pos} {e o : Expr} {es : List Expr} {ta : TE} {t : TA}
theorem pe_fn (F : Fn X.prog X.w X.K X.mg X.base CX k x ps dvs sp) (hr : Room k X.A) (hx : Passes CX X E) (ha : PA X (e :: es) t) (hg : Gl X x := by rfl)
    (hdb : (x == ("__debug__" : Str)) = false := by decide) (he : starEach (e :: es) X.env = (false, eval e X.env) :: starEach es X.env := by rfl) (hpl : (backTo pos (starEach es X.env)).any (·.1) = false := by rfl) :
    PE X (.Call (.Name x p) (e :: es) [] pos) (tCall sp dvs E t) := by
  obtain ⟨f, fd, ds, F, hm, hk, hb, hd⟩ := F
  exact pe_call F hr hg hm hk hb hd hx ha hdb he hpl
theorem pe_fn0 (F : Fn X.prog X.w X.K X.mg X.base CX k x ps dvs sp) (hr : Room k X.A) (hx : Passes CX X E) (hg : Gl X x := by rfl)
    (hdb : (x == ("__debug__" : Str)) = false := by decide) : PE X (.Call (.Name x p) [] [] pos) (tCall sp dvs E tNil) := by
  obtain ⟨f, fd, ds, F, hm, hk, hb, hd⟩ := F
  exact pe_call0 F hr hg hm hk hb hd hx hdb
/-- C(..): a new instance and its dict, then __init__ -/
def MakeR (C : Addr) (sp : Sp) (vs : List V) (H : Hp) (Q : VK) (E : XK) : Prop := ∀ x dx H', H x = none → H dx = none → dx ≠ x → Same H H' → H' x = some (.ins C dx []) → (∀ b, b ≠ x → b ≠ dx → H' b = H b) →
  sp (.ref x :: vs) H' (fun v H2 => v = .non ∧ Q (.ref x) H2) E
def tMakeN (C : Addr) (sp : Sp) (dvs : List V) (E : XK) (t : TA) : TE := fun σ H Q => t σ H fun vs H1 => MakeR C sp (vs ++ dvs) H1 Q E
theorem pe_cn (F : Cn X.prog X.w X.K X.mg X.base CX k x C ps dvs sp) (hr : Room (k + 1) X.A) (hx : Passes CX X E) (ha : PA X (e :: es) t) (hg : Gl X x := by rfl)
    (hdb : (x == ("__debug__" : Str)) = false := by decide) (he : starEach (e :: es) X.env = (false, eval e X.env) :: starEach es X.env := by rfl) (hpl : (backTo pos (starEach es X.env)).any (·.1) = false := by rfl) :
    PE X (.Call (.Name x p) (e :: es) [] pos) (tMakeN C sp dvs E t) := by
  obtain ⟨f, fd, ds, F, hM, hm, hb, hd⟩ := F
  refine ⟨fun pins s σ H Q I h => ?_⟩
  refine wpAny_Call_Name_kw (ld_glob I hg hm ?_ hdb)
  refine PySem.W.callWith_K (h₀ := X.base) I.ok.mod.kin hM.kp (thn (ha.run pos pins s σ H _ I h) fun us s1 ⟨vs, H1, I1, r, q⟩ => ⟨I1.kIn, ?_⟩) he hpl
  refine run_make hM F hr hb hd hx I1 r fun y dy n1 n2 ne => q y dy _ n1 n2 ne (fun b u z => ?_) upd_same fun b hb1 hb2 => ?_
  · rw [upd_ne (ne_of_none z n1), upd_ne (ne_of_none z n2)]; exact z
  · rw [upd_ne hb1, upd_ne hb2]
theorem pe_mt {pl : Sem Bool} (F : Mt X.prog X.w X.K X.mg X.base CX k C m ps sp) (hr : Room k X.A) (hx : Passes CX X E) (he : PE X o ta) (ha : PA X (e :: es) t)
    (hst : starEach (e :: es) X.env = (false, eval e X.env) :: starEach es X.env := by rfl) (hpl : (backTo pos (starEach es X.env)).any (·.1) = false := by rfl)
    (ht : eval (.Call (.Attribute o m apos) (e :: es) [] pos) X.env = (do
      let ov ← eval o X.env
      standAt apos.atName
      let (f, first) ← holding [ov] (getMethod ov m pl)
      callWith pos f first (backTo pos (starEach (e :: es) X.env)) (backToKw pos (keywordEach [] X.env))) := by rfl) :
    PE X (.Call (.Attribute o m apos) (e :: es) [] pos) (tMeth C m sp [] E ta t) := by
  obtain ⟨f, fd, F, hm, hb, c⟩ := F
  exact pe_meth (pl := pl) he c hm F hr hb .nil hx ha hst hpl ht
theorem pe_mt0 {pl : Sem Bool} (F : Mt X.prog X.w X.K X.mg X.base CX k C m ps sp) (hr : Room k X.A) (hx : Passes CX X E) (he : PE X o ta)
    (ht : eval (.Call (.Attribute o m apos) [] [] pos) X.env = (do
      let ov ← eval o X.env
      standAt apos.atName
      let (f, first) ← holding [ov] (getMethod ov m pl)
      callWith pos f first (backTo pos (starEach [] X.env)) (backToKw pos (keywordEach [] X.env))) := by rfl) :
    PE X (.Call (.Attribute o m apos) [] [] pos) (tMeth C m sp [] E ta tNil) := by
  obtain ⟨f, fd, F, hm, hb, c⟩ := F
  exact pe_meth0 (pl := pl) he c hm F hr hb .nil hx ht
end

/-! ### the rules with the written part named (within a comprehension) -/
section
variable {X : Cx} (K : PySem.W.Frag)
theorem call_isiE (h : X.K = K) : CallR X (.builtin "isinstance") (rIsi K) := h ▸ call_isi
theorem call_len_seqE (h : X.K = K) : CallR X (.builtin "len") (fun xs H Q => ∃ p ys, xs = [.ref p] ∧ (SqL K H p ys ∨ SqT K H p ys) ∧ Q (.int ys.length) H) := h ▸ call_len_seq
theorem op_oAddE (h : X.K = K) : OpR X (binaryOp .Add) (oAdd K) := h ▸ op_oAdd
theorem op_oEqE (h : X.K = K) (hu : X.A.units + 64 < cLine) : OpR X (compareOp .Eq) (oEq K) := h ▸ op_oEq hu
theorem op_oNeE (h : X.K = K) (hu : X.A.units + 64 < cLine) : OpR X (compareOp .NotEq) (oNe K) := h ▸ op_oNe hu
theorem op_inE (h : X.K = K) : OpR X (compareOp .In) (rIn K false) := h ▸ op_in_seq
theorem op_notInE (h : X.K = K) : OpR X (compareOp .NotIn) (rIn K true) := h ▸ op_notIn_seq
theorem ix_seqE (h : X.K = K) : IxR X (rIx K) := h ▸ ix_seq
theorem pe_fldE {e : Expr} {f : Str} {pos : Pos} {ta : TE} (h : X.K = K) (he : PE X e ta) (hb : attributeBase e f X.env (eval e X.env) = eval e X.env) : PE X (.Attribute e f pos) (tFld K ta f) := h ▸ pe_fld he hb
end
/-! ### names of the module -/
theorem pe_gint {X : Cx} {x : Str} {i : Int} {pos : Pos} (h : ∃ t, X.mg x = some (.int i t)) (hg : Gl X x := by rfl) (hd : (x == ("__debug__" : Str)) = false := by decide) : PE X (.Name x pos) (tC (.int i)) := by
  obtain ⟨t, h⟩ := h
  exact pe_glob hg h ⟨_, rfl⟩ hd
theorem pe_gref {X : Cx} {x : Str} {C : Addr} {pos : Pos} (h : X.mg x = some (.ref C)) (hg : Gl X x := by rfl) (hd : (x == ("__debug__" : Str)) = false := by decide) : PE X (.Name x pos) (tC (.ref C)) := pe_glob hg h rfl hd
/-- the built-ins that the text does not hide -/
structure Blt (mg : Str → Option Value) : Prop where
  len : mg "len" = none
  int : mg "int" = none
  bool : mg "bool" = none
  str : mg "str" = none
  isinstance : mg "isinstance" = none
  abs : mg "abs" = none
  max : mg "max" = none
  min : mg "min" = none
  divmod : mg "divmod" = none
  range : mg "range" = none
  enumerate : mg "enumerate" = none
  zip : mg "zip" = none
  list : mg "list" = none
  tuple : mg "tuple" = none
  ord : mg "ord" = none
  sorted : mg "sorted" = none
theorem blt_of {mg : Str → Option Value} (h : ∀ x ∈ bltNames, mg x = none) : Blt mg := by
  have g : ∀ x, x ∈ bltNames → mg x = none := h
  exact ⟨g _ (by simp [bltNames]), g _ (by simp [bltNames]), g _ (by simp [bltNames]), g _ (by simp [bltNames]), g _ (by simp [bltNames]), g _ (by simp [bltNames]), g _ (by simp [bltNames]), g _ (by simp [bltNames]), g _ (by simp [bltNames]), g _ (by simp [bltNames]), g _ (by simp [bltNames]), g _ (by simp [bltNames]), g _ (by simp [bltNames]), g _ (by simp [bltNames]), g _ (by simp [bltNames]), g _ (by simp [bltNames])⟩
section
variable {X : Cx}
theorem pe_tyInt {pos : Pos} (B : Blt X.mg) (hg : Gl X "int" := by rfl) : PE X (.Name "int" pos) (tC (.ty "int")) := pe_bltn (u := .type "int") hg B.int (by decide +kernel) rfl
theorem pe_tyBool {pos : Pos} (B : Blt X.mg) (hg : Gl X "bool" := by rfl) : PE X (.Name "bool" pos) (tC (.ty "bool")) := pe_bltn (u := .type "bool") hg B.bool (by decide +kernel) rfl
theorem pe_tyStr {pos : Pos} (B : Blt X.mg) (hg : Gl X "str" := by rfl) : PE X (.Name "str" pos) (tC (.ty "str")) := pe_bltn (u := .type "str") hg B.str (by decide +kernel) rfl
end
end Up

set_option Elab.async false
set_option linter.all false
set_option maxRecDepth 100000
set_option maxHeartbeats 4000000
namespace Up
open PySem PySem.Spec PyProof.Rows L2
/-! ### one step of a reading each -/
section
variable {K : PySem.W.Frag} {D : Ends} {σ : L2.St} {H : Hp} {Q : VK} {ta tb te : TE} {t u : TS} {c d : TT}
theorem g_seq (h : t { D with nx := u D } σ H) : tSeq t u D σ H := h
theorem g_ifs (h : c σ H fun b H1 => if b = true then t D σ H1 else u D σ H1) : tIfS c t u D σ H := h
theorem g_asg {g : TG} (h : te σ H fun x H1 => g x σ H1 D.nx) : tAsg te g D σ H := h
theorem g_name {i : Nat} {v : V} {R : L2.St → Hp → Prop} (h : R (σ.set i (some v)) H) : gName i v σ H R := h
theorem g_drop (h : te σ H fun _ H1 => D.nx σ H1) : tDrop te D σ H := h
theorem g_ret (h : te σ H D.rt) : tRet te D σ H := h
theorem g_retN (h : D.rt .non H) : tRetN D σ H := h
theorem g_next (h : D.nx σ H) : tNext D σ H := h
theorem g_sfld {f : Str} (h : te σ H fun y H1 => ta σ H1 fun x H2 => ∃ a C dx fs, x = .ref a ∧ H2 a = some (.ins C dx fs) ∧ Cls K C ∧ NoAttr K C f ∧ fs.length < 1000 ∧ D.nx σ (upd H2 a (.ins C dx (putF f y fs)))) : sFld K ta te f D σ H := h
theorem g_var {i : Nat} {v : V} (e : σ[i]? = some (some v)) (h : Q v H) : tVar i σ H Q := ⟨v, e, h⟩
theorem g_c {v : V} (h : Q v H) : tC v σ H Q := h
theorem g_op {r : R2} (h : ta σ H fun x H1 => tb σ H1 fun y H2 => r x y H2 Q) : tOp r ta tb σ H Q := h
theorem g_un {r : V → Hp → VK → Prop} (h : ta σ H fun x H1 => r x H1 Q) : tUn r ta σ H Q := h
theorem g_neg {i : Int} (h : Q (.int (-i)) H) : rU (fun i => .int (-i)) (.int i) H Q := ⟨i, rfl, h⟩
theorem g_if (h : c σ H fun b H1 => if b = true then ta σ H1 Q else tb σ H1 Q) : tIf c ta tb σ H Q := h
theorem g_cb {r : List V → Hp → VK → Prop} {t : TA} (h : t σ H fun vs H1 => r vs H1 Q) : tCB r t σ H Q := h
theorem g_cons {t : TA} {R : List V → Hp → Prop} (h : ta σ H fun x H1 => t σ H1 fun xs H2 => R (x :: xs) H2) : tCons ta t σ H R := h
theorem g_nil {R : List V → Hp → Prop} (h : R [] H) : tNil σ H R := h
theorem g_bits (h : ta σ H fun x H1 => ∃ i, x = .int i ∧ Q (.int (Builtin.Int.intBits i : Nat)) H1) : tBits ta σ H Q := h
theorem g_call {sp : Sp} {dvs : List V} {E : XK} {t : TA} (h : t σ H fun vs H1 => sp (vs ++ dvs) H1 Q E) : tCall sp dvs E t σ H Q := h
theorem g_fld {f : Str} (h : ta σ H fun x H1 => ∃ a C dx fs v, x = .ref a ∧ H1 a = some (.ins C dx fs) ∧ Cls K C ∧ NoAttr K C f ∧ fs.lookup f = some v ∧ Q v H1) : tFld K ta f σ H Q := h
theorem g_gtup {n : Nat} {t : TGs} {v : V} {R : L2.St → Hp → Prop} (h : ∃ a xs, v = .ref a ∧ SqT K H a xs ∧ xs.length = n ∧ t xs σ H R) : gTup K n t v σ H R := h
theorem g_gcons {t : TG} {u : TGs} {v : V} {r : List V} {R : L2.St → Hp → Prop} (h : t v σ H fun σ' H' => u r σ' H' R) : gCons t u (v :: r) σ H R := ⟨v, r, rfl, h⟩
theorem g_gnil {R : L2.St → Hp → Prop} (h : R σ H) : gNil [] σ H R := ⟨rfl, h⟩
theorem g_gfld {f : Str} {v : V} {R : L2.St → Hp → Prop} (h : ta σ H fun x H1 => ∃ a C dx fs, x = .ref a ∧ H1 a = some (.ins C dx fs) ∧ Cls K C ∧ NoAttr K C f ∧ fs.length < 1000 ∧ R σ (upd H1 a (.ins C dx (putF f v fs)))) : gFld K ta f v σ H R := h
/-! tests -/
section
variable {R : Bool → Hp → Prop} {T : Bool → Prop}
theorem g_tt (h : ta σ H fun x H' => ∃ k, x = .bl k ∧ R k H') : tTest ta σ H R := h
theorem g_tB (h : ta σ H fun x H' => ∃ k, x = .bl k ∧ R k H') : tB ta σ H R := h
theorem g_bl {b : Bool} (h : T b) : ∃ k, V.bl b = .bl k ∧ T k := ⟨b, rfl, h⟩
theorem g_and (h : c σ H fun k H1 => if k = true then d σ H1 R else R false H1) : tAnd c d σ H R := h
theorem g_or (h : c σ H fun k H1 => if k = true then R true H1 else d σ H1 R) : tOr c d σ H R := h
theorem g_not (h : c σ H fun k H1 => R (!k) H1) : tNot c σ H R := h
theorem g_andV (h : ta σ H fun x H1 => ∃ c, x = .bl c ∧ if c = true then tb σ H1 Q else Q (.bl false) H1) : tAndV ta tb σ H Q := h
theorem g_orV (h : ta σ H fun x H1 => ∃ c, x = .bl c ∧ if c = true then Q (.bl true) H1 else tb σ H1 Q) : tOrV ta tb σ H Q := h
theorem g_notV (h : ta σ H fun x H1 => ∃ c, x = .bl c ∧ Q (.bl (!c)) H1) : tNotV ta σ H Q := h
end
/-! ints -/
section
variable {i j : Int}
theorem g_addI (h : Q (.int (i + j)) H) : oAdd K (.int i) (.int j) H Q := h
theorem g_addS {a b : Str} (hz : a.length + b.length ≤ sizeLine) (h : Q (.str (a ++ b)) H) : oAdd K (.str a) (.str b) H Q := ⟨hz, h⟩
theorem g_subI (h : Q (.int (i - j)) H) : oSub (.int i) (.int j) H Q := h
theorem g_subB {i j : Bool} (h : Q (.int (b2i i - b2i j)) H) : oSub (.bl i) (.bl j) H Q := h
theorem g_mulI (hm : IntMulOk i j) (h : Q (.int (i * j)) H) : oMul (.int i) (.int j) H Q := ⟨hm, h⟩
theorem g_divI (hm : j ≠ 0) (hl : j.natAbs.log2 < 9000) (h : Q (.int (i.fdiv j)) H) : oDiv (.int i) (.int j) H Q := ⟨⟨hm, hl⟩, h⟩
theorem g_modI (hm : j ≠ 0) (h : Q (.int (i.fmod j)) H) : oMod (.int i) (.int j) H Q := ⟨hm, h⟩
theorem g_II {C : Int → Int → Prop} {g : Int → Int → V} (hm : C i j) (h : Q (g i j) H) : oII C g (.int i) (.int j) H Q := ⟨hm, h⟩
theorem g_I0 {g : Int → Int → V} (h : Q (g i j) H) : oI0 g (.int i) (.int j) H Q := h
theorem g_cmpI {g : Int → Int → Bool} {k : Str → Str → Bool} (h : Q (.bl (g i j)) H) : oCmp g k (.int i) (.int j) H Q := h
theorem g_bitsI {T : Int → Prop} (h : T i) : ∃ n, V.int i = .int n ∧ T n := ⟨i, rfl, h⟩
theorem g_eqI (h : Q (.bl (decide (i = j))) H) : oEq K (.int i) (.int j) H Q := by
  refine Or.inl ⟨rfl, ?_⟩
  have e : decide (V.int i = V.int j) = decide (i = j) := by simp
  rw [e]; exact h
theorem g_neI (h : Q (.bl (!decide (i = j))) H) : oNe K (.int i) (.int j) H Q := by
  refine Or.inl ⟨rfl, ?_⟩
  have e : decide (V.int i = V.int j) = decide (i = j) := by simp
  rw [e]; exact h
theorem g_eqS {a b : Str} (h : Q (.bl (decide (a = b))) H) : oEq K (.str a) (.str b) H Q := by
  refine Or.inl ⟨rfl, ?_⟩
  have e : decide (V.str a = V.str b) = decide (a = b) := by simp
  rw [e]; exact h
theorem g_neS {a b : Str} (h : Q (.bl (!decide (a = b))) H) : oNe K (.str a) (.str b) H Q := by
  refine Or.inl ⟨rfl, ?_⟩
  have e : decide (V.str a = V.str b) = decide (a = b) := by simp
  rw [e]; exact h
theorem g_eqB {a b : Bool} (h : Q (.bl (decide (a = b))) H) : oEq K (.bl a) (.bl b) H Q := by
  refine Or.inl ⟨rfl, ?_⟩
  have e : decide (V.bl a = V.bl b) = decide (a = b) := by simp
  rw [e]; exact h
theorem g_neB {a b : Bool} (h : Q (.bl (!decide (a = b))) H) : oNe K (.bl a) (.bl b) H Q := by
  refine Or.inl ⟨rfl, ?_⟩
  have e : decide (V.bl a = V.bl b) = decide (a = b) := by simp
  rw [e]; exact h
theorem g_eqx {x y : V} (hs : scal x y = true) (hn : x ≠ y) (h : Q (.bl false) H) : oEq K x y H Q := by
  refine Or.inl ⟨hs, ?_⟩
  rw [decide_eq_false hn]; exact h
theorem g_nex {x y : V} (hs : scal x y = true) (hn : x ≠ y) (h : Q (.bl true) H) : oNe K x y H Q := by
  refine Or.inl ⟨hs, ?_⟩
  rw [decide_eq_false hn]; exact h
theorem g_isN {x : V} (h : Q (.bl (decide (x = .non))) H) : (fun x y H Q => y = V.non ∧ Q (.bl (decide (x = .non))) H : R2) x .non H Q := ⟨rfl, h⟩
end
/-! ifs -/
theorem g_ite {p : Prop} [Decidable p] {A B : Prop} (h1 : p → A) (h2 : ¬ p → B) : if decide p = true then A else B := by
  by_cases h : p
  · rw [if_pos (decide_eq_true h)]; exact h1 h
  · rw [if_neg (by simp [h])]; exact h2 h
theorem g_iten {p : Prop} [Decidable p] {A B : Prop} (h1 : ¬ p → A) (h2 : p → B) : if (!decide p) = true then A else B := by
  by_cases h : p
  · rw [if_neg (by simp [h])]; exact h2 h
  · rw [if_pos (by simp [h])]; exact h1 h
theorem g_iteb {b : Bool} {A B : Prop} (h1 : b = true → A) (h2 : b = false → B) : if b = true then A else B := by
  cases b
  · exact h2 rfl
  · exact h1 rfl
theorem g_yes {p : Prop} [Decidable p] {A B : Prop} (hp : p) (h : A) : if decide p = true then A else B := by
  rw [if_pos (decide_eq_true hp)]; exact h
theorem g_no {p : Prop} [Decidable p] {A B : Prop} (hp : ¬ p) (h : B) : if decide p = true then A else B := by
  rw [if_neg (by simp [hp])]; exact h
theorem g_cut {t u : TS} (R : L2.St → Hp → Prop) (h1 : t { D with nx := R } σ H) (h2 : ∀ σ' H', R σ' H' → u D σ' H') : C8.tCut t u D σ H := ⟨R, h1, h2⟩
theorem g_meth {C : Addr} {m : Str} {sp : Sp} {dvs : List V} {E : XK} {t : TA} (h : ta σ H fun x H1 => ∃ a dx fs, x = .ref a ∧ H1 a = some (.ins C dx fs) ∧ fs.lookup m = none ∧ t σ H1 fun vs H2 => sp (x :: (vs ++ dvs)) H2 Q E) : tMeth C m sp dvs E ta t σ H Q := h
theorem g_par {i j : Nat} {ta : TA} (h : ta σ H fun vs H1 => ∃ v w, vs = [v, w] ∧ D.nx ((σ.set i (some v)).set j (some w)) H1) : tPar i j ta D σ H := h
theorem g_par2 {a b : V} {T : V → V → Prop} (h : T a b) : ∃ v w, [a, b] = [v, w] ∧ T v w := ⟨a, b, rfl, h⟩
theorem g_rfl {a : V} {T : Prop} (h : T) : a = a ∧ T := ⟨rfl, h⟩
theorem g_ixT {p : Addr} {xs : List V} {i : Int} {v : V} (h : H p = some (.tup xs)) (e : atI xs i = some v) (q : Q v H) : rIx K (.ref p) (.int i) H Q := .inr (.inl ⟨p, xs, i, v, rfl, rfl, SqT.of h, e, q⟩)
theorem g_ixL {p : Addr} {xs : List V} {i : Int} {v : V} (h : H p = some (.lst xs)) (e : atI xs i = some v) (q : Q v H) : rIx K (.ref p) (.int i) H Q := .inl ⟨p, xs, i, v, rfl, rfl, SqL.of h, e, q⟩
/-! loops -/
theorem g_for {wi : TI} {g : TG} {tb : TS} (h : wi σ H fun J H1 => ∃ W : Nat → Nat → L2.St → Hp → Prop, (∃ m, W 0 m σ H1) ∧ ∀ i m σ H, W i m σ H →
  (J.stop i H ∧ D.nx σ H) ∨ (J.go i H ∧ ∃ N : L2.St → Hp → Prop, (∀ σ' H', N σ' H' → ∃ m', m' < m ∧ W (i + 1) m' σ' H') ∧ ∀ x H', J.yld i H x H' → g x σ H' fun σ2 H2 => tb { D with nx := N, ct := N, bk := D.nx } σ2 H2)) : tFor wi g tb D σ H := h
theorem g_iList {R : It → Hp → Prop} (h : te σ H fun x H1 => ∃ a, x = .ref a ∧ (∃ xs, SqL K H1 a xs) ∧ R (Itl K a) H1) : iList K te σ H R := h
theorem g_iTup {R : It → Hp → Prop} (h : te σ H fun x H1 => ∃ a, x = .ref a ∧ (∃ xs, SqT K H1 a xs) ∧ R (Itt K a) H1) : iTup K te σ H R := h
theorem g_iRng1 {ta : TA} {R : It → Hp → Prop} (h : ta σ H fun vs H1 => ∃ j : Int, vs = [.int j] ∧ -(2 ^ 62) ≤ j ∧ j < 2 ^ 62 ∧ R (Itr 0 j.toNat) H1) : iRng1 ta σ H R := h
theorem g_iEnum {ta : TA} {R : It → Hp → Prop} (h : ta σ H fun vs H1 => ∃ a xs, vs = [.ref a] ∧ SqL K H1 a xs ∧ R (Ite K a) H1) : iEnum K ta σ H R := h
theorem g_slice {r : V → Option Int → Option Int → Hp → VK → Prop} {tl th : TO} (h : te σ H fun x H1 => tl σ H1 fun l H2 => th σ H2 fun u H3 => r x l u H3 Q) : tSl r te tl th σ H Q := h
theorem g_po0 {R : Option Int → Hp → Prop} (h : R none H) : tNoPart σ H R := h
theorem g_po1 {R : Option Int → Hp → Prop} (h : te σ H fun x H1 => ∃ i, x = .int i ∧ R (some i) H1) : tPart te σ H R := h
theorem g_poI {i : Int} {T : Int → Prop} (h : T i) : ∃ n, V.int i = .int n ∧ T n := ⟨i, rfl, h⟩
theorem g_gsub {to ti : TE} {t : TSet} {v : V} {R : L2.St → Hp → Prop} (h : to σ H fun o H1 => ti σ H1 fun i H2 => t o i v H2 fun H3 => R σ H3) : gSub to ti t v σ H R := h
theorem g_intI {i : Int} {T : Int → Prop} {U : Prop} (h : T i) : (∃ j, [V.int i] = [.int j] ∧ T j) ∨ U := .inl ⟨i, rfl, h⟩
theorem g_intB {b : Bool} {T : Bool → Prop} {U : Prop} (h : T b) : U ∨ ∃ k, [V.bl b] = [.bl k] ∧ T k := .inr ⟨b, rfl, h⟩
theorem g_setL {p : Addr} {xs : List V} {k : Int} {j : Nat} {v : V} {R : Hp → Prop} (h : H p = some (.lst xs)) (e : ixN xs.length k = some j) (q : ∀ H', H' p = some (.lst (xs.set j v)) → (∀ b, b ≠ p → H' b = H b) → R H') : rSetL (.ref p) (.int k) v H R :=
  ⟨p, xs, k, j, rfl, rfl, h, e, q _ upd_same fun b hb => upd_ne hb⟩
theorem g_max2 {i j : Int} {T : Int → Int → Prop} (h : T i j) : ∃ a b, [V.int i, V.int j] = [.int a, .int b] ∧ T a b := ⟨i, j, rfl, h⟩
theorem g_abs1 {i : Int} {T : Int → Prop} (h : T i) : ∃ a, [V.int i] = [.int a] ∧ T a := ⟨i, rfl, h⟩
theorem g_lenL {p : Addr} {xs : List V} {T : List V → Prop} (h : H p = some (.lst xs)) (q : T xs) : ∃ p' ys, [V.ref p] = [.ref p'] ∧ (SqL K H p' ys ∨ SqT K H p' ys) ∧ T ys := ⟨p, xs, rfl, .inl (SqL.of h), q⟩
theorem g_lc {wi : TI} {g : TG} {tt : TT} {vs : List Nat} (h : wi σ H fun J H1 => ∀ D, H1 D = none → ∃ W : Nat → Nat → Hp → Prop, (∃ m, W 0 m (upd H1 D (.lst []))) ∧ ∀ i m H, W i m H →
  (J.stop i H ∧ Q (.ref D) H) ∨ (J.go i H ∧ ∃ Nx : Hp → Prop, (∀ H', Nx H' → ∃ m', m' < m ∧ W (i + 1) m' H') ∧ ∀ x H', J.yld i H x H' → g x (wipe σ vs) H' fun σ2 H2 => wipe σ2 vs = wipe σ vs ∧ tt σ2 H2 fun b H3 =>
    if b = true then te σ2 H3 fun y H4 => ∃ acc, H4 D = some (.lst acc) ∧ acc.length < sizeLine ∧ Nx (upd H4 D (.lst (acc ++ [y]))) else Nx H3)) : tLc wi g tt te vs σ H Q := h
theorem g_yesT {R : Bool → Hp → Prop} (h : R true H) : tYes σ H R := h
theorem dp_bl : ∀ bs : List Bool, DpAll K H (bs.map V.bl) (bs.map PyData.bool)
  | [] => .nil
  | b :: bs => .cons (.bl b) (dp_bl bs)
theorem g_eqBs {a b : Addr} {bs : List Bool} (ha : H a = some (.lst (bs.map V.bl))) (hb : H b = some (.lst (bs.map V.bl))) (hs : SeqAt.shaped (.list (bs.map PyData.bool)) = true) (q : Q (.bl true) H) : oEq K (.ref a) (.ref b) H Q := by
  refine .inr ⟨_, _, .lst (SqL.of ha) (dp_bl bs), .lst (SqL.of hb) (dp_bl bs), hs, hs, ?_⟩
  rw [SeqAt.eqv_refl _ (SeqAt.canLay_of_shaped hs)]
  exact q
/-! new objects -/
theorem g_tup {t : TA} (h : t σ H fun xs H1 => xs.length ≤ sizeLine ∧ NewAt H1 (.tup xs) Q) : tTupN t σ H Q := h
theorem g_lst {t : TA} (h : t σ H fun xs H1 => xs.length ≤ sizeLine ∧ NewAt H1 (.lst xs) Q) : tLstN t σ H Q := h
theorem g_new {n : Nat} {o : HO} (hn : n ≤ sizeLine) (h : ∀ p H', H p = none → Same H H' → H' p = some o → (∀ b, b ≠ p → H' b = H b) → Q (.ref p) H') : n ≤ sizeLine ∧ NewAt H o Q := ⟨hn, h⟩
theorem g_make {C : Addr} {sp : Sp} {dvs : List V} {E : XK} {t : TA} (h : t σ H fun vs H1 => MakeR C sp (vs ++ dvs) H1 Q E) : tMakeN C sp dvs E t σ H Q := h
end
end Up

set_option Elab.async false
set_option linter.all false
set_option maxRecDepth 100000
set_option maxHeartbeats 4000000
namespace Up
open PySem PySem.Spec PyProof.Rows L2
/-! ### what a call hands back, over a heap in which all that stood stands -/
abbrev Ret (H : Hp) (v : V) (Q : VK) : Prop := ∀ H', Same H H' → Q v H'
abbrev RetT (H : Hp) (xs : List V) (Q : VK) : Prop := ∀ H' a, H a = none → Same H H' → H' a = some (.tup xs) → Q (.ref a) H'
abbrev RetL (H : Hp) (xs : List V) (Q : VK) : Prop := ∀ H' a, H a = none → Same H H' → H' a = some (.lst xs) → Q (.ref a) H'
/-! ### what is known of a value's kind -/
def isI : V → Bool
  | .int _ => true
  | _ => false
def isB : V → Bool
  | .bl _ => true
  | _ => false
def isS : V → Bool
  | .str _ => true
  | _ => false
/-- the classes int, bool, str asked of x -/
structure Kn (K : PySem.W.Frag) (H : Hp) (x : V) (t : Value) : Prop where
  ty : TyX K H x t
  int : PySem.W.kitOne K t (.type "int") = some (isI x || isB x)
  bool : PySem.W.kitOne K t (.type "bool") = some (isB x)
  str : PySem.W.kitOne K t (.type "str") = some (isS x)
theorem kn_non {K : PySem.W.Frag} {H : Hp} : Kn K H .non (.type "NoneType") := ⟨.base .non, kit_ty (r := false) (by decide +kernel), kit_ty (r := false) (by decide +kernel), kit_ty (r := false) (by decide +kernel)⟩
theorem kn_bl {K : PySem.W.Frag} {H : Hp} {b : Bool} : Kn K H (.bl b) (.type "bool") := ⟨.base (.bl b), kit_ty (r := true) (by decide +kernel), kit_ty (r := true) (by decide +kernel), kit_ty (r := false) (by decide +kernel)⟩
theorem kn_int {K : PySem.W.Frag} {H : Hp} {i : Int} : Kn K H (.int i) (.type "int") := ⟨.base (.int i), kit_ty (r := true) (by decide +kernel), kit_ty (r := false) (by decide +kernel), kit_ty (r := false) (by decide +kernel)⟩
theorem kn_str {K : PySem.W.Frag} {H : Hp} {i : Str} : Kn K H (.str i) (.type "str") := ⟨.base (.str i), kit_ty (r := false) (by decide +kernel), kit_ty (r := false) (by decide +kernel), kit_ty (r := true) (by decide +kernel)⟩
theorem kn_lst {K : PySem.W.Frag} {H : Hp} {a : Addr} {xs : List V} (h : H a = some (.lst xs)) : Kn K H (.ref a) (.type "list") := ⟨.base (.lst h), kit_ty (r := false) (by decide +kernel), kit_ty (r := false) (by decide +kernel), kit_ty (r := false) (by decide +kernel)⟩
theorem kn_tup {K : PySem.W.Frag} {H : Hp} {a : Addr} {xs : List V} (h : H a = some (.tup xs)) : Kn K H (.ref a) (.type "tuple") := ⟨.base (.tup h), kit_ty (r := false) (by decide +kernel), kit_ty (r := false) (by decide +kernel), kit_ty (r := false) (by decide +kernel)⟩
theorem kn_dK {K : PySem.W.Frag} {H : Hp} {a : Addr} {xs : List (Key × V)} (h : H a = some (.dK xs)) : Kn K H (.ref a) (.type "dict") := ⟨.base (.dK h), kit_ty (r := false) (by decide +kernel), kit_ty (r := false) (by decide +kernel), kit_ty (r := false) (by decide +kernel)⟩
/-- an own class whose instances are no int, bool, str -/
structure OwnC (K : PySem.W.Frag) (C : Addr) : Prop where
  cl : Cls K C
  ha : PySem.W.findIn K (.ref C) "__class__" = some (some (.builtin "object.__class__"))
  hn : PySem.W.specialIn K (.builtin "object.__class__") "__get__" = some (some (.builtin "getset_descriptor.__get__"))
  htk : PySem.W.takesIn K (.builtin "object.__class__") = some true
  hm : PySem.W.mroIn K C (.type "object") = some true
  int : PySem.W.kitOne K (.ref C) (.type "int") = some false
  bool : PySem.W.kitOne K (.ref C) (.type "bool") = some false
  str : PySem.W.kitOne K (.ref C) (.type "str") = some false
theorem kn_ins {K : PySem.W.Frag} {H : Hp} {a C dx : Addr} {fs : List (Str × V)} (T : OwnC K C) (h : H a = some (.ins C dx fs)) : Kn K H (.ref a) (.ref C) := ⟨.base (.ins h T.cl T.ha T.hn T.htk T.hm), T.int, T.bool, T.str⟩
theorem g_isi {K : PySem.W.Frag} {H : Hp} {Q : VK} {x c : V} {t u : Value} {b : Bool} (ht : TyX K H x t) (hc : ClsV c u) (hk : PySem.W.kitOne K t u = some b) (q : Q (.bl b) H) : rIsi K [x, c] H Q := ⟨x, c, t, u, b, rfl, hc, ht, hk, q⟩
section
variable {K : PySem.W.Frag} {H H' : Hp} {Q : VK} {x : V} {t : Value}
theorem TyX.same (s : Same H H') (h : TyX K H x t) : TyX K H' x t := by
  cases h with
  | base h => cases h with
    | non => exact .base .non
    | bl b => exact .base (.bl b)
    | int b => exact .base (.int b)
    | str b => exact .base (.str b)
    | flt b => exact .base (.flt b)
    | lst e => exact .base (.lst (s _ _ e))
    | frz e => exact .base (.frz (s _ _ e))
    | tup e => exact .base (.tup (s _ _ e))
    | dK e => exact .base (.dK (s _ _ e))
    | dT e => exact .base (.dT (s _ _ e))
    | ins e c h1 h2 h3 h4 => exact .base (.ins (s _ _ e) c h1 h2 h3 h4)
  | byt b => exact .byt b
  | set e => exact .set (s _ _ e)
  | kList e c => exact .kList e c
  | kTuple e c => exact .kTuple e c
  | kDict e c => exact .kDict e c
  | fTuple e => exact .fTuple (s _ _ e)
  | fDict e => exact .fDict (s _ _ e)
theorem Kn.same (s : Same H H') (h : Kn K H x t) : Kn K H' x t := ⟨TyX.same s h.ty, h.int, h.bool, h.str⟩
theorem g_isiInt (h : Kn K H x t) (q : Q (.bl (isI x || isB x)) H) : rIsi K [x, .ty "int"] H Q := g_isi h.ty (.ty _) h.int q
theorem g_isiBool (h : Kn K H x t) (q : Q (.bl (isB x)) H) : rIsi K [x, .ty "bool"] H Q := g_isi h.ty (.ty _) h.bool q
theorem g_isiStr (h : Kn K H x t) (q : Q (.bl (isS x)) H) : rIsi K [x, .ty "str"] H Q := g_isi h.ty (.ty _) h.str q
end
end Up

set_option Elab.async false
set_option linter.all false
set_option maxRecDepth 100000
set_option maxHeartbeats 4000000
namespace Up
open PySem PySem.Spec PyProof.Rows L2 PySem.SeqAt HN
/-! ### == of None and of instances of a class without an own one -/
structure IdC (K : PySem.W.Frag) (C : Addr) : Prop where
  hm : PySem.W.mroIn K C (.type "object") = some true
  he : PySem.W.findIn K (.ref C) "__eq__" = some (some (.builtin "object.__eq__"))
  hn : PySem.W.subIn K (.ref C) (.type "NoneType") = some false
section
variable {M : Model} {prog : Program} {w : World} {A : Around} {E : Value → Shared → Prop} {s : Shared} {K : PySem.W.Frag} {x y C : Addr} {ox oy : Obj} {od oe : Option Obj}
theorem inst_nt (I : PySem.W.InstAt s.heap x ox C od) : ox.cls ≠ .type "tuple" := by
  obtain ⟨_, hc, _, _⟩ := I
  rw [hc]; exact fun z => nomatch z
theorem obj_other {Q : Value → Shared → Prop} (X : K.In s.heap) (I : PySem.W.InstAt s.heap x ox C od) (J : PySem.W.InstAt s.heap y oy C oe) (T : IdC K C) (hxy : x ≠ y) (hq : Q .notImplemented s) :
    wpAny (model prog w) A (call (.builtin "object.__eq__") [.ref x, .ref y]) Q E s :=
  wpAny_call (codeAny_call_builtin PySem.F.cmp_object.eq.plain PySem.F.cmpEntry_eq (PySem.W.check_slot PySem.F.cmpKind_eq PySem.F.cmpSplit_eq (I.type.andThen (PySem.W.looks_mroIn X T.hm)) (PySem.F.cmpArgs_eq _ _) (objEq_entry_other hxy I.1 J.1 (inst_nt I) hq)))
theorem obj_same {Q : Value → Shared → Prop} (X : K.In s.heap) (I : PySem.W.InstAt s.heap x ox C od) (T : IdC K C) (hq : Q (.bool true) s) :
    wpAny (model prog w) A (call (.builtin "object.__eq__") [.ref x, .ref x]) Q E s :=
  wpAny_call (codeAny_call_builtin PySem.F.cmp_object.eq.plain PySem.F.cmpEntry_eq (PySem.W.check_slot PySem.F.cmpKind_eq PySem.F.cmpSplit_eq (I.type.andThen (PySem.W.looks_mroIn X T.hm)) (PySem.F.cmpArgs_eq _ _) (objEq_entry_same hq)))
theorem try_other {Q : Option Value → Shared → Prop} (X : K.In s.heap) (I : PySem.W.InstAt s.heap x ox C od) (J : PySem.W.InstAt s.heap y oy C oe) (T : IdC K C) (hxy : x ≠ y) (hq : Q none s) :
    wpAny (model prog w) A (tryCompare (.ref x) "__eq__" (.ref y)) Q E s := by
  unfold tryCompare
  exact wpAny_bind (ifBound_objEq X I T.he (obj_other X I J T hxy (wpAny_pure hq)))
theorem try_same {Q : Option Value → Shared → Prop} (X : K.In s.heap) (I : PySem.W.InstAt s.heap x ox C od) (T : IdC K C) (hq : Q (some (.bool true)) s) :
    wpAny (model prog w) A (tryCompare (.ref x) "__eq__" (.ref x)) Q E s := by
  unfold tryCompare
  exact wpAny_bind (ifBound_objEq X I T.he (obj_same X I T (wpAny_pure hq)))
theorem try_rn {Q : Option Value → Shared → Prop} (X : K.In s.heap) (I : PySem.W.InstAt s.heap x ox C od) (T : IdC K C) (hq : Q none s) :
    wpAny (model prog w) A (tryCompare (.ref x) "__eq__" .none) Q E s := by
  unfold tryCompare
  exact wpAny_bind (ifBound_objEq X I T.he (HN.call_objEq X I T.hm (wpAny_pure hq)))
theorem try_nr {Q : Option Value → Shared → Prop} (hq : Q none s) : wpAny (model prog w) A (tryCompare .none "__eq__" (.ref x)) Q E s :=
  wpAny_tryCompare_declines (show s.TypeIs .none "NoneType" from rfl) PySem.F.slot_NoneType_eq_refl (call_gives PySem.F.slot_NoneType_eq_refl rfl PySem.F.entry_NoneType_eq (PySem.F.args_NoneType_eq_2 _ _) (NoneType___eq___none_ref_0 x) ⟨rfl, hq⟩)
theorem rc_same {Q : Value → Shared → Prop} (hu : A.units < cLine) (X : K.In s.heap) (I : PySem.W.InstAt s.heap x ox C od) (T : IdC K C) (hq : Q (.bool true) s) : wpAny (model prog w) A (richCompare .Eq (.ref x) (.ref x)) Q E s := by
  simp only [richCompare, cmpInfo_Eq, oneThing_ref]
  refine wpAny_holding (wpAny_bind (wpAny_cRoomFor hu ?_))
  refine wpAny_bind (I.type.here (wpAny_bind (I.type.here ?_)))
  simp only [bne_self_eq_false, Bool.false_eq_true, if_false]
  refine wpAny_bind (wpAny_pure (wpAny_bind (m := tryCompare (.ref x) _ (.ref x)) (try_same X I T ?_)))
  exact wpAny_pure hq
theorem rc_other {Q : Value → Shared → Prop} (hu : A.units < cLine) (X : K.In s.heap) (I : PySem.W.InstAt s.heap x ox C od) (J : PySem.W.InstAt s.heap y oy C oe) (T : IdC K C) (hxy : x ≠ y) (hq : Q (.bool false) s) : wpAny (model prog w) A (richCompare .Eq (.ref x) (.ref y)) Q E s := by
  simp only [richCompare, cmpInfo_Eq, oneThing_ref]
  refine wpAny_holding (wpAny_bind (wpAny_cRoomFor hu ?_))
  refine wpAny_bind (I.type.here (wpAny_bind (J.type.here ?_)))
  simp only [bne_self_eq_false, Bool.false_eq_true, if_false]
  refine wpAny_bind (wpAny_pure (wpAny_bind (m := tryCompare (.ref x) _ (.ref y)) (try_other X I J T hxy ?_)))
  simp only [Bool.false_eq_true, if_false, Bool.not_false, if_true]
  refine wpAny_bind (m := tryCompare (.ref y) _ (.ref x)) (try_other X J I T hxy.symm ?_)
  exact wpAny_bind (wpAny_rule (wpAny_bind (wpAny_isSame_ref_other hxy I.1 J.1 (inst_nt I) (wpAny_pure hq))))
theorem rc_nr {Q : Value → Shared → Prop} (hu : A.units < cLine) (X : K.In s.heap) (I : PySem.W.InstAt s.heap x ox C od) (T : IdC K C) (hq : Q (.bool false) s) : wpAny (model prog w) A (richCompare .Eq .none (.ref x)) Q E s := by
  have h0 : oneThing? .Eq .none (.ref x) = none := rfl
  simp only [richCompare, cmpInfo_Eq, h0]
  refine wpAny_holding (wpAny_bind (wpAny_cRoomFor hu ?_))
  refine wpAny_bind (wpAny_typeOf (show s.TypeIs .none "NoneType" from rfl) (wpAny_bind (I.type.here ?_)))
  split
  · refine wpAny_bind ((PySem.W.looks_subIn X T.hn).here ?_)
    simp only [Bool.false_eq_true, if_false, Bool.not_false, if_true]
    refine wpAny_bind (m := tryCompare .none _ (.ref x)) (try_nr ?_)
    refine wpAny_bind (m := tryCompare (.ref x) _ .none) (try_rn X I T ?_)
    exact wpAny_bind (wpAny_rule (wpAny_bind (wpAny_of_eq (rfl : isSame .none (.ref x) = pure false) (wpAny_pure hq))))
  · rename_i q
    exact absurd (by simp) q
end
/-- None, or an instance of the class at C -/
def IdV (C : Addr) (H : Hp) (x : V) : Prop := x = .non ∨ ∃ a dx fs, x = .ref a ∧ H a = some (.ins C dx fs)
def rEqId (C : Addr) : R2 := fun x y H Q => IdV C H x ∧ IdV C H y ∧ Q (.bl (decide (x = y))) H
theorem op_eqId {X : Cx} {C : Addr} (T : IdC X.K C) (hu : X.A.units + 64 < cLine) : OpR X (compareOp .Eq) (rEqId C) := by
  intro pins s σ H x y v u Q I rx ry h
  obtain ⟨h1, h2, q⟩ := h
  have hu0 : X.A.units < cLine := by omega
  show wpAny (model X.prog X.w) X.A (richCompare .Eq v u) (EP X pins σ Q) X.xe s
  rcases h1 with rfl | ⟨a, dx, fs, rfl, ha⟩
  · rcases h2 with rfl | ⟨b, dy, gs, rfl, hb⟩
    · exact op_eq pins s σ H .non .non v u Q I rx ry ⟨rfl, q⟩
    · cases rx
      cases ry
      obtain ⟨mA, O, _⟩ := ins_get I.hok hb
      obtain ⟨od, J, _⟩ := O.look
      exact rc_nr hu0 I.kIn J T ⟨.bl false, H, I, rfl, q⟩
  · obtain ⟨mA, O, _⟩ := ins_get I.hok ha
    obtain ⟨od, J, _⟩ := O.look
    rcases h2 with rfl | ⟨b, dy, gs, rfl, hb⟩
    · cases rx
      cases ry
      exact rc_none hu0 I.kIn J T.hm T.he X.prog X.w X.xe _ ⟨.bl false, H, I, rfl, q⟩
    · cases rx
      cases ry
      obtain ⟨mB, O2, _⟩ := ins_get I.hok hb
      obtain ⟨oe, J2, _⟩ := O2.look
      by_cases hab : a = b
      · subst hab
        rw [decide_eq_true rfl] at q
        exact rc_same hu0 I.kIn J T ⟨.bl true, H, I, rfl, q⟩
      · rw [decide_eq_false (fun z => hab (by injection z))] at q
        exact rc_other hu0 I.kIn J J2 T hab ⟨.bl false, H, I, rfl, q⟩
def oEqI (K : PySem.W.Frag) (C : Addr) : R2 := fun x y H Q => oEq K x y H Q ∨ rEqId C x y H Q
theorem op_oEqI {X : Cx} {C : Addr} (T : IdC X.K C) (hu : X.A.units + 64 < cLine) : OpR X (compareOp .Eq) (oEqI X.K C) := op_or (op_oEq hu) (op_eqId T hu)
end Up

set_option Elab.async false
set_option linter.all false
set_option maxRecDepth 100000
set_option maxHeartbeats 4000000
namespace Up
open PySem PySem.Spec PyProof.Rows L2 PySem.SeqAt HN
/-! ### == and != of two instances of a class with its own __eq__ -/
def EqC (P : Program) (w : World) (K : PySem.W.Frag) (mg : Str → Option Value) (base : Heap) (k : Nat) (C : Addr) (sp : Sp) : Prop :=
  ∃ f fd, FnOk P w K mg base CX0 k f fd ["self", "other"] sp ∧ PySem.W.findIn K (.ref C) "__eq__" = some (some (.ref f)) ∧ PySem.W.isFn K (.ref f) = true ∧ Binds K fd ["self", "other"] [] ∧
    PySem.W.findIn K (.ref C) "__ne__" = some (some (.builtin "object.__ne__")) ∧ PySem.W.mroIn K C (.type "object") = some true
def rEqO (C : Addr) (sp : Sp) : R2 := fun x y H Q => ∃ a b dx dy fs gs, x = .ref a ∧ y = .ref b ∧ H a = some (.ins C dx fs) ∧ H b = some (.ins C dy gs) ∧ sp [.ref a, .ref b] H (fun v H' => ∃ c, v = .bl c ∧ Q (.bl c) H') E0
def rNeO (C : Addr) (sp : Sp) : R2 := fun x y H Q => ∃ a b dx dy fs gs, x = .ref a ∧ y = .ref b ∧ H a = some (.ins C dx fs) ∧ H b = some (.ins C dy gs) ∧ sp [.ref a, .ref b] H (fun v H' => ∃ c, v = .bl c ∧ Q (.bl (!c)) H') E0
section
variable {X : Cx} {C : Addr} {k : Nat} {sp : Sp}
/-- the own __eq__ runs, wherever it is called from -/
theorem run_eq {pins : List (Addr × Obj)} {σ : L2.St} {H : Hp} {s : Shared} {A : Around} {f a b : Addr} {fd : FuncData} {Qv : VK} {R : Value → Shared → Prop} {E : Value → Shared → Prop} (F : FnOk X.prog X.w X.K X.mg X.base CX0 k f fd ["self", "other"] sp) (hb : Binds X.K fd ["self", "other"] [])
    (hr : Room k A) (hA : A.frames = X.A.frames) (I : L2.Inv X pins σ H s) (h : sp [.ref a, .ref b] H Qv E0) (q : ∀ v u H' s', L2.Inv X pins σ H' s' → L2.RelV v u → Qv v H' → R u s') : wpAny (model X.prog X.w) A (call (.ref f) [.ref a, .ref b]) R E s := by
  have e := I.env0
  have e0 : Env0 X.prog X.w X.K X.mg X.base A X.stack s H := ⟨by rw [hA]; exact e.frames, e.mod, e.bs, e.bsz, e.funs, e.frf, e.hok, e.bare⟩
  have r2 : Vals [V.ref a, V.ref b] [Value.ref a, Value.ref b] := .cons rfl (.cons rfl .nil)
  have bb := hb s [.ref a, .ref b] I.kIn rfl
  refine wpAny_call (codeAny_mono (F.run A X.stack s H ⟨[.ref a, .ref b], []⟩ [.ref a, .ref b] [.ref a, .ref b] Qv E0 hr e0 bb r2 h) fun r s' hq => ?_)
  cases r with
  | error e => exact hq.elim
  | ok fl =>
    cases fl with
    | ret u =>
      obtain ⟨v, H', I', rv, qv⟩ := I.after hq
      exact q v u H' s' I' rv qv
    | next => exact False.elim hq
    | brk => exact False.elim hq
    | cont => exact False.elim hq
theorem op_eqO (T : EqC X.prog X.w X.K X.mg X.base k C sp) (hr : Room k X.A) : OpR X (compareOp .Eq) (rEqO C sp) := by
  intro pins s σ H x y v u Q I rx ry h
  obtain ⟨f, fd, F, hs, hf, hb, hne, hm⟩ := T
  obtain ⟨a, b, dx, dy, fs, gs, rfl, rfl, ha, hb', h⟩ := h
  cases rx
  cases ry
  obtain ⟨mA, J, _⟩ := ins_get I.hok ha
  obtain ⟨mB, J', _⟩ := ins_get I.hok hb'
  obtain ⟨od, J, _⟩ := J.look
  obtain ⟨od', J', _⟩ := J'.look
  obtain ⟨m, hF⟩ := I.fr
  show wpAny (model X.prog X.w) X.A (richCompare .Eq (.ref a) (.ref b)) (EP X pins σ Q) X.xe s
  refine PySem.W.cmp_K (op := .Eq) (tb := .ref C) hr.units0 hF I.ok.mod.kin J J'.type (by simp [PySem.W.notFirst]) hs hf ?_
  refine run_eq F hb hr rfl I h fun v u H' s' I' rv qv => ?_
  obtain ⟨c, rfl, qv⟩ := qv
  cases rv
  exact ⟨.bl c, H', I', rfl, qv⟩
theorem ifBound_objNe {M : Model} {A : Around} {E : Value → Shared → Prop} {s : Shared} {K : PySem.W.Frag} {x C : Addr} {ox : Obj} {od : Option Obj} {args : List Value} {Q : Option Value → Shared → Prop} (Y : K.In s.heap) (I : PySem.W.InstAt s.heap x ox C od) (hs : PySem.W.findIn K (.ref C) "__ne__" = some (some (.builtin "object.__ne__")))
    (h : wpAny M A (call (.builtin "object.__ne__") (.ref x :: args)) (fun v => Q (some v)) E s) : wpAny M A (callSpecialIfBound? (.ref x) "__ne__" args) Q E s := by
  simp only [callSpecialIfBound?, bindSpecialIfBound?]
  refine wpAny_holding (wpAny_bind (wpAny_bind (wpAny_bind (I.type.here ((PySem.W.looks_findIn Y hs).here ?_)))))
  refine wpAny_bind (wpAny_askSetting (wpAny_ite ?_))
  have fin : wpAny M A (call (.builtin "object.__ne__") ([.ref x] ++ args) >>= fun v => pure (some v)) Q E s := wpAny_bind (wpAny_mono h (fun v s' z => wpAny_pure z) fun _ _ z => z)
  split
  · exact wpAny_bind (wpAny_of_eq (PySem.F.cmp_object.ne.bind _) (wpAny_pure (by exact fin)))
  · exact wpAny_tryCatch (wpAny_bind (wpAny_of_eq (PySem.F.cmp_object.ne.bind _) (wpAny_pure (by exact fin))))
theorem op_neO (T : EqC X.prog X.w X.K X.mg X.base k C sp) (hr : Room (k + 1) X.A) : OpR X (compareOp .NotEq) (rNeO C sp) := by
  intro pins s σ H x y v u Q I rx ry h
  obtain ⟨f, fd, F, hs, hf, hb, hne, hm⟩ := T
  obtain ⟨a, b, dx, dy, fs, gs, rfl, rfl, ha, hb', h⟩ := h
  cases rx
  cases ry
  obtain ⟨mA, J, _⟩ := ins_get I.hok ha
  obtain ⟨mB, J', _⟩ := ins_get I.hok hb'
  obtain ⟨od, J, _⟩ := J.look
  obtain ⟨od', J', _⟩ := J'.look
  show wpAny (model X.prog X.w) X.A (richCompare .NotEq (.ref a) (.ref b)) (EP X pins σ Q) X.xe s
  have hu := hr.un
  have one : wpAny (model X.prog X.w) X.A (tryCompare (.ref a) "__ne__" (.ref b)) (fun r s' => ∃ v, r = some v ∧ EP X pins σ Q v s') X.xe s := by
    unfold tryCompare
    refine wpAny_bind (ifBound_objNe I.kIn J hne ?_)
    refine wpAny_call (codeAny_call_builtin PySem.F.cmp_object.ne.plain PySem.F.cmpEntry_ne (PySem.W.check_slot PySem.F.cmpKind_ne PySem.F.cmpSplit_ne (J.type.andThen (PySem.W.looks_mroIn I.kIn hm)) (PySem.F.cmpArgs_ne _ _) ?_))
    unfold Builtin.«object.__ne__»
    refine wpAny_bind (wpAny_of_eq (a := ((Value.ref a : Value), [Value.ref b])) (by first | rfl | (simp only [slotArgs]; rfl)) ?_)
    refine wpAny_bind (wpAny_cRoomFor (by show X.A.units + 1 < cLine; omega) ?_)
    refine wpAny_bind (PySem.W.ifBound_K I.kIn J hs hf ?_)
    refine run_eq F hb hr.in1 rfl I h fun v u H' s' I' rv qv => ?_
    obtain ⟨c, rfl, qv⟩ := qv
    cases rv
    refine wpAny_bind (wpAny_truthy_bool (wpAny_pure ?_))
    exact wpAny_pure ⟨_, rfl, .bl (!c), H', I', rfl, qv⟩
  unfold richCompare
  simp only [oneThing_ref, cmpInfo_NotEq]
  refine wpAny_holding (wpAny_bind (wpAny_cRoomFor (by omega) ?_))
  refine wpAny_bind (J.type.here (wpAny_bind (J'.type.here ?_)))
  simp only [bne_self_eq_false, Bool.false_eq_true, if_false]
  refine wpAny_bind (wpAny_pure (wpAny_bind (m := tryCompare (.ref a) _ (.ref b)) (wpAny_mono one (fun r s' z => ?_) fun _ _ e => e)))
  obtain ⟨v, rfl, z⟩ := z
  exact wpAny_pure z
end
end Up

set_option Elab.async false
set_option linter.all false
set_option pp.maxSteps 600
set_option maxRecDepth 100000
set_option maxHeartbeats 4000000
namespace Up
open PySem PySem.Spec PyProof.Rows L2 PySem.SeqAt HN
/-! ### own __eq__ that tells NotImplemented -/
/-- a call that tells NotImplemented, and leaves all as it is -/
def NiEnd (outer : List Env) (P : Program) (w : World) (H : Hp) (s : Shared) (r : Result) (s' : Shared) : Prop := match r with
  | .ok (.ret u) => u = .notImplemented ∧ s'.os = s.os ∧ AllBare s'.gens ∧ Un (frs outer) [] H H s.heap s'.heap ∧ HOk P w H s'.heap
  | .ok _ => False
  | .error e => CX0 outer H s E0 e s'
theorem int_ne_ins (b : Int) (u : Tok) (l : Addr) (c : Value) (dd : Option Addr) (sl : Array (Option Value)) :
    Meets (Builtin.«int.__ne__» ⟨[.int b u, .ref l], []⟩) (fun _ R s => s.heap.get? l = some { cls := c, dict := dd, data := .plain, slots := sl } ∧ R (.ok (.ret .notImplemented)) s) :=
  .of_wp fun prog w A R s h => by obtain ⟨hp, g, d, tk, os⟩ := s; obtain ⟨hl, h⟩ := h; wp_walk using wpAny_loadPart' hl, wpAny_load hl; exact ⟨_, rfl, h⟩
theorem int_eq_ins (b : Int) (u : Tok) (l : Addr) (c : Value) (dd : Option Addr) (sl : Array (Option Value)) :
    Meets (Builtin.«int.__eq__» ⟨[.int b u, .ref l], []⟩) (fun _ R s => s.heap.get? l = some { cls := c, dict := dd, data := .plain, slots := sl } ∧ R (.ok (.ret .notImplemented)) s) :=
  .of_wp fun prog w A R s h => by obtain ⟨hp, g, d, tk, os⟩ := s; obtain ⟨hl, h⟩ := h; wp_walk using wpAny_loadPart' hl, wpAny_load hl; exact ⟨_, rfl, h⟩
theorem ni_run {P : Program} {w : World} {K : PySem.W.Frag} {mg : Str → Option Value} {base : Heap} {k : Nat} {f : Addr} {fd : FuncData} {name qual : Str} {params : Arguments} {scope : Scope} {N ps : List Str} {c : Expr} {rest : List Stmt} {p1 p2 p3 : Pos} {tc : TT}
    (F : FunD K name qual params (.If c [.Return (some (.Name "NotImplemented" p1)) p2] [] p3 :: rest) scope [] [] f fd) (S : FnScope N ps scope) (hb : Binds K fd ps []) (hm : mg "NotImplemented" = none) (hg : scope.names.lookup ("NotImplemented" : Str) = some .globalImplicit)
    {A : Around} {outer : List Env} {s : Shared} {H : Hp} {us : List Value} {vs : List V} (hr : Room (k + 1) A) (e0 : Env0 P w K mg base A outer s H) (r : Vals vs us) (hl : vs.length = ps.length)
    (hc : ∀ cdv, PT (cxOf CX0 P w K mg base N qual scope f cdv A outer s H E0) c tc) (ht : tc (start N vs) H fun b H1 => b = true ∧ H1 = H) :
    codeAny (model P w) A (.call (.ref f) ⟨us, []⟩) (NiEnd outer P w H s) s := by
  obtain ⟨oc, od, dV, kV, doc, pm, an, cdv, ct, osl, rfl, lk, hcd, _, _⟩ := F.ex
  have KX : K.In s.heap := e0.mod.kin.keeps fun b o e => (e0.bs b o e).1
  have lim : s.heap.NoLimit := e0.mod.nolimit.keeps fun b o e => (e0.bs b o e).1
  have hkind : ∀ y ∈ ps.zip us, scope.names.lookup y.1 = some .local ∨ (scope.names.lookup y.1 = some .cell ∧ ((cellsFrom (s.heap.objs.size + 1) scope.names []).lookup y.1).isSome = true) := fun ⟨n, v⟩ hy => by
    rcases S.par n (List.of_mem_zip hy).1 with q | q
    · exact .inl q
    · exact .inr ⟨q, PySem.W.cellsFrom_some _ _ _ (.inl q)⟩
  have hlu : us.length = ps.length := by rw [← hl]; exact r.length.symm
  have bb := hb s us KX (by simpa using hlu)
  rw [List.append_nil] at bb
  refine codeAny_call_function hr.depth (KX _ _ lk) rfl S.co S.gen rfl (PySem.W.codeRec_of KX hcd) (bb _ _ _ _ ?_)
  refine wpAny_newFunctionEnv_cells S.kind hkind fun env he s1 x => ?_
  subst he
  refine ⟨lim.keeps x.toInCall.keep, codeAny_func ?_⟩
  have I : Inv (cxOf CX0 P w K mg base N qual scope f cdv A outer s H E0) [] (L2.start N vs) H s1 := inv_start S hr.hd e0 hl r x
  have body : wpAny (model P w) (A.deeper (envOfC qual scope s.heap.objs.size f cdv)) (execs (.If c [.Return (some (.Name "NotImplemented" p1)) p2] [] p3 :: rest) (cxOf CX0 P w K mg base N qual scope f cdv A outer s H E0).env)
      (fun fl s' => match fl with
        | .ret u => u = .notImplemented ∧ Inv (cxOf CX0 P w K mg base N qual scope f cdv A outer s H E0) [] (L2.start N vs) H s'
        | _ => False) (cxOf CX0 P w K mg base N qual scope f cdv A outer s H E0).xe s1 := by
    refine wpAny_execs_cons (thn (wpAny_If (Q := fun fl s' => match fl with
        | .ret u => u = .notImplemented ∧ Inv (cxOf CX0 P w K mg base N qual scope f cdv A outer s H E0) [] (L2.start N vs) H s'
        | _ => False) (thn ((hc cdv).run [] s1 _ H _ I ht) fun d s2 ⟨H1, I1, q⟩ => ?_)) fun fl s2 q => ?_)
    · obtain ⟨rfl, rfl⟩ := q
      refine wpAny_execs_cons (thn (wpAny_Return_some (Q := fun fl s' => match fl with
        | .ret u => u = .notImplemented ∧ Inv (cxOf CX0 P w K mg base N qual scope f cdv A outer s H1 E0) [] (L2.start N vs) H1 s'
        | _ => False) (ld_blt I1 hg hm (by decide +kernel : bootBuiltins "NotImplemented" = some .notImplemented) ⟨rfl, I1⟩ (by decide) (by decide))) fun fl s2 q => ?_)
      cases fl with
      | ret u => exact q
      | next => exact q.elim
      | brk => exact q.elim
      | cont => exact q.elim
    · cases fl with
      | ret u => exact q
      | next => exact q.elim
      | brk => exact q.elim
      | cont => exact q.elim
  refine wpAny_mono body (fun fl s' hs => ?_) fun e s' hs => hs
  cases fl with
  | ret u => exact ⟨hs.1, hs.2.os, hs.2.bare, hs.2.base, hs.2.hok⟩
  | next => exact hs.elim
  | brk => exact hs.elim
  | cont => exact hs.elim
/-- a class whose own __eq__ tells NotImplemented beside what is none of its instances -/
def NiC (P : Program) (w : World) (K : PySem.W.Frag) (mg : Str → Option Value) (base : Heap) (k : Nat) (C : Addr) : Prop :=
  ∃ f, PySem.W.findIn K (.ref C) "__eq__" = some (some (.ref f)) ∧ PySem.W.isFn K (.ref f) = true ∧ PySem.W.findIn K (.ref C) "__ne__" = some (some (.builtin "object.__ne__")) ∧ PySem.W.mroIn K C (.type "object") = some true ∧
    ∀ (A : Around) (outer : List Env) (s : Shared) (H : Hp) (a dx : Addr) (fs : List (Str × V)) (y : V) (u t : Value), Room k A → Env0 P w K mg base A outer s H → H a = some (.ins C dx fs) → Kn K H y t → PySem.W.kitOne K t (.ref C) = some false → RelV y u →
      codeAny (model P w) A (.call (.ref f) ⟨[.ref a, u], []⟩) (NiEnd outer P w H s) s
section
variable {X : Cx} {C : Addr} {k : Nat}
theorem ni_eq {pins : List (Addr × Obj)} {σ : L2.St} {H : Hp} {s : Shared} {A : Around} {f a dx : Addr} {fs : List (Str × V)} {y : V} {u t : Value} {R : Value → Shared → Prop} {E : Value → Shared → Prop}
    (hN : ∀ (A : Around) (outer : List Env) (s : Shared) (H : Hp) (a dx : Addr) (fs : List (Str × V)) (y : V) (u t : Value), Room k A → Env0 X.prog X.w X.K X.mg X.base A outer s H → H a = some (.ins C dx fs) → Kn X.K H y t → PySem.W.kitOne X.K t (.ref C) = some false → RelV y u →
      codeAny (model X.prog X.w) A (.call (.ref f) ⟨[.ref a, u], []⟩) (NiEnd outer X.prog X.w H s) s)
    (hr : Room k A) (hA : A.frames = X.A.frames) (I : L2.Inv X pins σ H s) (ha : H a = some (.ins C dx fs)) (hk : Kn X.K H y t) (hf : PySem.W.kitOne X.K t (.ref C) = some false) (hu : RelV y u)
    (q : ∀ s', L2.Inv X pins σ H s' → R .notImplemented s') : wpAny (model X.prog X.w) A (call (.ref f) [.ref a, u]) R E s := by
  have e := I.env0
  have e0 : Env0 X.prog X.w X.K X.mg X.base A X.stack s H := ⟨by rw [hA]; exact e.frames, e.mod, e.bs, e.bsz, e.funs, e.frf, e.hok, e.bare⟩
  refine wpAny_call (codeAny_mono (hN A X.stack s H a dx fs y u t hr e0 ha hk hf hu) fun r s' hq => ?_)
  cases r with
  | error e => exact hq.elim
  | ok fl =>
    cases fl with
    | ret v =>
      obtain ⟨rfl, os, bare, un, hok⟩ := hq
      obtain ⟨v, H', I', rv, rfl⟩ := I.after (Q := fun _ H' => H' = H) (u := Value.none) ⟨.non, H, os, bare, un, hok, rfl, rfl⟩
      exact q s' I'
    | next => exact False.elim hq
    | brk => exact False.elim hq
    | cont => exact False.elim hq
theorem op_neNI (T : NiC X.prog X.w X.K X.mg X.base k C) (hi : PySem.W.kitOne X.K (.type "int") (.ref C) = some false) (hr : Room (k + 1) X.A) : OpR X (compareOp .NotEq) (fun x y H Q => ∃ a dx fs i, x = .ref a ∧ y = .int i ∧ H a = some (.ins C dx fs) ∧ Q (.bl true) H) := by
  intro pins s σ H x y v u Q I rx ry h
  obtain ⟨f, hs, hf, hne, hm, hN⟩ := T
  obtain ⟨a, dx, fs, i, rfl, rfl, ha, q⟩ := h
  cases rx
  obtain ⟨tk, rfl⟩ := ry
  obtain ⟨mA, O, _⟩ := ins_get I.hok ha
  obtain ⟨od, J, _⟩ := O.look
  show wpAny (model X.prog X.w) X.A (richCompare .NotEq (.ref a) (.int i tk)) (EP X pins σ Q) X.xe s
  have hu := hr.un
  have one : wpAny (model X.prog X.w) X.A (tryCompare (.ref a) "__ne__" (.int i tk)) (fun r s' => r = none ∧ L2.Inv X pins σ H s') X.xe s := by
    unfold tryCompare
    refine wpAny_bind (ifBound_objNe I.kIn J hne ?_)
    refine wpAny_call (codeAny_call_builtin PySem.F.cmp_object.ne.plain PySem.F.cmpEntry_ne (PySem.W.check_slot PySem.F.cmpKind_ne PySem.F.cmpSplit_ne (J.type.andThen (PySem.W.looks_mroIn I.kIn hm)) (PySem.F.cmpArgs_ne _ _) ?_))
    unfold Builtin.«object.__ne__»
    refine wpAny_bind (wpAny_of_eq (a := ((Value.ref a : Value), [Value.int i tk])) (by first | rfl | (simp only [slotArgs]; rfl)) ?_)
    refine wpAny_bind (wpAny_cRoomFor (by show X.A.units + 1 < cLine; omega) ?_)
    refine wpAny_bind (PySem.W.ifBound_K I.kIn J hs hf ?_)
    refine ni_eq hN hr.in1 rfl I ha (y := .int i) kn_int hi ⟨tk, rfl⟩ fun s' I' => ?_
    refine wpAny_pure ?_
    exact wpAny_pure ⟨rfl, I'⟩
  have h0 : oneThing? .NotEq (.ref a) (.int i tk) = none := rfl
  simp only [richCompare, cmpInfo_NotEq, h0]
  refine wpAny_holding (wpAny_bind (wpAny_cRoomFor (by omega) ?_))
  refine wpAny_bind (J.type.here (wpAny_bind (wpAny_typeOf (typeIs_int s i tk) ?_)))
  split
  · refine wpAny_bind ((PySem.W.looks_subIn I.kIn (by rfl : PySem.W.subIn X.K (.type "int") (.ref C) = some false)).here ?_)
    simp only [Bool.false_eq_true, if_false, Bool.not_false, if_true]
    refine wpAny_bind (m := tryCompare (.ref a) _ (.int i tk)) (wpAny_mono one (fun r s' z => ?_) fun _ _ e => e)
    obtain ⟨rfl, I'⟩ := z
    obtain ⟨mA', O', _⟩ := ins_get I'.hok ha
    have ho : s'.heap.get? a = some (PySem.W.instObj C dx) := O'.obj
    refine wpAny_bind (m := tryCompare (.int i tk) _ (.ref a)) (wpAny_tryCompare_declines (typeIs_int s' i tk) PySem.F.slot_int_ne_refl (call_meets PySem.F.slot_int_ne_refl (typeIs_int s' i tk) PySem.F.entry_int_ne (PySem.F.args_int_ne_2 _ _) (int_ne_ins _ _ _ _ _ _) ⟨ho, ⟨rfl, ?_⟩⟩))
    exact wpAny_bind (wpAny_rule (wpAny_bind (wpAny_of_eq (rfl : isSame (.ref a) (.int i tk) = pure false) (wpAny_pure ⟨.bl true, H, I', rfl, q⟩))))
  · rename_i z
    exact absurd (by simp) z
theorem entry_int {M : Model} {A : Around} {E : Value → Shared → Prop} {s : Shared} {x : Addr} {i : Int} {tk : Tok} {Q : Fin → Shared → Prop} (hq : Q (.done (.ret .notImplemented)) s) : wpAny M A (Builtin.«object.__eq__» ⟨[.ref x, .int i tk], []⟩) Q E s := by
  have h1 : isSame (.ref x) (.int i tk) = pure false := rfl
  unfold Builtin.«object.__eq__»
  repeat (first | with_reducible refine wpAny_of_eq h1 ?_ | wp_step)
  exact hq
/-- an instance of a class without own __eq__, beside an int -/
theorem op_neIdI {D : Addr} (T : IdC X.K D) (hne : PySem.W.findIn X.K (.ref D) "__ne__" = some (some (.builtin "object.__ne__"))) (hu : X.A.units + 64 < cLine) : OpR X (compareOp .NotEq) (fun x y H Q => ∃ a dx fs i, x = .ref a ∧ y = .int i ∧ H a = some (.ins D dx fs) ∧ Q (.bl true) H) := by
  intro pins s σ H x y v u Q I rx ry h
  obtain ⟨a, dx, fs, i, rfl, rfl, ha, q⟩ := h
  cases rx
  obtain ⟨tk, rfl⟩ := ry
  obtain ⟨mA, O, _⟩ := ins_get I.hok ha
  obtain ⟨od, J, _⟩ := O.look
  have ho : s.heap.get? a = some (PySem.W.instObj D dx) := O.obj
  show wpAny (model X.prog X.w) X.A (richCompare .NotEq (.ref a) (.int i tk)) (EP X pins σ Q) X.xe s
  have one : wpAny (model X.prog X.w) X.A (tryCompare (.ref a) "__ne__" (.int i tk)) (fun r s' => r = none ∧ s' = s) X.xe s := by
    unfold tryCompare
    refine wpAny_bind (ifBound_objNe I.kIn J hne ?_)
    refine wpAny_call (codeAny_call_builtin PySem.F.cmp_object.ne.plain PySem.F.cmpEntry_ne (PySem.W.check_slot PySem.F.cmpKind_ne PySem.F.cmpSplit_ne (J.type.andThen (PySem.W.looks_mroIn I.kIn T.hm)) (PySem.F.cmpArgs_ne _ _) ?_))
    unfold Builtin.«object.__ne__»
    refine wpAny_bind (wpAny_of_eq (a := ((Value.ref a : Value), [Value.int i tk])) (by first | rfl | (simp only [slotArgs]; rfl)) ?_)
    refine wpAny_bind (wpAny_cRoomFor (by show X.A.units + 1 < cLine; omega) ?_)
    refine wpAny_bind (ifBound_objEq I.kIn J T.he ?_)
    refine wpAny_call (codeAny_call_builtin PySem.F.cmp_object.eq.plain PySem.F.cmpEntry_eq (PySem.W.check_slot PySem.F.cmpKind_eq PySem.F.cmpSplit_eq (J.type.andThen (PySem.W.looks_mroIn I.kIn T.hm)) (PySem.F.cmpArgs_eq _ _) (entry_int ?_)))
    refine wpAny_pure ?_
    exact wpAny_pure ⟨rfl, rfl⟩
  have h0 : oneThing? .NotEq (.ref a) (.int i tk) = none := rfl
  simp only [richCompare, cmpInfo_NotEq, h0]
  refine wpAny_holding (wpAny_bind (wpAny_cRoomFor (by omega) ?_))
  refine wpAny_bind (J.type.here (wpAny_bind (wpAny_typeOf (typeIs_int s i tk) ?_)))
  split
  · refine wpAny_bind ((PySem.W.looks_subIn I.kIn (by rfl : PySem.W.subIn X.K (.type "int") (.ref D) = some false)).here ?_)
    simp only [Bool.false_eq_true, if_false, Bool.not_false, if_true]
    refine wpAny_bind (m := tryCompare (.ref a) _ (.int i tk)) (wpAny_mono one (fun r s' z => ?_) fun _ _ e => e)
    obtain ⟨rfl, rfl⟩ := z
    refine wpAny_bind (m := tryCompare (.int i tk) _ (.ref a)) (wpAny_tryCompare_declines (typeIs_int _ i tk) PySem.F.slot_int_ne_refl (call_meets PySem.F.slot_int_ne_refl (typeIs_int _ i tk) PySem.F.entry_int_ne (PySem.F.args_int_ne_2 _ _) (int_ne_ins _ _ _ _ _ _) ⟨ho, ⟨rfl, ?_⟩⟩))
    exact wpAny_bind (wpAny_rule (wpAny_bind (wpAny_of_eq (rfl : isSame (.ref a) (.int i tk) = pure false) (wpAny_pure ⟨.bl true, H, I, rfl, q⟩))))
  · rename_i z
    exact absurd (by simp) z
theorem op_neBI : OpR X (compareOp .NotEq) (fun x y H Q => ∃ b i, x = .bl b ∧ y = .int i ∧ Q (.bl (!((if b = true then (1 : Int) else 0) == i))) H) := by
  intro pins s σ H x y v u Q I rx ry h
  obtain ⟨b, i, rfl, rfl, q⟩ := h
  cases rx
  obtain ⟨tk, rfl⟩ := ry
  exact RcNeAt.bool_int b i tk X.prog X.w X.xe _ ⟨.bl _, H, I, rfl, q⟩
end
end Up

set_option Elab.async false
set_option linter.all false
set_option pp.maxSteps 600
set_option maxRecDepth 100000
set_option maxHeartbeats 4000000
namespace Up
open PySem PySem.Spec PyProof.Rows L2 PySem.SeqAt HN
/-! ### == and != of instances of classes without an own __eq__, beside anything -/
structure IdCs (K : PySem.W.Frag) (Cs : List Addr) : Prop where
  id : ∀ C ∈ Cs, IdC K C
  ne : ∀ C ∈ Cs, PySem.W.findIn K (.ref C) "__ne__" = some (some (.builtin "object.__ne__"))
  sub : ∀ C ∈ Cs, ∀ C' ∈ Cs, C ≠ C' → PySem.W.subIn K (.ref C) (.ref C') = some false
  subT : ∀ C ∈ Cs, ∀ t ∈ (["NoneType", "bool", "int", "str"] : List String), PySem.W.subIn K (.ref C) (.type t) = some false
/-- None, a truth, an int, a text -/
inductive ScV : V → Value → String → Prop where
  | non : ScV .non .none "NoneType"
  | bl (b : Bool) : ScV (.bl b) (.bool b) "bool"
  | int (i : Int) (t : Tok) : ScV (.int i) (.int i t) "int"
  | str (z : Str) (t : Tok) : ScV (.str z) (.str z t) "str"
def isSc : V → Bool
  | .non => true
  | .bl _ => true
  | .int _ => true
  | .str _ => true
  | _ => false
theorem sc_of {x : V} {v : Value} (h : isSc x = true) (r : RelV x v) : ∃ t, ScV x v t := by
  cases x with
  | non => cases r; exact ⟨_, .non⟩
  | bl b => cases r; exact ⟨_, .bl b⟩
  | int i => obtain ⟨t, rfl⟩ := r; exact ⟨_, .int i t⟩
  | str z => obtain ⟨t, rfl⟩ := r; exact ⟨_, .str z t⟩
  | _ => cases h
theorem ScV.mem {x : V} {v : Value} {t : String} (h : ScV x v t) : t ∈ (["NoneType", "bool", "int", "str"] : List String) := by cases h <;> simp
theorem ScV.ty {x : V} {v : Value} {t : String} (h : ScV x v t) (s : Shared) : s.TypeIs v t := by
  cases h with
  | non => rfl
  | bl b => rfl
  | int i tk => exact typeIs_int s i tk
  | str i tk => exact typeIs_str s i tk
theorem bool_ne_ins (b : Bool) (l : Addr) (c : Value) (dd : Option Addr) (sl : Array (Option Value)) :
    Meets (Builtin.«int.__ne__» ⟨[.bool b, .ref l], []⟩) (fun _ R s => s.heap.get? l = some { cls := c, dict := dd, data := .plain, slots := sl } ∧ R (.ok (.ret .notImplemented)) s) :=
  .of_wp fun prog w A R s h => by obtain ⟨hp, g, d, tk, os⟩ := s; obtain ⟨hl, h⟩ := h; wp_walk using wpAny_loadPart' hl, wpAny_load hl; exact ⟨_, rfl, h⟩
theorem str_ne_ins (b : Str) (u : Tok) (l : Addr) (c : Value) (dd : Option Addr) (sl : Array (Option Value)) :
    Meets (Builtin.«str.__ne__» ⟨[.str b u, .ref l], []⟩) (fun _ R s => s.heap.get? l = some { cls := c, dict := dd, data := .plain, slots := sl } ∧ R (.ok (.ret .notImplemented)) s) :=
  .of_wp fun prog w A R s h => by obtain ⟨hp, g, d, tk, os⟩ := s; obtain ⟨hl, h⟩ := h; wp_walk using wpAny_loadPart' hl, wpAny_load hl; exact ⟨_, rfl, h⟩
theorem bool_eq_ins (b : Bool) (l : Addr) (c : Value) (dd : Option Addr) (sl : Array (Option Value)) :
    Meets (Builtin.«int.__eq__» ⟨[.bool b, .ref l], []⟩) (fun _ R s => s.heap.get? l = some { cls := c, dict := dd, data := .plain, slots := sl } ∧ R (.ok (.ret .notImplemented)) s) :=
  .of_wp fun prog w A R s h => by obtain ⟨hp, g, d, tk, os⟩ := s; obtain ⟨hl, h⟩ := h; wp_walk using wpAny_loadPart' hl, wpAny_load hl; exact ⟨_, rfl, h⟩
theorem str_eq_ins (b : Str) (u : Tok) (l : Addr) (c : Value) (dd : Option Addr) (sl : Array (Option Value)) :
    Meets (Builtin.«str.__eq__» ⟨[.str b u, .ref l], []⟩) (fun _ R s => s.heap.get? l = some { cls := c, dict := dd, data := .plain, slots := sl } ∧ R (.ok (.ret .notImplemented)) s) :=
  .of_wp fun prog w A R s h => by obtain ⟨hp, g, d, tk, os⟩ := s; obtain ⟨hl, h⟩ := h; wp_walk using wpAny_loadPart' hl, wpAny_load hl; exact ⟨_, rfl, h⟩
section
variable {prog : Program} {w : World} {A : Around} {E : Value → Shared → Prop} {s : Shared} {K : PySem.W.Frag} {a b C C' : Addr} {ox oy : Obj} {od oe : Option Obj} {x : V} {v : Value} {t : String} {dx : Addr}
/-- the scalar's own method declines -/
theorem sc_ne {Q : Option Value → Shared → Prop} (h : ScV x v t) (ho : s.heap.get? b = some (PySem.W.instObj C dx)) (q : Q none s) : wpAny (model prog w) A (tryCompare v "__ne__" (.ref b)) Q E s := by
  cases h with
  | non => exact wpAny_tryCompare_declines (show s.TypeIs .none "NoneType" from rfl) PySem.F.slot_NoneType_ne_refl (call_gives PySem.F.slot_NoneType_ne_refl rfl PySem.F.entry_NoneType_ne (PySem.F.args_NoneType_ne_2 _ _) (NoneType___ne___none_ref_0 b) ⟨rfl, q⟩)
  | bl k => exact wpAny_tryCompare_declines (show s.TypeIs (.bool k) "bool" from rfl) PySem.F.slot_bool_ne_refl (call_meets PySem.F.slot_bool_ne_refl (show s.TypeIs (.bool k) "bool" from rfl) PySem.F.entry_int_ne (PySem.F.args_int_ne_2 _ _) (bool_ne_ins _ _ _ _ _) ⟨ho, rfl, q⟩)
  | int i tk => exact wpAny_tryCompare_declines (typeIs_int s i tk) PySem.F.slot_int_ne_refl (call_meets PySem.F.slot_int_ne_refl (typeIs_int s i tk) PySem.F.entry_int_ne (PySem.F.args_int_ne_2 _ _) (int_ne_ins _ _ _ _ _ _) ⟨ho, rfl, q⟩)
  | str i tk => exact wpAny_tryCompare_declines (typeIs_str s i tk) PySem.F.slot_str_ne_refl (call_meets PySem.F.slot_str_ne_refl (typeIs_str s i tk) PySem.F.entry_str_ne (PySem.F.args_str_ne_2 _ _) (str_ne_ins _ _ _ _ _ _) ⟨ho, rfl, q⟩)
theorem sc_eq {Q : Option Value → Shared → Prop} (h : ScV x v t) (ho : s.heap.get? b = some (PySem.W.instObj C dx)) (q : Q none s) : wpAny (model prog w) A (tryCompare v "__eq__" (.ref b)) Q E s := by
  cases h with
  | non => exact wpAny_tryCompare_declines (show s.TypeIs .none "NoneType" from rfl) PySem.F.slot_NoneType_eq_refl (call_gives PySem.F.slot_NoneType_eq_refl rfl PySem.F.entry_NoneType_eq (PySem.F.args_NoneType_eq_2 _ _) (NoneType___eq___none_ref_0 b) ⟨rfl, q⟩)
  | bl k => exact wpAny_tryCompare_declines (show s.TypeIs (.bool k) "bool" from rfl) PySem.F.slot_bool_eq_refl (call_meets PySem.F.slot_bool_eq_refl (show s.TypeIs (.bool k) "bool" from rfl) PySem.F.entry_int_eq (PySem.F.args_int_eq_2 _ _) (bool_eq_ins _ _ _ _ _) ⟨ho, rfl, q⟩)
  | int i tk => exact wpAny_tryCompare_declines (typeIs_int s i tk) PySem.F.slot_int_eq_refl (call_meets PySem.F.slot_int_eq_refl (typeIs_int s i tk) PySem.F.entry_int_eq (PySem.F.args_int_eq_2 _ _) (int_eq_ins _ _ _ _ _ _) ⟨ho, rfl, q⟩)
  | str i tk => exact wpAny_tryCompare_declines (typeIs_str s i tk) PySem.F.slot_str_eq_refl (call_meets PySem.F.slot_str_eq_refl (typeIs_str s i tk) PySem.F.entry_str_eq (PySem.F.args_str_eq_2 _ _) (str_eq_ins _ _ _ _ _ _) ⟨ho, rfl, q⟩)
theorem entry_sc {Q : Fin → Shared → Prop} (h : ScV x v t) (hq : Q (.done (.ret .notImplemented)) s) : wpAny (model prog w) A (Builtin.«object.__eq__» ⟨[.ref a, v], []⟩) Q E s := by
  have h1 : isSame (.ref a) v = pure false := by cases h <;> rfl
  unfold Builtin.«object.__eq__»
  repeat (first | with_reducible refine wpAny_of_eq h1 ?_ | wp_step)
  exact hq
/-- object.__eq__ of an instance -/
theorem ob_sc {Q : Value → Shared → Prop} (X : K.In s.heap) (I : PySem.W.InstAt s.heap a ox C od) (T : IdC K C) (h : ScV x v t) (hq : Q .notImplemented s) :
    wpAny (model prog w) A (call (.builtin "object.__eq__") [.ref a, v]) Q E s :=
  wpAny_call (codeAny_call_builtin PySem.F.cmp_object.eq.plain PySem.F.cmpEntry_eq (PySem.W.check_slot PySem.F.cmpKind_eq PySem.F.cmpSplit_eq (I.type.andThen (PySem.W.looks_mroIn X T.hm)) (PySem.F.cmpArgs_eq _ _) (entry_sc h hq)))
theorem ob_in {Q : Value → Shared → Prop} (X : K.In s.heap) (I : PySem.W.InstAt s.heap a ox C od) (J : PySem.W.InstAt s.heap b oy C' oe) (T : IdC K C) (hab : a ≠ b) (hq : Q .notImplemented s) :
    wpAny (model prog w) A (call (.builtin "object.__eq__") [.ref a, .ref b]) Q E s :=
  wpAny_call (codeAny_call_builtin PySem.F.cmp_object.eq.plain PySem.F.cmpEntry_eq (PySem.W.check_slot PySem.F.cmpKind_eq PySem.F.cmpSplit_eq (I.type.andThen (PySem.W.looks_mroIn X T.hm)) (PySem.F.cmpArgs_eq _ _) (objEq_entry_other hab I.1 J.1 (inst_nt I) hq)))
theorem in_eq_sc {Q : Option Value → Shared → Prop} (X : K.In s.heap) (I : PySem.W.InstAt s.heap a ox C od) (T : IdC K C) (h : ScV x v t) (hq : Q none s) : wpAny (model prog w) A (tryCompare (.ref a) "__eq__" v) Q E s := by
  unfold tryCompare
  exact wpAny_bind (ifBound_objEq X I T.he (ob_sc X I T h (wpAny_pure hq)))
theorem in_eq_in {Q : Option Value → Shared → Prop} (X : K.In s.heap) (I : PySem.W.InstAt s.heap a ox C od) (J : PySem.W.InstAt s.heap b oy C' oe) (T : IdC K C) (hab : a ≠ b) (hq : Q none s) : wpAny (model prog w) A (tryCompare (.ref a) "__eq__" (.ref b)) Q E s := by
  unfold tryCompare
  exact wpAny_bind (ifBound_objEq X I T.he (ob_in X I J T hab (wpAny_pure hq)))
/-- object.__ne__ asks __eq__ -/
theorem in_ne {u : Value} {Q : Option Value → Shared → Prop} (hu : A.units + 1 < cLine) (X : K.In s.heap) (I : PySem.W.InstAt s.heap a ox C od) (T : IdC K C) (hne : PySem.W.findIn K (.ref C) "__ne__" = some (some (.builtin "object.__ne__")))
    (he : ∀ (A' : Around) (R : Value → Shared → Prop) (E' : Value → Shared → Prop), R .notImplemented s → wpAny (model prog w) A' (call (.builtin "object.__eq__") [.ref a, u]) R E' s) (hq : Q none s) : wpAny (model prog w) A (tryCompare (.ref a) "__ne__" u) Q E s := by
  unfold tryCompare
  refine wpAny_bind (ifBound_objNe X I hne ?_)
  refine wpAny_call (codeAny_call_builtin PySem.F.cmp_object.ne.plain PySem.F.cmpEntry_ne (PySem.W.check_slot PySem.F.cmpKind_ne PySem.F.cmpSplit_ne (I.type.andThen (PySem.W.looks_mroIn X T.hm)) (PySem.F.cmpArgs_ne _ _) ?_))
  unfold Builtin.«object.__ne__»
  refine wpAny_bind (wpAny_of_eq (a := ((Value.ref a : Value), [u])) (by first | rfl | (simp only [slotArgs]; rfl)) ?_)
  refine wpAny_bind (wpAny_cRoomFor (by show A.units + 1 < cLine; omega) ?_)
  refine wpAny_bind (ifBound_objEq X I T.he ?_)
  exact he _ _ _ (wpAny_pure (wpAny_pure hq))
theorem in_ne_same {Q : Option Value → Shared → Prop} (hu : A.units + 1 < cLine) (X : K.In s.heap) (I : PySem.W.InstAt s.heap a ox C od) (T : IdC K C) (hne : PySem.W.findIn K (.ref C) "__ne__" = some (some (.builtin "object.__ne__"))) (hq : Q (some (.bool false)) s) : wpAny (model prog w) A (tryCompare (.ref a) "__ne__" (.ref a)) Q E s := by
  unfold tryCompare
  refine wpAny_bind (ifBound_objNe X I hne ?_)
  refine wpAny_call (codeAny_call_builtin PySem.F.cmp_object.ne.plain PySem.F.cmpEntry_ne (PySem.W.check_slot PySem.F.cmpKind_ne PySem.F.cmpSplit_ne (I.type.andThen (PySem.W.looks_mroIn X T.hm)) (PySem.F.cmpArgs_ne _ _) ?_))
  unfold Builtin.«object.__ne__»
  refine wpAny_bind (wpAny_of_eq (a := ((Value.ref a : Value), [Value.ref a])) (by first | rfl | (simp only [slotArgs]; rfl)) ?_)
  refine wpAny_bind (wpAny_cRoomFor (by show A.units + 1 < cLine; omega) ?_)
  refine wpAny_bind (ifBound_objEq X I T.he ?_)
  refine obj_same X I T ?_
  refine wpAny_bind (wpAny_of_eq (a := true) (by first | rfl | (simp only [truthy]; rfl)) ?_)
  exact wpAny_pure (wpAny_pure hq)
/-! the whole comparison -/
theorem rcne_sc_in {Q : Value → Shared → Prop} (hu : A.units + 1 < cLine) (X : K.In s.heap) (J : PySem.W.InstAt s.heap b (PySem.W.instObj C dx) C oe) (T : IdC K C) (hne : PySem.W.findIn K (.ref C) "__ne__" = some (some (.builtin "object.__ne__"))) (hsub : PySem.W.subIn K (.ref C) (.type t) = some false) (h : ScV x v t) (hq : Q (.bool true) s) : wpAny (model prog w) A (richCompare .NotEq v (.ref b)) Q E s := by
  have h0 : oneThing? .NotEq v (.ref b) = none := by cases h <;> rfl
  simp only [richCompare, cmpInfo_NotEq, h0]
  refine wpAny_holding (wpAny_bind (wpAny_cRoomFor (by omega) ?_))
  refine wpAny_bind (wpAny_typeOf (h.ty s) (wpAny_bind (J.type.here ?_)))
  split
  · refine wpAny_bind ((PySem.W.looks_subIn X hsub).here ?_)
    simp only [Bool.false_eq_true, if_false, Bool.not_false, if_true]
    refine wpAny_bind (m := tryCompare v _ (.ref b)) (sc_ne h J.1 ?_)
    refine wpAny_bind (m := tryCompare (.ref b) _ v) (in_ne hu X J T hne (fun A' R E' q => ob_sc X J T h q) ?_)
    exact wpAny_bind (wpAny_rule (wpAny_bind (wpAny_of_eq (a := false) (by cases h <;> rfl) (wpAny_pure hq))))
  · rename_i q
    exact absurd (by cases h <;> simp) q
theorem rcne_in_sc {Q : Value → Shared → Prop} (hu : A.units + 1 < cLine) (X : K.In s.heap) (J : PySem.W.InstAt s.heap b (PySem.W.instObj C dx) C oe) (T : IdC K C) (hne : PySem.W.findIn K (.ref C) "__ne__" = some (some (.builtin "object.__ne__"))) (h : ScV x v t) (hq : Q (.bool true) s) : wpAny (model prog w) A (richCompare .NotEq (.ref b) v) Q E s := by
  have h0 : oneThing? .NotEq (.ref b) v = none := by cases h <;> rfl
  simp only [richCompare, cmpInfo_NotEq, h0]
  refine wpAny_holding (wpAny_bind (wpAny_cRoomFor (by omega) ?_))
  refine wpAny_bind (J.type.here (wpAny_bind (wpAny_typeOf (h.ty s) ?_)))
  split
  · refine wpAny_bind ((PySem.W.looks_subIn X (by cases h <;> rfl : PySem.W.subIn K (.type t) (.ref C) = some false)).here ?_)
    simp only [Bool.false_eq_true, if_false, Bool.not_false, if_true]
    refine wpAny_bind (m := tryCompare (.ref b) _ v) (in_ne hu X J T hne (fun A' R E' q => ob_sc X J T h q) ?_)
    refine wpAny_bind (m := tryCompare v _ (.ref b)) (sc_ne h J.1 ?_)
    exact wpAny_bind (wpAny_rule (wpAny_bind (wpAny_of_eq (a := false) (by cases h <;> rfl) (wpAny_pure hq))))
  · rename_i q
    exact absurd (by cases h <;> simp) q
theorem rcne_in_in {Q : Value → Shared → Prop} (hu : A.units + 1 < cLine) (X : K.In s.heap) (I : PySem.W.InstAt s.heap a ox C od) (J : PySem.W.InstAt s.heap b oy C' oe) (T : IdC K C) (hne : PySem.W.findIn K (.ref C) "__ne__" = some (some (.builtin "object.__ne__"))) (T' : IdC K C') (hne' : PySem.W.findIn K (.ref C') "__ne__" = some (some (.builtin "object.__ne__")))
    (hsub : C ≠ C' → PySem.W.subIn K (.ref C') (.ref C) = some false) (hab : a ≠ b) (hq : Q (.bool true) s) : wpAny (model prog w) A (richCompare .NotEq (.ref a) (.ref b)) Q E s := by
  simp only [richCompare, cmpInfo_NotEq, oneThing_ref]
  refine wpAny_holding (wpAny_bind (wpAny_cRoomFor (by omega) ?_))
  refine wpAny_bind (I.type.here (wpAny_bind (J.type.here ?_)))
  have last : wpAny (model prog w) A (tryCompare (.ref a) "__ne__" (.ref b)) (fun r s' => r = none ∧ s' = s) E s := in_ne hu X I T hne (fun A' R E' q => ob_in X I J T hab q) ⟨rfl, rfl⟩
  have last2 : wpAny (model prog w) A (tryCompare (.ref b) "__ne__" (.ref a)) (fun r s' => r = none ∧ s' = s) E s := in_ne hu X J T' hne' (fun A' R E' q => ob_in X J I T' hab.symm q) ⟨rfl, rfl⟩
  by_cases hC : C = C'
  · subst hC
    simp only [bne_self_eq_false, Bool.false_eq_true, if_false]
    refine wpAny_bind (wpAny_pure (wpAny_bind (m := tryCompare (.ref a) _ (.ref b)) (wpAny_mono last (fun r s' z => ?_) fun _ _ z => z)))
    obtain ⟨rfl, rfl⟩ := z
    simp only [Bool.false_eq_true, if_false, Bool.not_false, if_true]
    refine wpAny_bind (m := tryCompare (.ref b) _ (.ref a)) (wpAny_mono last2 (fun r s' z => ?_) fun _ _ z => z)
    obtain ⟨rfl, rfl⟩ := z
    exact wpAny_bind (wpAny_rule (wpAny_bind (wpAny_isSame_ref_other hab I.1 J.1 (inst_nt I) (wpAny_pure hq))))
  · split
    · refine wpAny_bind ((PySem.W.looks_subIn X (hsub hC)).here ?_)
      simp only [Bool.false_eq_true, if_false, Bool.not_false, if_true]
      refine wpAny_bind (m := tryCompare (.ref a) _ (.ref b)) (wpAny_mono last (fun r s' z => ?_) fun _ _ z => z)
      obtain ⟨rfl, rfl⟩ := z
      refine wpAny_bind (m := tryCompare (.ref b) _ (.ref a)) (wpAny_mono last2 (fun r s' z => ?_) fun _ _ z => z)
      obtain ⟨rfl, rfl⟩ := z
      exact wpAny_bind (wpAny_rule (wpAny_bind (wpAny_isSame_ref_other hab I.1 J.1 (inst_nt I) (wpAny_pure hq))))
    · rename_i q
      exact absurd (by simpa using hC) q
theorem rcne_same {Q : Value → Shared → Prop} (hu : A.units + 1 < cLine) (X : K.In s.heap) (I : PySem.W.InstAt s.heap a ox C od) (T : IdC K C) (hne : PySem.W.findIn K (.ref C) "__ne__" = some (some (.builtin "object.__ne__"))) (hq : Q (.bool false) s) : wpAny (model prog w) A (richCompare .NotEq (.ref a) (.ref a)) Q E s := by
  simp only [richCompare, cmpInfo_NotEq, oneThing_ref]
  refine wpAny_holding (wpAny_bind (wpAny_cRoomFor (by omega) ?_))
  refine wpAny_bind (I.type.here (wpAny_bind (I.type.here ?_)))
  simp only [bne_self_eq_false, Bool.false_eq_true, if_false]
  refine wpAny_bind (wpAny_pure (wpAny_bind (m := tryCompare (.ref a) _ (.ref a)) (in_ne_same hu X I T hne ?_)))
  exact wpAny_pure hq
/-! == -/
theorem rceq_sc_in {Q : Value → Shared → Prop} (hu : A.units + 1 < cLine) (X : K.In s.heap) (J : PySem.W.InstAt s.heap b (PySem.W.instObj C dx) C oe) (T : IdC K C) (hsub : PySem.W.subIn K (.ref C) (.type t) = some false) (h : ScV x v t) (hq : Q (.bool false) s) : wpAny (model prog w) A (richCompare .Eq v (.ref b)) Q E s := by
  have h0 : oneThing? .Eq v (.ref b) = none := by cases h <;> rfl
  simp only [richCompare, cmpInfo_Eq, h0]
  refine wpAny_holding (wpAny_bind (wpAny_cRoomFor (by omega) ?_))
  refine wpAny_bind (wpAny_typeOf (h.ty s) (wpAny_bind (J.type.here ?_)))
  split
  · refine wpAny_bind ((PySem.W.looks_subIn X hsub).here ?_)
    simp only [Bool.false_eq_true, if_false, Bool.not_false, if_true]
    refine wpAny_bind (m := tryCompare v _ (.ref b)) (sc_eq h J.1 ?_)
    refine wpAny_bind (m := tryCompare (.ref b) _ v) (in_eq_sc X J T h ?_)
    exact wpAny_bind (wpAny_rule (wpAny_bind (wpAny_of_eq (a := false) (by cases h <;> rfl) (wpAny_pure hq))))
  · rename_i q
    exact absurd (by cases h <;> simp) q
theorem rceq_in_sc {Q : Value → Shared → Prop} (hu : A.units + 1 < cLine) (X : K.In s.heap) (J : PySem.W.InstAt s.heap b (PySem.W.instObj C dx) C oe) (T : IdC K C) (h : ScV x v t) (hq : Q (.bool false) s) : wpAny (model prog w) A (richCompare .Eq (.ref b) v) Q E s := by
  have h0 : oneThing? .Eq (.ref b) v = none := by cases h <;> rfl
  simp only [richCompare, cmpInfo_Eq, h0]
  refine wpAny_holding (wpAny_bind (wpAny_cRoomFor (by omega) ?_))
  refine wpAny_bind (J.type.here (wpAny_bind (wpAny_typeOf (h.ty s) ?_)))
  split
  · refine wpAny_bind ((PySem.W.looks_subIn X (by cases h <;> rfl : PySem.W.subIn K (.type t) (.ref C) = some false)).here ?_)
    simp only [Bool.false_eq_true, if_false, Bool.not_false, if_true]
    refine wpAny_bind (m := tryCompare (.ref b) _ v) (in_eq_sc X J T h ?_)
    refine wpAny_bind (m := tryCompare v _ (.ref b)) (sc_eq h J.1 ?_)
    exact wpAny_bind (wpAny_rule (wpAny_bind (wpAny_of_eq (a := false) (by cases h <;> rfl) (wpAny_pure hq))))
  · rename_i q
    exact absurd (by cases h <;> simp) q
theorem rceq_in_in {Q : Value → Shared → Prop} (hu : A.units + 1 < cLine) (X : K.In s.heap) (I : PySem.W.InstAt s.heap a ox C od) (J : PySem.W.InstAt s.heap b oy C' oe) (T : IdC K C) (T' : IdC K C')
    (hsub : C ≠ C' → PySem.W.subIn K (.ref C') (.ref C) = some false) (hab : a ≠ b) (hq : Q (.bool false) s) : wpAny (model prog w) A (richCompare .Eq (.ref a) (.ref b)) Q E s := by
  simp only [richCompare, cmpInfo_Eq, oneThing_ref]
  refine wpAny_holding (wpAny_bind (wpAny_cRoomFor (by omega) ?_))
  refine wpAny_bind (I.type.here (wpAny_bind (J.type.here ?_)))
  have last : wpAny (model prog w) A (tryCompare (.ref a) "__eq__" (.ref b)) (fun r s' => r = none ∧ s' = s) E s := in_eq_in X I J T hab ⟨rfl, rfl⟩
  have last2 : wpAny (model prog w) A (tryCompare (.ref b) "__eq__" (.ref a)) (fun r s' => r = none ∧ s' = s) E s := in_eq_in X J I T' hab.symm ⟨rfl, rfl⟩
  by_cases hC : C = C'
  · subst hC
    simp only [bne_self_eq_false, Bool.false_eq_true, if_false]
    refine wpAny_bind (wpAny_pure (wpAny_bind (m := tryCompare (.ref a) _ (.ref b)) (wpAny_mono last (fun r s' z => ?_) fun _ _ z => z)))
    obtain ⟨rfl, rfl⟩ := z
    simp only [Bool.false_eq_true, if_false, Bool.not_false, if_true]
    refine wpAny_bind (m := tryCompare (.ref b) _ (.ref a)) (wpAny_mono last2 (fun r s' z => ?_) fun _ _ z => z)
    obtain ⟨rfl, rfl⟩ := z
    exact wpAny_bind (wpAny_rule (wpAny_bind (wpAny_isSame_ref_other hab I.1 J.1 (inst_nt I) (wpAny_pure hq))))
  · split
    · refine wpAny_bind ((PySem.W.looks_subIn X (hsub hC)).here ?_)
      simp only [Bool.false_eq_true, if_false, Bool.not_false, if_true]
      refine wpAny_bind (m := tryCompare (.ref a) _ (.ref b)) (wpAny_mono last (fun r s' z => ?_) fun _ _ z => z)
      obtain ⟨rfl, rfl⟩ := z
      refine wpAny_bind (m := tryCompare (.ref b) _ (.ref a)) (wpAny_mono last2 (fun r s' z => ?_) fun _ _ z => z)
      obtain ⟨rfl, rfl⟩ := z
      exact wpAny_bind (wpAny_rule (wpAny_bind (wpAny_isSame_ref_other hab I.1 J.1 (inst_nt I) (wpAny_pure hq))))
    · rename_i q
      exact absurd (by simpa using hC) q
end
/-! ### as rules -/
/-- a value that is no sequence: a scalar, or an instance of one of these classes -/
inductive IsV (Cs : List Addr) (H : Hp) : V → Prop where
  | sc {x : V} : isSc x = true → IsV Cs H x
  | ins {C a dx : Addr} {fs : List (Str × V)} : C ∈ Cs → H a = some (.ins C dx fs) → IsV Cs H (.ref a)
/-- at least one is an instance -/
def rNeIS (Cs : List Addr) : R2 := fun x y H Q => IsV Cs H x ∧ IsV Cs H y ∧ (isSc x = true → isSc y = false) ∧ Q (.bl (!decide (x = y))) H
def rEqIS (Cs : List Addr) : R2 := fun x y H Q => IsV Cs H x ∧ IsV Cs H y ∧ (isSc x = true → isSc y = false) ∧ Q (.bl (decide (x = y))) H
theorem sc_ne_ref {x : V} {a : Addr} (h : isSc x = true) : x ≠ .ref a := fun z => by subst z; cases h
section
variable {X : Cx} {Cs : List Addr}
theorem op_neIS (T : IdCs X.K Cs) (hu : X.A.units + 64 < cLine) : OpR X (compareOp .NotEq) (rNeIS Cs) := by
  intro pins s σ H x y v u Q I rx ry ⟨hx, hy, hn, q⟩
  have hu0 : X.A.units + 1 < cLine := by omega
  show wpAny (model X.prog X.w) X.A (richCompare .NotEq v u) (EP X pins σ Q) X.xe s
  cases hx with
  | sc hx =>
    obtain ⟨t, sv⟩ := sc_of hx rx
    cases hy with
    | sc hy => rw [hn hx] at hy; cases hy
    | @ins C b dx fs hC hb =>
      cases ry
      obtain ⟨mB, O, _⟩ := ins_get I.hok hb
      obtain ⟨oe, J, _⟩ := O.look
      rw [decide_eq_false (sc_ne_ref hx)] at q
      exact rcne_sc_in hu0 I.kIn J (T.id C hC) (T.ne C hC) (T.subT C hC t sv.mem) sv ⟨.bl true, H, I, rfl, q⟩
  | @ins C a dx fs hC ha =>
    cases rx
    obtain ⟨mA, O, _⟩ := ins_get I.hok ha
    obtain ⟨od, J, _⟩ := O.look
    cases hy with
    | sc hy =>
      obtain ⟨t, sv⟩ := sc_of hy ry
      rw [decide_eq_false (fun z => sc_ne_ref hy z.symm)] at q
      exact rcne_in_sc hu0 I.kIn J (T.id C hC) (T.ne C hC) sv ⟨.bl true, H, I, rfl, q⟩
    | @ins C' b dy gs hC' hb =>
      cases ry
      obtain ⟨mB, O2, _⟩ := ins_get I.hok hb
      obtain ⟨oe, J2, _⟩ := O2.look
      by_cases hab : a = b
      · subst hab
        rw [decide_eq_true rfl] at q
        exact rcne_same hu0 I.kIn J (T.id C hC) (T.ne C hC) ⟨.bl false, H, I, rfl, q⟩
      · rw [decide_eq_false (fun z => hab (by injection z))] at q
        exact rcne_in_in hu0 I.kIn J J2 (T.id C hC) (T.ne C hC) (T.id C' hC') (T.ne C' hC') (fun z => T.sub C' hC' C hC (fun y => z y.symm)) hab ⟨.bl true, H, I, rfl, q⟩
theorem op_eqIS (T : IdCs X.K Cs) (hu : X.A.units + 64 < cLine) : OpR X (compareOp .Eq) (rEqIS Cs) := by
  intro pins s σ H x y v u Q I rx ry ⟨hx, hy, hn, q⟩
  have hu0 : X.A.units + 1 < cLine := by omega
  show wpAny (model X.prog X.w) X.A (richCompare .Eq v u) (EP X pins σ Q) X.xe s
  cases hx with
  | sc hx =>
    obtain ⟨t, sv⟩ := sc_of hx rx
    cases hy with
    | sc hy => rw [hn hx] at hy; cases hy
    | @ins C b dx fs hC hb =>
      cases ry
      obtain ⟨mB, O, _⟩ := ins_get I.hok hb
      obtain ⟨oe, J, _⟩ := O.look
      rw [decide_eq_false (sc_ne_ref hx)] at q
      exact rceq_sc_in hu0 I.kIn J (T.id C hC) (T.subT C hC t sv.mem) sv ⟨.bl false, H, I, rfl, q⟩
  | @ins C a dx fs hC ha =>
    cases rx
    obtain ⟨mA, O, _⟩ := ins_get I.hok ha
    obtain ⟨od, J, _⟩ := O.look
    cases hy with
    | sc hy =>
      obtain ⟨t, sv⟩ := sc_of hy ry
      rw [decide_eq_false (fun z => sc_ne_ref hy z.symm)] at q
      exact rceq_in_sc hu0 I.kIn J (T.id C hC) sv ⟨.bl false, H, I, rfl, q⟩
    | @ins C' b dy gs hC' hb =>
      cases ry
      obtain ⟨mB, O2, _⟩ := ins_get I.hok hb
      obtain ⟨oe, J2, _⟩ := O2.look
      by_cases hab : a = b
      · subst hab
        rw [decide_eq_true rfl] at q
        exact rc_same (by omega) I.kIn J (T.id C hC) ⟨.bl true, H, I, rfl, q⟩
      · rw [decide_eq_false (fun z => hab (by injection z))] at q
        exact rceq_in_in hu0 I.kIn J J2 (T.id C hC) (T.id C' hC') (fun z => T.sub C' hC' C hC (fun y => z y.symm)) hab ⟨.bl false, H, I, rfl, q⟩
end
end Up

set_option Elab.async false
set_option linter.all false
set_option pp.maxSteps 600
set_option maxRecDepth 100000
set_option maxHeartbeats 4000000
namespace Up
open PySem PySem.Spec PyProof.Rows L2 PySem.SeqAt HN
/-! ### == of an instance whose own __eq__ tells NotImplemented, beside what is none of its class -/
/-- a scalar, or an instance of one of the classes Cs, beside the class at C -/
inductive Oth (K : PySem.W.Frag) (C : Addr) (Cs : List Addr) (H : Hp) : V → Prop where
  | sc {x : V} : isSc x = true → Oth K C Cs H x
  | ins {D a dx : Addr} {fs : List (Str × V)} : D ∈ Cs → H a = some (.ins D dx fs) → Oth K C Cs H (.ref a)
structure NiF (K : PySem.W.Frag) (C : Addr) (Cs : List Addr) : Prop where
  ids : IdCs K Cs
  own : ∀ D ∈ Cs, OwnC K D
  kT : ∀ t ∈ (["NoneType", "bool", "int", "str"] : List String), PySem.W.kitOne K (.type t) (.ref C) = some false
  sT : ∀ t ∈ (["NoneType", "bool", "int", "str"] : List String), PySem.W.subIn K (.ref C) (.type t) = some false
  kC : ∀ D ∈ Cs, PySem.W.kitOne K (.ref D) (.ref C) = some false
  s1 : ∀ D ∈ Cs, PySem.W.subIn K (.ref D) (.ref C) = some false
  s2 : ∀ D ∈ Cs, PySem.W.subIn K (.ref C) (.ref D) = some false
  ne : ∀ D ∈ Cs, D ≠ C
section
variable {X : Cx} {C : Addr} {k : Nat} {Cs : List Addr}
theorem ScV.kn {x : V} {v : Value} {t : String} {K : PySem.W.Frag} {H : Hp} (h : ScV x v t) : Kn K H x (.type t) := by
  cases h with
  | non => exact kn_non
  | bl b => exact kn_bl
  | int i tk => exact kn_int
  | str i tk => exact kn_str
theorem ScV.rel {x : V} {v : Value} {t : String} (h : ScV x v t) : RelV x v := by
  cases h with
  | non => exact rfl
  | bl b => exact rfl
  | int i tk => exact ⟨tk, rfl⟩
  | str i tk => exact ⟨tk, rfl⟩
/-- its own __eq__, asked -/
theorem ni_try {pins : List (Addr × Obj)} {σ : L2.St} {H : Hp} {s : Shared} {a dx : Addr} {fs : List (Str × V)} {y : V} {u t : Value} {Q : Option Value → Shared → Prop} {E : Value → Shared → Prop} (T : NiC X.prog X.w X.K X.mg X.base k C) (hr : Room k X.A) (I : L2.Inv X pins σ H s) (ha : H a = some (.ins C dx fs)) (hk : Kn X.K H y t) (hf : PySem.W.kitOne X.K t (.ref C) = some false) (hu : RelV y u)
    (q : ∀ s', L2.Inv X pins σ H s' → Q none s') : wpAny (model X.prog X.w) X.A (tryCompare (.ref a) "__eq__" u) Q E s := by
  obtain ⟨f, hs, hfn, hne, hm, hN⟩ := T
  obtain ⟨mA, O, _⟩ := ins_get I.hok ha
  obtain ⟨od, J, _⟩ := O.look
  unfold tryCompare
  refine wpAny_bind (PySem.W.ifBound_K I.kIn J hs hfn ?_)
  refine ni_eq hN hr rfl I ha hk hf hu fun s' I' => ?_
  exact wpAny_pure (q s' I')
def rEqNI (K : PySem.W.Frag) (C : Addr) (Cs : List Addr) : R2 := fun x y H Q => ((∃ a dx fs, x = .ref a ∧ H a = some (.ins C dx fs) ∧ Oth K C Cs H y) ∨ (∃ a dx fs, y = .ref a ∧ H a = some (.ins C dx fs) ∧ Oth K C Cs H x)) ∧ Q (.bl false) H
theorem op_eqNI (T : NiC X.prog X.w X.K X.mg X.base k C) (F : NiF X.K C Cs) (hr : Room k X.A) (hu : X.A.units + 64 < cLine) : OpR X (compareOp .Eq) (rEqNI X.K C Cs) := by
  intro pins s σ H x y v u Q I rx ry ⟨h, q⟩
  show wpAny (model X.prog X.w) X.A (richCompare .Eq v u) (EP X pins σ Q) X.xe s
  rcases h with ⟨a, dx, fs, rfl, ha, ho⟩ | ⟨a, dx, fs, rfl, ha, ho⟩
  · cases rx
    obtain ⟨mA, O, _⟩ := ins_get I.hok ha
    obtain ⟨od, J, _⟩ := O.look
    cases ho with
    | sc hy =>
      obtain ⟨t, sv⟩ := sc_of hy ry
      have h0 : oneThing? .Eq (.ref a) u = none := by cases sv <;> rfl
      simp only [richCompare, cmpInfo_Eq, h0]
      refine wpAny_holding (wpAny_bind (wpAny_cRoomFor (by omega) ?_))
      refine wpAny_bind (J.type.here (wpAny_bind (wpAny_typeOf (sv.ty s) ?_)))
      split
      · refine wpAny_bind ((PySem.W.looks_subIn I.kIn (by cases sv <;> rfl : PySem.W.subIn X.K (.type t) (.ref C) = some false)).here ?_)
        simp only [Bool.false_eq_true, if_false, Bool.not_false, if_true]
        refine wpAny_bind (m := tryCompare (.ref a) _ u) (ni_try T hr I ha sv.kn (F.kT t sv.mem) ry fun s' I' => ?_)
        obtain ⟨mA', O', _⟩ := ins_get I'.hok ha
        refine wpAny_bind (m := tryCompare u _ (.ref a)) (sc_eq sv O'.obj ?_)
        exact wpAny_bind (wpAny_rule (wpAny_bind (wpAny_of_eq (a := false) (by cases sv <;> rfl) (wpAny_pure ⟨.bl false, H, I', rfl, q⟩))))
      · rename_i z
        exact absurd (by cases sv <;> simp) z
    | @ins D b dy gs hD hb =>
      cases ry
      obtain ⟨mB, O2, _⟩ := ins_get I.hok hb
      obtain ⟨oe, J2, _⟩ := O2.look
      have hab : a ≠ b := fun z => by
        rw [z, hb] at ha
        injection ha with ha
        injection ha with ha
        exact F.ne D hD ha
      simp only [richCompare, cmpInfo_Eq, oneThing_ref]
      refine wpAny_holding (wpAny_bind (wpAny_cRoomFor (by omega) ?_))
      refine wpAny_bind (J.type.here (wpAny_bind (J2.type.here ?_)))
      split
      · refine wpAny_bind ((PySem.W.looks_subIn I.kIn (F.s1 D hD)).here ?_)
        simp only [Bool.false_eq_true, if_false, Bool.not_false, if_true]
        refine wpAny_bind (m := tryCompare (.ref a) _ (.ref b)) (ni_try T hr I ha (kn_ins (F.own D hD) hb) (F.kC D hD) rfl fun s' I' => ?_)
        obtain ⟨mA', O', _⟩ := ins_get I'.hok ha
        obtain ⟨od', J', _⟩ := O'.look
        obtain ⟨mB', O2', _⟩ := ins_get I'.hok hb
        obtain ⟨oe', J2', _⟩ := O2'.look
        refine wpAny_bind (m := tryCompare (.ref b) _ (.ref a)) (in_eq_in I'.kIn J2' J' (F.ids.id D hD) hab.symm ?_)
        exact wpAny_bind (wpAny_rule (wpAny_bind (wpAny_isSame_ref_other hab J'.1 J2'.1 (inst_nt J') (wpAny_pure ⟨.bl false, H, I', rfl, q⟩))))
      · rename_i z
        exact absurd (by simpa using fun e => F.ne D hD e.symm) z
  · cases ry
    obtain ⟨mA, O, _⟩ := ins_get I.hok ha
    obtain ⟨od, J, _⟩ := O.look
    cases ho with
    | sc hy =>
      obtain ⟨t, sv⟩ := sc_of hy rx
      have h0 : oneThing? .Eq v (.ref a) = none := by cases sv <;> rfl
      simp only [richCompare, cmpInfo_Eq, h0]
      refine wpAny_holding (wpAny_bind (wpAny_cRoomFor (by omega) ?_))
      refine wpAny_bind (wpAny_typeOf (sv.ty s) (wpAny_bind (J.type.here ?_)))
      split
      · refine wpAny_bind ((PySem.W.looks_subIn I.kIn (F.sT t sv.mem)).here ?_)
        simp only [Bool.false_eq_true, if_false, Bool.not_false, if_true]
        refine wpAny_bind (m := tryCompare v _ (.ref a)) (sc_eq sv O.obj ?_)
        refine wpAny_bind (m := tryCompare (.ref a) _ v) (ni_try T hr I ha sv.kn (F.kT t sv.mem) rx fun s' I' => ?_)
        exact wpAny_bind (wpAny_rule (wpAny_bind (wpAny_of_eq (a := false) (by cases sv <;> rfl) (wpAny_pure ⟨.bl false, H, I', rfl, q⟩))))
      · rename_i z
        exact absurd (by cases sv <;> simp) z
    | @ins D b dy gs hD hb =>
      cases rx
      obtain ⟨mB, O2, _⟩ := ins_get I.hok hb
      obtain ⟨oe, J2, _⟩ := O2.look
      have hab : b ≠ a := fun z => by
        rw [← z, hb] at ha
        injection ha with ha
        injection ha with ha
        exact F.ne D hD ha
      simp only [richCompare, cmpInfo_Eq, oneThing_ref]
      refine wpAny_holding (wpAny_bind (wpAny_cRoomFor (by omega) ?_))
      refine wpAny_bind (J2.type.here (wpAny_bind (J.type.here ?_)))
      split
      · refine wpAny_bind ((PySem.W.looks_subIn I.kIn (F.s2 D hD)).here ?_)
        simp only [Bool.false_eq_true, if_false, Bool.not_false, if_true]
        refine wpAny_bind (m := tryCompare (.ref b) _ (.ref a)) (in_eq_in I.kIn J2 J (F.ids.id D hD) hab ?_)
        refine wpAny_bind (m := tryCompare (.ref a) _ (.ref b)) (ni_try T hr I ha (kn_ins (F.own D hD) hb) (F.kC D hD) rfl fun s' I' => ?_)
        obtain ⟨mA', O', _⟩ := ins_get I'.hok ha
        obtain ⟨od', J', _⟩ := O'.look
        obtain ⟨mB', O2', _⟩ := ins_get I'.hok hb
        obtain ⟨oe', J2', _⟩ := O2'.look
        exact wpAny_bind (wpAny_rule (wpAny_bind (wpAny_isSame_ref_other hab J2'.1 J'.1 (inst_nt J2') (wpAny_pure ⟨.bl false, H, I', rfl, q⟩))))
      · rename_i z
        exact absurd (by simpa using fun e => F.ne D hD e) z
/-! ### text * int -/
def mulStr (x : Str) (n : Nat) : Str := ⟨(List.replicate n x.cps).foldl (· ++ ·) #[]⟩
theorem op_mulS : OpR X (binaryOp .Mult) (fun x y H Q => ∃ (z : Str) (n : Int), x = .str z ∧ y = .int n ∧ 2 ≤ n ∧ n ≤ 1000 ∧ 1 ≤ z.length ∧ z.length ≤ 10 ∧ (mulStr z n.toNat).length ≤ sizeLine ∧ Q (.str (mulStr z n.toNat)) H) := by
  intro pins s σ H x y v u Q I rx ry h
  obtain ⟨z, n, rfl, rfl, h1, h2, h3, h4, h5, q⟩ := h
  obtain ⟨t, rfl⟩ := rx
  obtain ⟨tk, rfl⟩ := ry
  have e1 : (n == 1 || z.length == 0) = false := by
    rw [Bool.or_eq_false_iff]
    exact ⟨by simp; omega, by simp; omega⟩
  refine PySem.P.mul_str (by rw [decide_eq_false (by omega), decide_eq_false (by omega)]; rfl) (fun _ _ => ?_) (fun _ _ => ?_) ?_
  · have : (2 : Int) ^ 62 ≤ (2 ^ 63 - 1) / n ∨ (100 : Int) ≤ (2 ^ 63 - 1) / n := Or.inr ((Int.le_ediv_iff_mul_le (by omega)).mpr (by omega))
    omega
  · have hx : z.length * n.toNat ≤ 10 * 1000 := Nat.mul_le_mul h4 (by omega)
    exact decide_eq_false (by show ¬ z.length * n.toNat > sizeLine; have : (10 * 1000 : Nat) ≤ sizeLine := by decide
                              omega)
  · rw [if_neg (by omega), e1]
    exact ⟨h5, .str (mulStr z n.toNat), H, I.tok _, ⟨_, rfl⟩, q⟩
end
end Up

set_option Elab.async false
set_option linter.all false
set_option maxRecDepth 100000
set_option maxHeartbeats 4000000
namespace Up
open PySem PySem.Spec PyProof.Rows L2
/-- an expression that the proof never comes to -/
def tNevE : TE := fun _ _ _ => False
theorem pe_never {X : Cx} {e : Expr} : PE X e tNevE := ⟨fun _ _ _ _ _ _ h => h.elim⟩
/-- a test, a value read once with a middle term -/
def tCutT (t : TT) : TT := fun σ H R => ∃ P : Bool → Hp → Prop, t σ H P ∧ ∀ b H', P b H' → R b H'
theorem pt_cut {X : Cx} {e : Expr} {t : TT} (h : PT X e t) : PT X e (tCutT t) := ⟨fun pins s σ H Q I ⟨P, h1, h2⟩ => wpAny_mono (h.run pins s σ H P I h1) (fun b s' ⟨H', I', p⟩ => ⟨H', I', h2 _ _ p⟩) fun _ _ e => e⟩
def tCutE (t : TE) : TE := fun σ H R => ∃ P : VK, t σ H P ∧ ∀ b H', P b H' → R b H'
theorem pe_cut {X : Cx} {e : Expr} {t : TE} (h : PE X e t) : PE X e (tCutE t) := ⟨fun pins s σ H Q I ⟨P, h1, h2⟩ => wpAny_mono (h.run pins s σ H P I h1) (fun b s' ⟨v, H', I', r, p⟩ => ⟨v, H', I', r, h2 _ _ p⟩) fun _ _ e => e⟩
theorem g_cutT {t : TT} {σ : L2.St} {H : Hp} {R : Bool → Hp → Prop} (P : Bool → Hp → Prop) (h1 : t σ H P) (h2 : ∀ b H', P b H' → R b H') : tCutT t σ H R := ⟨P, h1, h2⟩
theorem g_cutE {t : TE} {σ : L2.St} {H : Hp} {R : VK} (P : VK) (h1 : t σ H P) (h2 : ∀ b H', P b H' → R b H') : tCutE t σ H R := ⟨P, h1, h2⟩
theorem g_chain {r r' : R2} {ta tb tc : TE} {σ : L2.St} {H : Hp} {Q : VK} (h : ta σ H fun x H1 => tb σ H1 fun y H2 => r x y H2 fun z H3 => ∃ k, z = .bl k ∧ (if k = true then tc σ H3 fun w' H4 => r' y w' H4 Q else Q (.bl false) H3)) : tChain r r' ta tb tc σ H Q := h
theorem g_par3 {i j l : Nat} {ta : TA} {D : Ends} {σ : L2.St} {H : Hp} (h : ta σ H fun vs H1 => ∃ u v w, vs = [u, v, w] ∧ D.nx (((σ.set i (some u)).set j (some v)).set l (some w)) H1) : tPar3 i j l ta D σ H := h
theorem g_par3' {a b c : V} {T : V → V → V → Prop} (h : T a b c) : ∃ u v w, [a, b, c] = [u, v, w] ∧ T u v w := ⟨a, b, c, rfl, h⟩
theorem g_while {c : TT} {tb : TS} {D : Ends} {σ : L2.St} {H : Hp} (W : Nat → L2.St → Hp → Prop) (m0 : Nat) (h0 : W m0 σ H) (hs : ∀ m σ H, W m σ H →
    c σ H fun b H1 => if b = true then ∃ N : L2.St → Hp → Prop, (∀ σ' H', N σ' H' → ∃ m', m' < m ∧ W m' σ' H') ∧ tb { D with nx := N, ct := N, bk := D.nx } σ H1 else D.nx σ H1) : tWhile c tb D σ H := ⟨W, ⟨m0, h0⟩, hs⟩
theorem g_wbody {tb : TS} {D : Ends} {σ : L2.St} {H : Hp} {W : Nat → L2.St → Hp → Prop} {m : Nat} (h : tb { D with nx := fun σ' H' => ∃ m', m' < m ∧ W m' σ' H', ct := fun σ' H' => ∃ m', m' < m ∧ W m' σ' H', bk := D.nx } σ H) :
    ∃ N : L2.St → Hp → Prop, (∀ σ' H', N σ' H' → ∃ m', m' < m ∧ W m' σ' H') ∧ tb { D with nx := N, ct := N, bk := D.nx } σ H := ⟨_, fun _ _ z => z, h⟩
section
variable {K : PySem.W.Frag} {H : Hp} {Q : VK} {x y : V}
theorem g_eqV (hs : scal x y = true) (h : Q (.bl (decide (x = y))) H) : oEq K x y H Q := .inl ⟨hs, h⟩
theorem g_neV (hs : scal x y = true) (h : Q (.bl (!decide (x = y))) H) : oNe K x y H Q := .inl ⟨hs, h⟩
end
/-- an int or a text -/
def IS (t : V) : Prop := (∃ n, t = .int n) ∨ ∃ x, t = .str x
theorem IS.int (n : Int) : IS (.int n) := .inl ⟨n, rfl⟩
theorem IS.str (n : Str) : IS (.str n) := .inr ⟨n, rfl⟩
theorem IS.scal {t u : V} (ht : IS t) (hu : IS u) : scal t u = true := by
  rcases ht with ⟨n, rfl⟩ | ⟨n, rfl⟩ <;> rcases hu with ⟨m, rfl⟩ | ⟨m, rfl⟩ <;> rfl
theorem IS.flat {t : V} (ht : IS t) : flatV t = true := by
  rcases ht with ⟨n, rfl⟩ | ⟨n, rfl⟩ <;> rfl
theorem IS.eqV {t u : V} (ht : IS t) (hu : IS u) : eqV t u = decide (t = u) := by
  rcases ht with ⟨n, rfl⟩ | ⟨n, rfl⟩ <;> rcases hu with ⟨m, rfl⟩ | ⟨m, rfl⟩
  · show (n == m) = _
    by_cases h : n = m
    · subst h; simp
    · have : (n == m) = false := beq_eq_false_iff_ne.mpr h
      rw [this]; simp [h]
  · show false = _
    simp
  · show false = _
    simp
  · show (n == m) = _
    by_cases h : n = m
    · subst h; simp
    · have : (n == m) = false := beq_eq_false_iff_ne.mpr h
      rw [this]; simp [h]
/-- x in (a, b) -/
theorem IS.in2 {x a b : V} (hx : IS x) (ha : IS a) (hb : IS b) : inV x [a, b] = decide (a = x ∨ b = x) := by
  unfold inV
  simp only [List.any_cons, List.any_nil, Bool.or_false]
  rw [ha.eqV hx, hb.eqV hx]
  by_cases h1 : a = x <;> by_cases h2 : b = x <;> simp [h1, h2]
theorem g_in2 {K : PySem.W.Frag} {H : Hp} {Q : VK} {x a b : V} {p : Addr} (hp : H p = some (.tup [a, b])) (hx : IS x) (ha : IS a) (hb : IS b) (q : Q (.bl (decide (a = x ∨ b = x))) H) : rIn K false x (.ref p) H Q :=
  ⟨p, _, rfl, .inr (SqT.of hp), hx.flat, by simp [ha.flat, hb.flat], by rw [hx.in2 ha hb]; exact q⟩
def dV : V → PyData
  | .int n => .int n
  | .str x => .str x
  | _ => .none
theorem IS.dp {K : PySem.W.Frag} {H : Hp} {t : V} (ht : IS t) : Dp K H t (dV t) := by
  rcases ht with ⟨n, rfl⟩ | ⟨n, rfl⟩
  · exact .int n
  · exact .str n
theorem IS.eqv {t u : V} (ht : IS t) (hu : IS u) : PyData.eqv (dV t) (dV u) = decide (t = u) := by
  rw [← ht.eqV hu]
  rcases ht with ⟨n, rfl⟩ | ⟨n, rfl⟩ <;> rcases hu with ⟨m, rfl⟩ | ⟨m, rfl⟩ <;> simp [dV, PyData.eqv, L2.eqV]
end Up

set_option Elab.async false
set_option linter.all false
set_option maxRecDepth 100000
set_option maxHeartbeats 4000000
namespace Up
open PySem PySem.Spec PyProof.Rows L2
/-! ### a list beside an empty one -/
def oEqE (K : PySem.W.Frag) : R2 := fun x y H Q => ∃ a b xs, x = .ref a ∧ y = .ref b ∧ SqL K H a xs ∧ SqL K H b [] ∧ Q (.bl xs.isEmpty) H
def oNeE (K : PySem.W.Frag) : R2 := fun x y H Q => ∃ a b xs, x = .ref a ∧ y = .ref b ∧ SqL K H a xs ∧ SqL K H b [] ∧ Q (.bl (!xs.isEmpty)) H
theorem op_eqE {X : Cx} (hu : X.A.units + 64 < cLine) : OpR X (compareOp .Eq) (oEqE X.K) := by
  intro pins s σ H x y v u Q I rx ry h
  obtain ⟨a, b, xs, rfl, rfl, ha, hb, q⟩ := h
  cases rx
  cases ry
  obtain ⟨its, r1, p1, _⟩ := I.list ha
  obtain ⟨jts, r2, p2, _⟩ := I.list hb
  have l1 := r1.length
  have l2 := r2.length
  by_cases e : xs = []
  · subst e
    have z1 : its.toArray.size = 0 := by rw [List.size_toArray, ← l1]; rfl
    refine SeqAt.eq_listAt (e := fun _ => true) p1.isList p2.isList (by rw [z1, List.size_toArray, ← l2]; rfl) (by omega) (fun j h1 => absurd h1 (by omega)) ?_
    rw [z1]
    exact ⟨.bl true, H, I, rfl, q⟩
  · refine SeqAt.eq_list_lengthsAt p1.isList p2.isList ?_ (by omega) ?_
    · rw [List.size_toArray, List.size_toArray, ← l1, ← l2]
      cases xs with
      | nil => exact absurd rfl e
      | cons _ _ => rfl
    · cases xs with
      | nil => exact absurd rfl e
      | cons _ _ => exact ⟨.bl false, H, I, rfl, q⟩
theorem op_neE {X : Cx} (hu : X.A.units + 64 < cLine) : OpR X (compareOp .NotEq) (oNeE X.K) := by
  intro pins s σ H x y v u Q I rx ry h
  obtain ⟨a, b, xs, rfl, rfl, ha, hb, q⟩ := h
  cases rx
  cases ry
  obtain ⟨its, r1, p1, _⟩ := I.list ha
  obtain ⟨jts, r2, p2, _⟩ := I.list hb
  have l1 := r1.length
  have l2 := r2.length
  by_cases e : xs = []
  · subst e
    have z1 : its.toArray.size = 0 := by rw [List.size_toArray, ← l1]; rfl
    refine SeqAt.RcNeAt.lists (e := fun _ => true) p1.isList p2.isList (by rw [z1, List.size_toArray, ← l2]; rfl) (by omega) (fun j h1 => absurd h1 (by omega)) _ _ _ _ ?_
    rw [z1]
    exact ⟨.bl false, H, I, rfl, q⟩
  · refine SeqAt.RcNeAt.lists_lengths p1.isList p2.isList ?_ (by omega) _ _ _ _ ?_
    · rw [List.size_toArray, List.size_toArray, ← l1, ← l2]
      cases xs with
      | nil => exact absurd rfl e
      | cons _ _ => rfl
    · cases xs with
      | nil => exact absurd rfl e
      | cons _ _ => exact ⟨.bl true, H, I, rfl, q⟩
theorem g_eqE {K : PySem.W.Frag} {H : Hp} {Q : VK} {a b : Addr} {xs : List V} (ha : H a = some (.lst xs)) (hb : H b = some (.lst [])) (q : Q (.bl xs.isEmpty) H) : oEqE K (.ref a) (.ref b) H Q := ⟨a, b, xs, rfl, rfl, SqL.of ha, SqL.of hb, q⟩
theorem g_neE {K : PySem.W.Frag} {H : Hp} {Q : VK} {a b : Addr} {xs : List V} (ha : H a = some (.lst xs)) (hb : H b = some (.lst [])) (q : Q (.bl (!xs.isEmpty)) H) : oNeE K (.ref a) (.ref b) H Q := ⟨a, b, xs, rfl, rfl, SqL.of ha, SqL.of hb, q⟩
/-! ### xs[i] op= e -/
def rGetL (K : PySem.W.Frag) : V → V → Hp → VK → Prop := fun x y H Q => ∃ p xs i z, x = .ref p ∧ y = .int i ∧ SqL K H p xs ∧ 0 ≤ i ∧ atI xs i = some z ∧ Q z H
theorem pget_list {X : Cx} : PGet X (rGetL X.K) := by
  intro pins s σ H x y v u Q I rx ry h
  obtain ⟨p, xs, i, z, rfl, rfl, hq, h0, he, q⟩ := h
  cases rx
  obtain ⟨t, rfl⟩ := ry
  obtain ⟨its, r, pl, hz⟩ := I.list hq
  obtain ⟨j, h1, h2, h3, h4, h5⟩ := atI_get he
  obtain ⟨w, ew, rw'⟩ := r.get h2
  have hl := r.length
  have hn := line63
  have hj : i.toNat = j := by
    rw [seqIndex_of h0 h5] at h1
    exact Option.some.inj h1
  exact wpAny_getItem_list pl.isList h0 (by omega) (by rw [hj]; simpa using ew) ⟨z, H, I, rw', q⟩
theorem g_augS {to ti te : TE} {tget : V → V → Hp → VK → Prop} {tip : TIp} {tset : TSet} {D : Ends} {σ : L2.St} {H : Hp} (h : to σ H fun o H1 => ti σ H1 fun i H2 => tget o i H2 fun x H3 => te σ H3 fun y H4 => tip x y H4 fun z H5 => tset o i z H5 fun H6 => D.nx σ H6) : tAugS to ti te tget tip tset D σ H := h
theorem g_getL {K : PySem.W.Frag} {H : Hp} {Q : VK} {p : Addr} {xs : List V} {i : Int} {z : V} (h : H p = some (.lst xs)) (h0 : 0 ≤ i) (e : atI xs i = some z) (q : Q z H) : rGetL K (.ref p) (.int i) H Q := ⟨p, xs, i, z, rfl, rfl, SqL.of h, h0, e, q⟩
theorem g_ipI {f : Int → Int → Int} {i j : Int} {H : Hp} {Q : VK} (q : Q (.int (f i j)) H) : ipI f (.int i) (.int j) H Q := ⟨i, j, rfl, rfl, q⟩
def ipM : TIp := fun x y H Q => ∃ i j, x = .int i ∧ y = .int j ∧ IntMulOk i j ∧ Q (.int (i * j)) H
theorem ip_mul {X : Cx} : PIp X .Mult ipM := by
  intro pins s σ H x y v u Q I r1 r2 h
  obtain ⟨i, j, e1, e2, hm, q⟩ := h
  subst e1; subst e2
  obtain ⟨t, rfl⟩ := r1
  obtain ⟨t', rfl⟩ := r2
  exact imul_int ⟨.int _, H, I.tok _, ⟨_, rfl⟩, q⟩ hm
theorem g_ipM {i j : Int} {H : Hp} {Q : VK} (hm : IntMulOk i j) (q : Q (.int (i * j)) H) : ipM (.int i) (.int j) H Q := ⟨i, j, rfl, rfl, hm, q⟩
theorem g_ord {c : Nat} {H : Hp} {Q : VK} (q : Q (.int (c : Nat)) H) : (fun xs H Q => ∃ x, xs = [V.str x] ∧ x.length = 1 ∧ Q (.int (x.cps.getD 0 0 : Nat)) H : List V → Hp → VK → Prop) [.str ⟨#[c]⟩] H Q := ⟨_, rfl, rfl, q⟩
/-! ### other readings -/
theorem g_nt {A B : Prop} (h : B) : if (!true) = true then A else B := h
theorem g_nf {A B : Prop} (h : A) : if (!false) = true then A else B := h

theorem g_bm {K : PySem.W.Frag} {T : String} {r : V → List V → Hp → VK → Prop} {to : TE} {t : TA} {σ : L2.St} {H : Hp} {Q : VK} (h : to σ H fun x H1 => tyV K T x H1 ∧ t σ H1 fun vs H2 => r x vs H2 Q) : tBM K T r to t σ H Q := h
theorem g_app {H : Hp} {Q : VK} {l : Addr} {xs : List V} {y : V} (h : H l = some (.lst xs)) (hz : xs.length < sizeLine) (q : ∀ H', H' l = some (.lst (xs ++ [y])) → (∀ b, b ≠ l → H' b = H b) → Q .non H') : rAppend (.ref l) [y] H Q := ⟨l, xs, y, rfl, rfl, h, hz, q _ upd_same fun b hb => upd_ne hb⟩
theorem g_ext {H : Hp} {Q : VK} {l b : Addr} {xs zs : List V} (h : H l = some (.lst xs)) (hb : H b = some (.lst zs)) (hz : xs.length + zs.length ≤ sizeLine) (q : ∀ H', H' l = some (.lst (xs ++ zs)) → (∀ b, b ≠ l → H' b = H b) → Q .non H') : rExtend (.ref l) [.ref b] H Q := ⟨l, b, xs, zs, rfl, rfl, h, hb, hz, q _ upd_same fun b hb => upd_ne hb⟩
theorem tyL {K : PySem.W.Frag} {H : Hp} {p : Addr} {xs : List V} (h : H p = some (.lst xs)) : tyV K "list" (.ref p) H := .inl ⟨rfl, _, SqL.of h⟩
theorem g_iStr {te : TE} {σ : L2.St} {H : Hp} {R : It → Hp → Prop} (h : te σ H fun v H1 => ∃ x, v = .str x ∧ R (Its x) H1) : iStr te σ H R := h
theorem atI_of {xs : List V} {i : Int} {v : V} (h0 : 0 ≤ i) (h : xs[i.toNat]? = some v) : atI xs i = some v := by
  have hl : i.toNat < xs.length := by
    by_cases e : i.toNat < xs.length
    · exact e
    · rw [List.getElem?_eq_none (by omega)] at h; cases h
  unfold atI
  have e : ixN xs.length i = some i.toNat := by unfold ixN; rw [if_pos h0, if_pos (by omega)]
  rw [e]
  exact h
theorem ixN_of {n : Nat} {i : Int} (h0 : 0 ≤ i) (h : i < n) : ixN n i = some i.toNat := by unfold ixN; rw [if_pos h0, if_pos (by omega)]
theorem g_aug {i : Nat} {te : TE} {tip : TIp} {D : Ends} {σ : L2.St} {H : Hp} (h : ∃ v, σ[i]? = some (some v) ∧ te σ H fun y H1 => tip v y H1 fun z H2 => D.nx (σ.set i (some z)) H2) : tAug i te tip D σ H := h
theorem g_fldaug {K : PySem.W.Frag} {ta tv : TE} {rd : R2} {f : Str} {D : Ends} {σ : L2.St} {H : Hp} (h : ta σ H fun x H1 => ∃ a C dx fs v, x = .ref a ∧ H1 a = some (.ins C dx fs) ∧ Cls K C ∧ NoAttr K C f ∧ fs.lookup f = some v ∧ tv σ H1 fun y H2 => rd v y H2 fun z H3 => ∃ dx' fs', H3 a = some (.ins C dx' fs') ∧ fs'.length < 1000 ∧ D.nx σ (upd H3 a (.ins C dx' (putF f z fs')))) : sFldAug K ta tv rd f D σ H := h
theorem pg_tupE {X : Cx} (K : PySem.W.Frag) {es : List Expr} {k : Nat} {t : TGs} {n : Nat} {pos : Pos} (hK : X.K = K) (hc : X.calm = true) (h : PGs X es t)
    (hn : (assignEach es X.env).length = n := by rfl) (hst : (assignEach es X.env).findIdx? (·.1) = none := by rfl) : PG X (.Tuple es k pos) (gTup K n t) := hK ▸ pg_tup hc h hn hst
/-! ### loops over enumerate, over a text -/
theorem for_enum {K : PySem.W.Frag} {a : Addr} {xs : List V} {g : TG} {tb : TS} {D : Ends} {σ : L2.St} {H : Hp} (Pv : Nat → L2.St → Hp → Prop) (h0 : Pv 0 σ H) (hl : ∀ i σ H, i ≤ xs.length → Pv i σ H → SqL K H a xs)
    (hs : ∀ i x σ H T, xs[i]? = some x → Pv i σ H → H T = none → g (.ref T) σ (upd H T (.tup [.int (i : Nat), x])) fun σ2 H2 => tb { D with nx := Pv (i + 1), ct := Pv (i + 1), bk := D.nx } σ2 H2) (hd : ∀ σ H, Pv xs.length σ H → D.nx σ H) :
    ∃ W : Nat → Nat → L2.St → Hp → Prop, (∃ m, W 0 m σ H) ∧ ∀ i m σ H, W i m σ H →
      ((Ite K a).stop i H ∧ D.nx σ H) ∨ ((Ite K a).go i H ∧ ∃ N : L2.St → Hp → Prop, (∀ σ' H', N σ' H' → ∃ m', m' < m ∧ W (i + 1) m' σ' H') ∧ ∀ x H', (Ite K a).yld i H x H' → g x σ H' fun σ2 H2 => tb { D with nx := N, ct := N, bk := D.nx } σ2 H2) := by
  refine ⟨fun i m σ H => m = xs.length - i ∧ i ≤ xs.length ∧ Pv i σ H, ⟨xs.length, by simp, Nat.zero_le _, h0⟩, ?_⟩
  rintro i m σ H ⟨rfl, hi, p⟩
  have q := hl i σ H hi p
  by_cases hlt : i < xs.length
  · refine .inr ⟨⟨xs, xs[i], q, by simp [hlt]⟩, Pv (i + 1), fun σ' H' p' => ⟨xs.length - (i + 1), by omega, rfl, hlt, p'⟩, fun x H' y => ?_⟩
    obtain ⟨T, y, rfl, hT, rfl, hy⟩ := y
    exact hs i y σ _ T (hy xs q) p hT
  · have e : i = xs.length := by omega
    subst e
    exact .inl ⟨⟨xs, q, Nat.le_refl _⟩, hd σ H p⟩
theorem lc_enum {K : PySem.W.Frag} {a : Addr} {xs : List V} {g : TG} {tt : TT} {te : TE} {vs : List Nat} {σ : L2.St} {H1 : Hp} {D : Addr} {Qd : Hp → Prop} (Pv : Nat → Hp → Prop) (h0 : Pv 0 (upd H1 D (.lst []))) (hl : ∀ i H, i ≤ xs.length → Pv i H → SqL K H a xs)
    (hs : ∀ i x H T, xs[i]? = some x → Pv i H → H T = none → g (.ref T) (wipe σ vs) (upd H T (.tup [.int (i : Nat), x])) fun σ2 H2 => wipe σ2 vs = wipe σ vs ∧ tt σ2 H2 fun b H3 =>
      if b = true then te σ2 H3 fun y H4 => ∃ acc, H4 D = some (.lst acc) ∧ acc.length < sizeLine ∧ Pv (i + 1) (upd H4 D (.lst (acc ++ [y]))) else Pv (i + 1) H3) (hd : ∀ H, Pv xs.length H → Qd H) :
    ∃ W : Nat → Nat → Hp → Prop, (∃ m, W 0 m (upd H1 D (.lst []))) ∧ ∀ i m H, W i m H →
      ((Ite K a).stop i H ∧ Qd H) ∨ ((Ite K a).go i H ∧ ∃ Nx : Hp → Prop, (∀ H', Nx H' → ∃ m', m' < m ∧ W (i + 1) m' H') ∧ ∀ x H', (Ite K a).yld i H x H' → g x (wipe σ vs) H' fun σ2 H2 => wipe σ2 vs = wipe σ vs ∧ tt σ2 H2 fun b H3 =>
        if b = true then te σ2 H3 fun y H4 => ∃ acc, H4 D = some (.lst acc) ∧ acc.length < sizeLine ∧ Nx (upd H4 D (.lst (acc ++ [y]))) else Nx H3) := by
  refine ⟨fun i m H => m = xs.length - i ∧ i ≤ xs.length ∧ Pv i H, ⟨xs.length, by simp, Nat.zero_le _, h0⟩, ?_⟩
  rintro i m H ⟨rfl, hi, p⟩
  have q := hl i H hi p
  by_cases hlt : i < xs.length
  · refine .inr ⟨⟨xs, xs[i], q, by simp [hlt]⟩, Pv (i + 1), fun H' p' => ⟨xs.length - (i + 1), by omega, rfl, hlt, p'⟩, fun x H' y => ?_⟩
    obtain ⟨T, y, rfl, hT, rfl, hy⟩ := y
    exact hs i y _ T (hy xs q) p hT
  · have e : i = xs.length := by omega
    subst e
    exact .inl ⟨⟨xs, q, Nat.le_refl _⟩, hd H p⟩
theorem for_str {x : Str} {g : TG} {tb : TS} {D : Ends} {σ : L2.St} {H : Hp} (Pv : Nat → L2.St → Hp → Prop) (h0 : Pv 0 σ H)
    (hs : ∀ i c σ H, x.cps[i]? = some c → Pv i σ H → g (.str ⟨#[c]⟩) σ H fun σ2 H2 => tb { D with nx := Pv (i + 1), ct := Pv (i + 1), bk := D.nx } σ2 H2) (hd : ∀ σ H, Pv x.cps.size σ H → D.nx σ H) :
    ∃ W : Nat → Nat → L2.St → Hp → Prop, (∃ m, W 0 m σ H) ∧ ∀ i m σ H, W i m σ H →
      ((Its x).stop i H ∧ D.nx σ H) ∨ ((Its x).go i H ∧ ∃ N : L2.St → Hp → Prop, (∀ σ' H', N σ' H' → ∃ m', m' < m ∧ W (i + 1) m' σ' H') ∧ ∀ x' H', (Its x).yld i H x' H' → g x' σ H' fun σ2 H2 => tb { D with nx := N, ct := N, bk := D.nx } σ2 H2) := by
  refine ⟨fun i m σ H => m = x.cps.size - i ∧ i ≤ x.cps.size ∧ Pv i σ H, ⟨x.cps.size, by simp, Nat.zero_le _, h0⟩, ?_⟩
  rintro i m σ H ⟨rfl, hi, p⟩
  by_cases hlt : i < x.cps.size
  · refine .inr ⟨hlt, Pv (i + 1), fun σ' H' p' => ⟨x.cps.size - (i + 1), by omega, rfl, hlt, p'⟩, fun x' H' y => ?_⟩
    obtain ⟨rfl, c, hc, rfl⟩ := y
    exact hs i c σ _ hc p
  · have e : i = x.cps.size := by omega
    subst e
    exact .inl ⟨Nat.le_refl _, hd σ H p⟩
end Up

set_option Elab.async false
set_option linter.all false
set_option maxRecDepth 100000
set_option maxHeartbeats 4000000
namespace Up
open PySem PySem.Spec PyProof.Rows L2
/-! ### calls with keywords: o.m(e, k = v), C(k = v) -/
def tMethK (C : Addr) (m : Str) (n l : Nat) (sp : Sp) (gV : List V → List V → List V) (E : XK) (ta : TE) (t tk : TA) : TE := fun σ H Q => ta σ H fun x H1 => ∃ a dx fs, x = .ref a ∧ H1 a = some (.ins C dx fs) ∧ fs.lookup m = none ∧
  t σ H1 fun vs H2 => tk σ H2 fun zs H3 => vs.length + 1 = n ∧ zs.length = l ∧ sp (gV (x :: vs) zs) H3 Q E
def MakeRK (C : Addr) (sp : Sp) (gV : List V → List V → List V) (vs zs : List V) (H : Hp) (Q : VK) (E : XK) : Prop := ∀ x dx H', H x = none → H dx = none → dx ≠ x → Same H H' → H' x = some (.ins C dx []) → (∀ b, b ≠ x → b ≠ dx → H' b = H b) →
  sp (gV (.ref x :: vs) zs) H' (fun v H2 => v = .non ∧ Q (.ref x) H2) E
def tMakeKN (C : Addr) (n l : Nat) (sp : Sp) (gV : List V → List V → List V) (E : XK) (t tk : TA) : TE := fun σ H Q => t σ H fun vs H1 => tk σ H1 fun zs H2 => vs.length = n ∧ zs.length = l ∧ MakeRK C sp gV vs zs H2 Q E
section
variable (P : Program) (w : World) (K : PySem.W.Frag) (mg : Str → Option Value) (base : Heap)
def MtK (CX : CXT) (k : Nat) (C : Addr) (m : Str) (ps : List Str) (n : Nat) (ks : List Str) (gV : List V → List V → List V) (sp : Sp) : Prop :=
  ∃ f fd g, FnOk P w K mg base CX k f fd ps sp ∧ Meth K C m f ∧ KBn K fd ps n ks g gV ∧ Cls K C
def CnK (CX : CXT) (k : Nat) (x : Str) (C : Addr) (ps : List Str) (n : Nat) (ks : List Str) (gV : List V → List V → List V) (sp : Sp) : Prop :=
  ∃ f fd g, FnOk P w K mg base CX k f fd ps sp ∧ Mk K C f ∧ mg x = some (.ref C) ∧ KBn K fd ps (n + 1) ks g gV
end
section
variable {X : Cx} {CX : CXT} {k n : Nat} {C : Addr} {x m : Str} {ps ks : List Str} {sp : Sp} {E : XK} {p pos apos : Pos} {e o : Expr} {es : List Expr} {kws : List Keyword} {ta : TE} {t tk : TA} {gV : List V → List V → List V}
theorem pe_mtK {pl : Sem Bool} (F : MtK X.prog X.w X.K X.mg X.base CX k C m ps n ks gV sp) (hr : Room k X.A) (hx : Passes CX X E) (he : PE X o ta) (ha : PA X (e :: es) t) (hkw : PK X kws tk)
    (hall : (backToKw pos (keywordEach kws X.env)).all (·.1.isSome) = true := by rfl) (hks : (backToKw pos (keywordEach kws X.env)).filterMap (·.1) = ks := by rfl)
    (hst : starEach (e :: es) X.env = (false, eval e X.env) :: starEach es X.env := by rfl) (hpl : ((backTo pos (starEach (e :: es) X.env)).any (·.1) || (backToKw pos (keywordEach kws X.env)).any (·.1.isNone)) = false := by rfl)
    (ht : eval (.Call (.Attribute o m apos) (e :: es) kws pos) X.env = (do
      let ov ← eval o X.env
      standAt apos.atName
      let (f, first) ← holding [ov] (getMethod ov m pl)
      callWith pos f first (backTo pos (starEach (e :: es) X.env)) (backToKw pos (keywordEach kws X.env))) := by rfl) :
    PE X (.Call (.Attribute o m apos) (e :: es) kws pos) (tMethK C m n ks.length sp gV E ta t tk) := by
  obtain ⟨f, fd, g, F, hm, hb, c⟩ := F
  refine ⟨fun pins s σ H Q I h => ?_⟩
  refine PySem.W.methodCall_KW (pl := pl) (thn (he.run pins s σ H _ I h) fun u s1 ⟨x, H1, I1, rx, a, dx, fs, ex, ea, l, q⟩ => ?_) ht
  subst ex
  obtain rfl : u = Value.ref a := rx
  refine getmeth_ok I1 ea c hm l ?_
  refine PySem.W.callWith_KW (first := [.ref a]) (h₀ := X.base) I.ok.mod.kin hm.kp hall (thn (ha.run pos pins s1 σ H1 _ I1 q) fun us s2 ⟨vs, H2, I2, r, q2⟩ => ?_) hpl hst
  refine thn (hkw.run pos pins s2 σ H2 _ I2 q2) fun ws s3 ⟨zs, H3, I3, rz, l1, l2, q3⟩ => ⟨I3.kIn, ?_⟩
  rw [hks]
  exact run_fnN (us := .ref a :: us) (vs := .ref a :: vs) F hr hb hx I3 (.cons rfl r) rz l1 l2 q3
theorem pe_mtK0 {pl : Sem Bool} (F : MtK X.prog X.w X.K X.mg X.base CX k C m ps n ks gV sp) (hr : Room k X.A) (hx : Passes CX X E) (he : PE X o ta) (hkw : PK X kws tk)
    (hall : (backToKw pos (keywordEach kws X.env)).all (·.1.isSome) = true := by rfl) (hks : (backToKw pos (keywordEach kws X.env)).filterMap (·.1) = ks := by rfl)
    (hpl : ((backTo pos (starEach [] X.env)).any (·.1) || (backToKw pos (keywordEach kws X.env)).any (·.1.isNone)) = false := by rfl)
    (ht : eval (.Call (.Attribute o m apos) [] kws pos) X.env = (do
      let ov ← eval o X.env
      standAt apos.atName
      let (f, first) ← holding [ov] (getMethod ov m pl)
      callWith pos f first (backTo pos (starEach [] X.env)) (backToKw pos (keywordEach kws X.env))) := by rfl) :
    PE X (.Call (.Attribute o m apos) [] kws pos) (tMethK C m n ks.length sp gV E ta tNil tk) := by
  obtain ⟨f, fd, g, F, hm, hb, c⟩ := F
  refine ⟨fun pins s σ H Q I h => ?_⟩
  refine PySem.W.methodCall_KW (pl := pl) (thn (he.run pins s σ H _ I h) fun u s1 ⟨x, H1, I1, rx, a, dx, fs, ex, ea, l, q⟩ => ?_) ht
  subst ex
  obtain rfl : u = Value.ref a := rx
  refine getmeth_ok I1 ea c hm l ?_
  refine PySem.W.callWith_KW0 (first := [.ref a]) (h₀ := X.base) I.ok.mod.kin hm.kp hall ?_ hpl
  refine thn (hkw.run pos pins s1 σ H1 _ I1 q) fun ws s3 ⟨zs, H3, I3, rz, l1, l2, q3⟩ => ⟨I3.kIn, ?_⟩
  rw [hks]
  exact run_fnN (us := [.ref a]) (vs := [.ref a]) F hr hb hx I3 (.cons rfl .nil) rz l1 l2 q3
theorem pe_cnK0 (F : CnK X.prog X.w X.K X.mg X.base CX k x C ps 0 ks gV sp) (hr : Room (k + 1) X.A) (hx : Passes CX X E) (hkw : PK X kws tk) (hg : Gl X x := by rfl)
    (hall : (backToKw pos (keywordEach kws X.env)).all (·.1.isSome) = true := by rfl) (hks : (backToKw pos (keywordEach kws X.env)).filterMap (·.1) = ks := by rfl) (hdb : (x == ("__debug__" : Str)) = false := by decide)
    (hpl : ((backTo pos (starEach [] X.env)).any (·.1) || (backToKw pos (keywordEach kws X.env)).any (·.1.isNone)) = false := by rfl) :
    PE X (.Call (.Name x p) [] kws pos) (tMakeKN C 0 ks.length sp gV E tNil tk) := by
  obtain ⟨f, fd, g, F, M, hm, hb⟩ := F
  refine ⟨fun pins s σ H Q I h => ?_⟩
  refine wpAny_Call_Name_kw (ld_glob I hg hm ?_ hdb)
  refine PySem.W.callWith_KW0 (h₀ := X.base) I.ok.mod.kin M.kp hall ?_ hpl
  refine thn (hkw.run pos pins s σ H _ I h) fun ws s2 ⟨zs, H2, I2, rz, l1, l2, q2⟩ => ⟨I2.kIn, ?_⟩
  rw [hks]
  refine run_makeK (us := []) (vs := []) M F hr hb hx I2 .nil rz rfl l2 fun y dy n1 n2 ne => q2 y dy _ n1 n2 ne (fun b u z => ?_) upd_same fun b hb1 hb2 => ?_
  · rw [upd_ne (ne_of_none z n1), upd_ne (ne_of_none z n2)]; exact z
  · rw [upd_ne hb1, upd_ne hb2]
end
/-- no defaults -/
theorem kbnN {K : PySem.W.Frag} {x qual : Str} {params : Arguments} {body : List Stmt} {scope : Scope} {f : Addr} {fd : FuncData} {ps : List Str} {n : Nat} {ks : List Str} {g : {α : Type} → List α → List α → List α} (F : FunD K x qual params body scope [] [] f fd)
    (hrel : ∀ {vs zs : List V} {us ws : List Value}, Vals vs us → Vals zs ws → Vals (g vs zs) (g us ws))
    (h : ∀ (kV doc pm : Value) (an : Option Addr) (cdv ct : Value) (us ws : List Value), us.length = n → ws.length = ks.length → bindArgs (PySem.W.fnOf x qual params body scope .none kV doc pm an cdv ct) ⟨us, ks.zip ws⟩ = pure (ps.zip (g us ws))) : KBn K fd ps n ks (fun us ws => g us ws) (fun vs zs => g vs zs) := by
  obtain ⟨oc, od, dV, kV, doc, pm, an, cdv, ct, osl, rfl, lk, hcd, hD, hK⟩ := F.ex
  rcases hD with ⟨_, rfl⟩ | ⟨e, _⟩
  · exact ⟨fun s us ws X l1 l2 => .of_eq (h kV doc pm an cdv ct us ws l1 l2), fun r1 r2 => hrel r1 r2⟩
  · exact absurd rfl e
theorem g_iRng2 {ta : TA} {σ : L2.St} {H : Hp} {R : It → Hp → Prop} (h : ta σ H fun vs H1 => ∃ i j : Int, vs = [.int i, .int j] ∧ (-(2 ^ 62) ≤ i ∧ i < 2 ^ 62 ∧ -(2 ^ 62) ≤ j ∧ j < 2 ^ 62) ∧ R (Itr i (j - i).toNat) H1) : iRng2 ta σ H R := h
section
variable {σ : L2.St} {H : Hp} {Q : VK} {C : Addr} {m : Str} {n l : Nat} {sp : Sp} {gV : List V → List V → List V} {E : XK} {ta : TE} {t tk : TA}
theorem g_methK (h : ta σ H fun x H1 => ∃ a dx fs, x = .ref a ∧ H1 a = some (.ins C dx fs) ∧ fs.lookup m = none ∧ t σ H1 fun vs H2 => tk σ H2 fun zs H3 => vs.length + 1 = n ∧ zs.length = l ∧ sp (gV (x :: vs) zs) H3 Q E) : tMethK C m n l sp gV E ta t tk σ H Q := h
theorem g_makeK (h : t σ H fun vs H1 => tk σ H1 fun zs H2 => vs.length = n ∧ zs.length = l ∧ MakeRK C sp gV vs zs H2 Q E) : tMakeKN C n l sp gV E t tk σ H Q := h
end
end Up

set_option Elab.async false
set_option linter.all false
set_option maxRecDepth 100000
set_option maxHeartbeats 4000000
namespace Up
open PySem PySem.Spec PyProof.Rows L2
/-! ### x is True, x is False; f-strings; xs[::-1] -/
def rIsBool : R2 := fun x y H Q => ∃ b, y = .bl b ∧ Q (.bl (decide (x = .bl b))) H
def rNotBool : R2 := fun x y H Q => ∃ b, y = .bl b ∧ Q (.bl (!decide (x = .bl b))) H
section
variable {X : Cx}
theorem op_isBool : OpR X (compareOp .Is) rIsBool := by
  intro pins s σ H x y v u Q I rx ry h
  obtain ⟨b, rfl, q⟩ := h
  cases (show u = Value.bool b from ry)
  by_cases e : x = .bl b
  · subst e
    cases (show v = Value.bool b from rx)
    exact wpAny_is_self rfl ⟨.bl true, H, I, rfl, by simpa using q⟩
  · have ne : v ≠ Value.bool b := fun z => by
      subst z
      cases x with
      | bl c => exact e (by cases (show Value.bool b = Value.bool c from rx); rfl)
      | _ => first | (obtain ⟨t, z⟩ := rx; cases z) | cases rx
    exact wpAny_is_other (by cases x <;> first | (obtain ⟨t, rfl⟩ := rx; rfl) | (cases rx; rfl)) ne ⟨.bl false, H, I, rfl, by simpa [e] using q⟩
theorem op_notBool : OpR X (compareOp .IsNot) rNotBool := by
  intro pins s σ H x y v u Q I rx ry h
  obtain ⟨b, rfl, q⟩ := h
  cases (show u = Value.bool b from ry)
  by_cases e : x = .bl b
  · subst e
    cases (show v = Value.bool b from rx)
    exact wpAny_isNot_self rfl ⟨.bl false, H, I, rfl, by simpa using q⟩
  · have ne : v ≠ Value.bool b := fun z => by
      subst z
      cases x with
      | bl c => exact e (by cases (show Value.bool b = Value.bool c from rx); rfl)
      | _ => first | (obtain ⟨t, z⟩ := rx; cases z) | cases rx
    exact wpAny_isNot_other (by cases x <;> first | (obtain ⟨t, rfl⟩ := rx; rfl) | (cases rx; rfl)) ne ⟨.bl true, H, I, rfl, by simpa [e] using q⟩
end
theorem upd_sm {H H4 : Hp} {p : Addr} {o : HO} (S : Same H H4) (h : H p = none) : Same H (upd H4 p o) := fun b u e => by rw [upd_ne (ne_of_none e h)]; exact S b u e
section
variable {σ : L2.St} {H : Hp} {Q : VK} {te : TE}
theorem g_isBool {x : V} {b : Bool} (h : Q (.bl (decide (x = .bl b))) H) : rIsBool x (.bl b) H Q := ⟨b, rfl, h⟩
theorem g_notBool {x : V} {b : Bool} (h : Q (.bl (!decide (x = .bl b))) H) : rNotBool x (.bl b) H Q := ⟨b, rfl, h⟩
theorem g_joined {ts : List TE} (h : tJs ts Str.empty σ H fun out H1 => Q (.str out) H1) : (fun σ H Q => tJs ts Str.empty σ H fun out H1 => Q (.str out) H1 : TE) σ H Q := h
theorem g_js {t : TE} {ts : List TE} {acc : Str} {R : Str → Hp → Prop} (h : t σ H fun x H1 => ∃ y : Str, x = .str y ∧ (acc ++ y).length ≤ sizeLine ∧ tJs ts (acc ++ y) σ H1 R) : tJs (t :: ts) acc σ H R := h
theorem g_js0 {acc : Str} {R : Str → Hp → Prop} (h : R acc H) : tJs [] acc σ H R := h
theorem g_jsS {acc a : Str} {T : Str → Prop} (hz : (acc ++ a).length ≤ sizeLine) (h : T a) : ∃ y : Str, V.str a = .str y ∧ (acc ++ y).length ≤ sizeLine ∧ T y := ⟨a, rfl, hz, h⟩
theorem g_fmt (h : te σ H fun x H1 => (∃ y : Str, x = .str y ∧ y.length ≤ sizeLine ∧ Q (.str y) H1) ∨ ∃ i : Int, x = .int i ∧ i.natAbs.log2 < 1920 ∧ Q (.str (toString i)) H1) : tFmt te σ H Q := h
theorem g_fmtS {y : Str} {T : Str → Prop} {U : Prop} (hz : y.length ≤ sizeLine) (h : T y) : (∃ y', V.str y = .str y' ∧ y'.length ≤ sizeLine ∧ T y') ∨ U := .inl ⟨y, rfl, hz, h⟩
theorem g_revL {K : PySem.W.Frag} (h : te σ H fun x H1 => ∃ a xs, x = .ref a ∧ SqL K H1 a xs ∧ ∀ p, H1 p = none → Q (.ref p) (upd H1 p (.lst xs.reverse))) : tRevL K te σ H Q := h
theorem g_callTy {r : List V → Hp → VK → Prop} {t : TA} (h : t σ H fun vs H1 => r vs H1 Q) : tCB r t σ H Q := h
theorem fstr_msg (x : Str) : ((Str.empty ++ x : Str)) = x := by
  show (⟨#[] ++ x.cps⟩ : Str) = x
  rw [Array.empty_append]
theorem un1 {n : Nat} (h : n + 64 < cLine) : n + 1 < cLine := by omega
theorem g_dgetR {td ty : TE} (h : td σ H fun x H1 => ty σ H1 fun y H2 => ∃ a v, x = .ref a ∧ DGet H2 a y (some v) ∧ Q v H2) : tDGet td ty σ H Q := h
/-- t[lo:hi], not the whole -/
def oSlT (K : PySem.W.Frag) : V → Option Int → Option Int → Hp → VK → Prop := fun x lo hi H Q => ∃ a xs, x = .ref a ∧ SqT K H a xs ∧ ¬ (HT.sIx xs.length 0 lo = 0 ∧ HT.sIx xs.length xs.length hi = xs.length) ∧ NewAt H (.tup (cutV xs lo hi)) Q
theorem sl_tupN {X : Cx} : SlR X (oSlT X.K) := by
  intro pins s σ H x v vl vu lo hi sl Q I rx hs pl pu h
  obtain ⟨a, xs, e, hq, hw, q⟩ := h
  exact sl_tup pins s σ H x v vl vu lo hi sl Q I rx hs pl pu ⟨a, xs, e, hq, hw, q.all⟩
theorem g_self {x : V} {A B : Prop} (h : A) : if decide (x = x) = true then A else B := by rw [if_pos (by simp)]; exact h
theorem g_selfN {x : V} {A B : Prop} (h : B) : if (!decide (x = x)) = true then A else B := by rw [if_neg (by simp)]; exact h
theorem g_rN {a : Addr} {A B : Prop} (h : B) : if decide (V.ref a = V.non) = true then A else B := by rw [if_neg (by simp)]; exact h
theorem g_rNN {a : Addr} {A B : Prop} (h : A) : if (!decide (V.ref a = V.non)) = true then A else B := by rw [if_pos (by simp)]; exact h
theorem g_iN {a : Int} {A B : Prop} (h : B) : if decide (V.int a = V.non) = true then A else B := by rw [if_neg (by simp)]; exact h
theorem g_iNN {a : Int} {A B : Prop} (h : A) : if (!decide (V.int a = V.non)) = true then A else B := by rw [if_pos (by simp)]; exact h
theorem g_sN {a : Str} {A B : Prop} (h : B) : if decide (V.str a = V.non) = true then A else B := by rw [if_neg (by simp)]; exact h
theorem g_sNN {a : Str} {A B : Prop} (h : A) : if (!decide (V.str a = V.non)) = true then A else B := by rw [if_pos (by simp)]; exact h
theorem g_bN {a : Bool} {A B : Prop} (h : B) : if decide (V.bl a = V.non) = true then A else B := by rw [if_neg (by simp)]; exact h
theorem g_bNN {a : Bool} {A B : Prop} (h : A) : if (!decide (V.bl a = V.non)) = true then A else B := by rw [if_pos (by simp)]; exact h
end
end Up

set_option Elab.async false
set_option linter.all false
set_option maxRecDepth 100000
set_option maxHeartbeats 4000000
set_option exponentiation.threshold 200000
namespace Up
open PySem PySem.Spec PyProof.Rows L2
/-! ### text * int, any int -/
def repS (z : Str) (n : Int) : Str := if n < 1 then Str.empty else if (n == 1 || z.length == 0) = true then z else mulStr z n.toNat
def oMulT : R2 := fun x y H Q => ∃ (z : Str) (n : Int), x = .str z ∧ y = .int n ∧ -100000 ≤ n ∧ n ≤ 100000 ∧ z.length ≤ 10 ∧ z.length * n.toNat ≤ 100000 ∧ (mulStr z n.toNat).length ≤ 100000 ∧ Q (.str (repS z n)) H
section
variable {X : Cx}
theorem op_mulT : OpR X (binaryOp .Mult) oMulT := by
  intro pins s σ H x y v u Q I rx ry h
  obtain ⟨z, n, rfl, rfl, h1, h2, h4, h5, h6, q⟩ := h
  obtain ⟨t, rfl⟩ := rx
  obtain ⟨tk, rfl⟩ := ry
  refine PySem.P.mul_str (by rw [decide_eq_false (by omega), decide_eq_false (by omega)]; rfl) (fun _ _ => ?_) (fun _ _ => ?_) ?_
  · have : (10 : Int) ≤ (2 ^ 63 - 1) / n := (Int.le_ediv_iff_mul_le (by omega)).mpr (by omega)
    omega
  · exact decide_eq_false (by show ¬ z.length * n.toNat > sizeLine; have : (100000 : Nat) ≤ sizeLine := by decide
                              omega)
  · unfold repS at q
    split
    · rename_i h
      rw [if_pos h] at q
      exact ⟨by decide, .str Str.empty, H, I.tok _, ⟨_, rfl⟩, q⟩
    · rename_i h
      rw [if_neg h] at q
      split
      · rename_i h3
        rw [if_pos h3] at q
        exact ⟨.str z, H, I, ⟨_, rfl⟩, q⟩
      · rename_i h3
        rw [if_neg h3] at q
        exact ⟨Nat.le_trans h6 (by decide), .str (mulStr z n.toNat), H, I.tok _, ⟨_, rfl⟩, q⟩
end
theorem mul_arr (c : Array Nat) : ∀ (n : Nat) (a : Array Nat), ((List.replicate n c).foldl (· ++ ·) a).size = a.size + n * c.size
  | 0, a => by simp
  | n + 1, a => by
    rw [List.replicate_succ, List.foldl_cons, mul_arr c n, Array.size_append, Nat.succ_mul]
    omega
theorem mul_len (z : Str) (n : Nat) : (mulStr z n).length = n * z.length := by
  show ((List.replicate n z.cps).foldl (· ++ ·) #[]).size = _
  rw [mul_arr]
  show 0 + n * z.cps.size = n * z.cps.size
  omega
theorem add_len (a b : Str) : (a ++ b).length = a.length + b.length := by
  show (a.cps ++ b.cps).size = _
  rw [Array.size_append]
  rfl
theorem rep_len (z : Str) (n : Int) : (repS z n).length = n.toNat * z.length := by
  unfold repS
  split
  · rename_i h
    rw [show n.toNat = 0 by omega, Nat.zero_mul]
    rfl
  · split
    · rename_i h
      rw [Bool.or_eq_true] at h
      rcases h with h | h
      · rw [show n.toNat = 1 by have := beq_iff_eq.mp h; omega, Nat.one_mul]
      · rw [beq_iff_eq.mp h, Nat.mul_zero]
    · exact mul_len z _
theorem g_mulT {H : Hp} {Q : VK} {z : Str} {n : Int} (h1 : -100000 ≤ n) (h2 : n ≤ 100000) (h3 : z.length ≤ 10) (h4 : z.length * n.toNat ≤ 100000) (q : Q (.str (repS z n)) H) : oMulT (.str z) (.int n) H Q :=
  ⟨z, n, rfl, rfl, h1, h2, h3, h4, by rw [mul_len, Nat.mul_comm]; exact h4, q⟩
/-! texts as values -/
section
variable {σ : L2.St} {H : Hp} {Q : VK} {te to ta tb : TE}
theorem g_m1 {r : V → List V → Hp → VK → Prop} (h : to σ H fun x H1 => (∃ a, x = .str a) ∧ te σ H1 fun y H2 => r x [y] H2 Q) : tM1 r to te σ H Q := h
theorem g_orT {K : PySem.W.Frag} (h : ta σ H fun x H1 => ∃ k, TruV K x H1 k ∧ if k = true then Q x H1 else tb σ H1 Q) : tOrT K ta tb σ H Q := h
theorem g_slS {z : Str} {lo hi : Option Int} (hz : z.length ≤ sizeLine) (q : Q (.str (cutS z lo hi)) H) : rSlS (.str z) lo hi H Q := ⟨z, rfl, hz, q⟩
end
end Up

set_option Elab.async false
set_option linter.all false
set_option maxRecDepth 100000
set_option maxHeartbeats 4000000
namespace Up
open PySem PySem.Spec PyProof.Rows L2
local macro_rules | `(tactic| walk_at "u") => `(tactic| first
  | with_reducible refine g_seq ?_
  | with_reducible refine g_asg ?_
  | with_reducible refine g_op ?_
  | ((with_reducible show tVar _ _ _ _); apply g_var; exact rfl)
  | with_reducible refine g_c ?_
  | with_reducible refine g_name ?_
  | with_reducible refine g_ifs ?_
  | with_reducible refine g_tt ?_
  | with_reducible refine g_tB ?_
  | with_reducible refine g_bl ?_
  | with_reducible refine g_ret ?_
  | with_reducible refine g_cb ?_
  | with_reducible refine g_cons ?_
  | with_reducible refine g_nil ?_
  | with_reducible refine g_call ?_
  | with_reducible refine g_and ?_
  | with_reducible refine g_or ?_
  | with_reducible refine g_not ?_
  | with_reducible refine g_andV ?_
  | with_reducible refine g_orV ?_
  | with_reducible refine g_notV ?_
  | with_reducible refine g_if ?_
  | with_reducible refine g_un ?_
  | with_reducible refine g_neg ?_
  | with_reducible refine g_addI ?_
  | with_reducible refine g_subI ?_
  | with_reducible refine g_subB ?_
  | with_reducible refine g_I0 ?_
  | with_reducible refine g_cmpI ?_
  | with_reducible refine g_eqI ?_
  | with_reducible refine g_neI ?_
  | with_reducible refine g_eqS ?_
  | with_reducible refine g_neS ?_
  | with_reducible refine g_eqB ?_
  | with_reducible refine g_neB ?_
  | with_reducible refine g_bits ?_
  | with_reducible refine g_bitsI ?_
  | with_reducible refine g_fld ?_
  | with_reducible refine g_tup ?_
  | with_reducible refine g_lst ?_
  | with_reducible refine g_gtup ?_
  | with_reducible refine g_make ?_
  | with_reducible refine g_lc ?_
  | with_reducible refine g_yesT ?_
  | with_reducible refine g_intI ?_
  | with_reducible refine g_intB ?_
  | with_reducible refine g_max2 ?_
  | with_reducible refine g_abs1 ?_
  | with_reducible refine g_for ?_
  | with_reducible refine g_iList ?_
  | with_reducible refine g_iTup ?_
  | with_reducible refine g_iRng1 ?_
  | with_reducible refine g_iEnum ?_
  | with_reducible refine g_slice ?_
  | with_reducible refine g_po0 ?_
  | with_reducible refine g_po1 ?_
  | with_reducible refine g_gsub ?_
  | with_reducible refine g_par ?_
  | with_reducible refine g_par2 ?_
  | with_reducible refine g_rfl ?_
  | with_reducible refine g_meth ?_
  | with_reducible refine g_gcons ?_
  | with_reducible refine g_gnil ?_
  | with_reducible refine g_gfld ?_
  | with_reducible refine g_sfld ?_
  | with_reducible refine g_drop ?_
  | with_reducible refine g_next ?_
  | with_reducible refine iteT ?_
  | with_reducible refine iteF ?_)
local macro_rules | `(tactic| walk_at "go") => `(tactic| (repeat walk_at "u"))

section
variable {P : Program} {w : World} {K : PySem.W.Frag} {mg : Str → Option Value} {base : Heap}
/-! is_plain -/
theorem sc_isplain : FnScope ["number"] ["number"] (defScope s_isplain) := ⟨rfl, rfl, rfl, by decide +kernel, rfl, by decide +kernel, by decide +kernel⟩
def sp_isplain (K : PySem.W.Frag) : Sp := fun vs H Q _ => ∃ x t, vs = [x] ∧ Kn K H x t ∧ Q (.bl (isI x)) H
theorem ok_isplain {f : Addr} {fd : FuncData} (F : FunD K "is_plain" "is_plain" (defArgs s_isplain) (defBody s_isplain) (defScope s_isplain) [] [] f fd) (B : Blt mg) : FnOk P w K mg base CX0 1 f fd ["number"] (sp_isplain K) := by
  refine F.ok sc_isplain (fun vs H Q E h => ?_) (fun cdv A outer s H vs Q E hr h => ?_)
  · obtain ⟨x, t, rfl, _⟩ := h; rfl
  · obtain ⟨x, t, rfl, hk, q⟩ := h
    refine ⟨_, PSs.nox (pss_one (ps_ret (pe_and (pe_callB call_isi (by rfl) B.isinstance (by decide +kernel) (pa_cons (pv 0) (pa_cons (pe_tyInt B) pa_nil))) (pe_one (pe_not (pe_callB call_isi (by rfl) B.isinstance (by decide +kernel) (pa_cons (pv 0) (pa_cons (pe_tyBool B) pa_nil)))))))), ?_⟩
    walk_at "go"
    refine g_isiInt hk ?_
    walk_at "go"
    cases x <;> first | exact iteF q | (refine iteT ?_; walk_at "go"; refine g_isiBool hk ?_; walk_at "go"; exact q)
/-! reduced -/
theorem sc_reduced : FnScope ["top", "power", "less"] ["top", "power"] (defScope s_reduced) := ⟨rfl, rfl, rfl, by decide +kernel, rfl, by decide +kernel, by decide +kernel⟩
/-- the lowest bit's place -/
def lowB (n : Int) : Int := ((Builtin.Int.intBits (Builtin.bitAnd n (0 - n)) : Nat) : Int) - 1
def redV : V → Int → V × Int
  | .int n, p => if n = 0 then (.int 0, 0) else (.int (n / 2 ^ (lowB n).toNat), p + lowB n)
  | v, _ => (v, 0)
def isIN (x : V) : Prop := x = .str "inf" ∨ x = .str "nan"
theorem inf_nan : ¬ (("inf" : Str) = "nan") := by decide +kernel
def sp_reduced : Sp := fun vs H Q _ => ∃ x p, vs = [x, .int p] ∧ (isIN x ∨ ∃ n, x = .int n ∧ (n ≠ 0 → 0 ≤ lowB n)) ∧ RetT H [(redV x p).1, .int (redV x p).2] Q
theorem ok_reduced {f : Addr} {fd : FuncData} (F : FunD K "reduced" "reduced" (defArgs s_reduced) (defBody s_reduced) (defScope s_reduced) [] [] f fd) (B : Blt mg) : FnOk P w K mg base CX0 1 f fd ["top", "power"] sp_reduced := by
  refine F.ok sc_reduced (fun vs H Q E h => ?_) (fun cdv A outer s H vs Q E hr h => ?_)
  · obtain ⟨x, t, rfl, _⟩ := h; rfl
  · obtain ⟨x, p, rfl, hx, q⟩ := h
    refine ⟨_, PSs.nox (pss_cons (ps_if (PW.pt (pw_or (pt_cmpR op_in_seq (pv 0) (pe_tupN (pa_cons pe_str (pa_cons pe_str pa_nil))) (by rfl)) (pw_or1 (pt_cmpR (op_oEq hr.units) (pv 0) pe_int (nomark _))))) (pss_one (ps_ret (pe_tupN (pa_cons (pv 0) (pa_cons pe_int pa_nil))))) pss_nil)
  (pss_cons (ps_set (i := 2) sc_reduced.nd rfl (Or.inl rfl) (pe_op op_oSub (pe_bits (pe_op op_oAnd (pv 0) (pe_op op_oSub pe_int (pv 0)))) pe_int))
  (pss_one (ps_ret (pe_tupN (pa_cons (pe_op op_oShr (pv 0) (pv 2)) (pa_cons (pe_op op_oAdd (pv 1) (pv 2)) pa_nil))))))), ?_⟩
    walk_at "go"
    refine g_new (sz rfl) fun a H1 na s1 ha _ => ?_
    rcases hx with (rfl | rfl) | ⟨n, rfl, hn⟩
    · refine ⟨a, _, rfl, .inr (SqT.of ha), rfl, rfl, ?_⟩
      walk_at "go"
      refine iteT ?_
      walk_at "go"
      refine g_new (sz rfl) fun b H2 nb s2 hb _ => ?_
      exact q _ _ (s1.free nb) (s1.trans s2) hb
    · refine ⟨a, _, rfl, .inr (SqT.of ha), rfl, rfl, ?_⟩
      walk_at "go"
      refine iteT ?_
      walk_at "go"
      refine g_new (sz rfl) fun b H2 nb s2 hb _ => ?_
      exact q _ _ (s1.free nb) (s1.trans s2) hb
    · refine ⟨a, _, rfl, .inr (SqT.of ha), rfl, rfl, ?_⟩
      walk_at "go"
      refine iteF ?_
      walk_at "go"
      refine g_ite (fun h0 => ?_) fun h0 => ?_
      · walk_at "go"
        refine g_new (sz rfl) fun b H2 nb s2 hb _ => ?_
        subst h0
        exact q _ _ (s1.free nb) (s1.trans s2) hb
      · walk_at "go"
        refine g_II (hn h0) ?_
        walk_at "go"
        refine g_new (sz rfl) fun b H2 nb s2 hb _ => ?_
        have e : redV (.int n) p = (.int (n / 2 ^ (lowB n).toNat), p + lowB n) := if_neg h0
        rw [e] at q
        exact q _ _ (s1.free nb) (s1.trans s2) hb
/-! fits -/
theorem sc_fits : FnScope ["top", "power"] ["top", "power"] (defScope s_fits) := ⟨rfl, rfl, rfl, by decide +kernel, rfl, by decide +kernel, by decide +kernel⟩
def fitsB (n p : Int) : Bool := (decide (n < 9007199254740992) && (decide (-1074 ≤ p) && decide (((Builtin.Int.intBits n : Nat) : Int) + p ≤ 1024))) || decide (n = 0)
def sp_fits : Sp := fun vs H Q _ => ∃ n p, vs = [.int n, .int p] ∧ Q (.bl (fitsB n p)) H
theorem ok_fits {f : Addr} {fd : FuncData} (F : FunD K "fits" "fits" (defArgs s_fits) (defBody s_fits) (defScope s_fits) [] [] f fd) (B : Blt mg) (i_ROOM : ∃ t, mg "ROOM" = some (.int 9007199254740992 t)) (i_LOWEST : ∃ t, mg "LOWEST" = some (.int (-1074) t)) (i_TOO_GREAT : ∃ t, mg "TOO_GREAT" = some (.int 1024 t)) :
    FnOk P w K mg base CX0 1 f fd ["top", "power"] sp_fits := by
  refine F.ok sc_fits (fun vs H Q E h => ?_) (fun cdv A outer s H vs Q E hr h => ?_)
  · obtain ⟨x, t, rfl, _⟩ := h; rfl
  · obtain ⟨n, p, rfl, q⟩ := h
    refine ⟨_, PSs.nox (pss_one (ps_ret (pe_or (pe_and (pe_cmpR op_oLt (pv 0) (pe_gint i_ROOM) (nomark _)) (pe_and (pe_cmpR op_oGe (pv 1) (pe_gint i_LOWEST) (nomark _)) (pe_one (pe_cmpR op_oLe (pe_op op_oAdd (pe_bits (pv 0)) (pv 1)) (pe_gint i_TOO_GREAT) (nomark _))))) (pe_one (pe_cmpR (op_oEq hr.units) (pv 0) pe_int (nomark _)))))), ?_⟩
    walk_at "go"
    unfold fitsB at q
    refine g_ite (fun h1 => ?_) fun h1 => ?_
    · walk_at "go"
      refine g_ite (fun h2 => ?_) fun h2 => ?_
      · walk_at "go"
        refine g_ite (fun h3 => ?_) fun h3 => ?_
        · simp only [h1, h2, h3, decide_true, Bool.and_self, Bool.true_or] at q
          exact q
        · walk_at "go"
          simp only [h1, h2, h3, decide_true, decide_false, Bool.and_false, Bool.and_self, Bool.false_or] at q
          exact q
      · walk_at "go"
        simp only [h1, h2, decide_true, decide_false, Bool.and_false, Bool.false_and, Bool.false_or] at q
        exact q
    · walk_at "go"
      simp only [h1, decide_false, Bool.false_and, Bool.false_or] at q
      exact q
/-! sign_of -/
theorem sc_signof : FnScope ["is_negative"] ["is_negative"] (defScope s_signof) := ⟨rfl, rfl, rfl, by decide +kernel, rfl, by decide +kernel, by decide +kernel⟩
def sgnB (b : Bool) : Int := if b then -1 else 1
def sp_signof : Sp := fun vs H Q _ => ∃ b, vs = [.bl b] ∧ Q (.int (sgnB b)) H
theorem ok_signof {f : Addr} {fd : FuncData} (F : FunD K "sign_of" "sign_of" (defArgs s_signof) (defBody s_signof) (defScope s_signof) [] [] f fd) : FnOk P w K mg base CX0 1 f fd ["is_negative"] sp_signof := by
  refine F.ok sc_signof (fun vs H Q E h => ?_) (fun cdv A outer s H vs Q E hr h => ?_)
  · obtain ⟨x, rfl, _⟩ := h; rfl
  · obtain ⟨b, rfl, q⟩ := h
    refine ⟨_, PSs.nox (pss_one (ps_ret (pe_ifExp (pt_val (pv 0)) (pe_un un_neg pe_int) pe_int))), ?_⟩
    walk_at "go"
    cases b
    · refine iteF ?_; walk_at "go"; exact q
    · refine iteT ?_; walk_at "go"; exact q
end
end Up

set_option Elab.async false
set_option linter.all false
set_option maxRecDepth 100000
set_option maxHeartbeats 4000000
namespace Up
open PySem
/-! ### numbers of bits, the lowest bit -/
def bitsN (n : Nat) : Nat := if n = 0 then 0 else n.log2 + 1
theorem intBits_nat (n : Nat) : Builtin.Int.intBits (n : Int) = bitsN n := by
  unfold Builtin.Int.intBits bitsN
  by_cases h : n = 0
  · subst h; rfl
  · rw [if_neg h, if_neg (by simpa using h)]
    simp
theorem intBits_neg (n : Int) : Builtin.Int.intBits n = bitsN n.natAbs := by
  unfold Builtin.Int.intBits bitsN
  by_cases h : n = 0
  · subst h; rfl
  · rw [if_neg (by simpa using h), if_neg (by simpa using h)]
theorem bits_lt (n : Nat) : n < 2 ^ bitsN n := by
  unfold bitsN
  by_cases h : n = 0
  · subst h; decide
  · rw [if_neg h]; exact Nat.lt_log2_self
theorem bits_ge {n : Nat} (h : n ≠ 0) : 2 ^ (bitsN n - 1) ≤ n := by
  unfold bitsN
  rw [if_neg h]
  exact Nat.log2_self_le h
theorem bits_le {n k : Nat} (h : n < 2 ^ k) : bitsN n ≤ k := by
  unfold bitsN
  by_cases h0 : n = 0
  · rw [if_pos h0]; exact Nat.zero_le _
  · rw [if_neg h0]
    exact (Nat.log2_lt h0).mpr h
theorem le_bits {n k : Nat} (h : 2 ^ k ≤ n) : k + 1 ≤ bitsN n := by
  rcases Nat.lt_or_ge k (bitsN n) with h1 | h1
  · exact h1
  · have h2 := bits_lt n
    have h3 : 2 ^ bitsN n ≤ 2 ^ k := Nat.pow_le_pow_right (by decide) h1
    omega
theorem bits_pow (k : Nat) : bitsN (2 ^ k) = k + 1 := by
  have h1 := le_bits (n := 2 ^ k) (k := k) (Nat.le_refl _)
  have h2 := bits_le (n := 2 ^ k) (k := k + 1) (Nat.pow_lt_pow_right (by decide) (Nat.lt_succ_self k))
  omega
theorem bits_pos {n : Nat} (h : n ≠ 0) : 1 ≤ bitsN n := by
  unfold bitsN; rw [if_neg h]; omega
def tz (n : Nat) : Nat := if h : n = 0 then 0 else if n % 2 = 1 then 0 else tz (n / 2) + 1
termination_by n
decreasing_by omega
theorem tz_odd {n : Nat} (h : n % 2 = 1) : tz n = 0 := by
  unfold tz
  rw [dif_neg (by omega), if_pos h]
theorem tz_even {n : Nat} (h0 : n ≠ 0) (h : n % 2 = 0) : tz n = tz (n / 2) + 1 := by
  rw [tz, dif_neg h0, if_neg (by omega)]
theorem land_two (a b : Nat) : a &&& b = 2 * ((a / 2) &&& (b / 2)) + (a % 2) * (b % 2) := by
  have h1 : (a &&& b) / 2 = (a / 2) &&& (b / 2) := Nat.and_div_two ..
  have h2 : (a &&& b) % 2 = (a % 2) * (b % 2) := by
    have e := Nat.and_mod_two_pow (a := a) (b := b) (n := 1)
    simp only [Nat.pow_one] at e
    rw [e]
    rcases Nat.mod_two_eq_zero_or_one a with ha | ha <;> rcases Nat.mod_two_eq_zero_or_one b with hb | hb <;> rw [ha, hb] <;> rfl
  omega
theorem land_pred : ∀ (n : Nat), n ≠ 0 → n &&& (n - 1) = n - 2 ^ tz n ∧ 2 ^ tz n ≤ n ∧ n / 2 ^ tz n % 2 = 1 ∧ n / 2 ^ tz n * 2 ^ tz n = n := by
  intro n
  induction n using Nat.strongRecOn with
  | _ n ih =>
    intro h0
    rcases Nat.mod_two_eq_zero_or_one n with he | ho
    · obtain ⟨i1, i2, i3, i4⟩ := ih (n / 2) (by omega) (by omega)
      rw [tz_even h0 he, Nat.pow_succ]
      have e2 : (n - 1) / 2 = n / 2 - 1 := by omega
      have ep : n / (2 ^ tz (n / 2) * 2) = n / 2 / 2 ^ tz (n / 2) := by rw [Nat.mul_comm, Nat.div_div_eq_div_mul]
      refine ⟨?_, by omega, by rw [ep]; exact i3, ?_⟩
      · rw [land_two n (n - 1), e2, i1, he, Nat.zero_mul]
        omega
      · rw [ep, ← Nat.mul_assoc, i4]
        omega
    · rw [tz_odd ho]
      refine ⟨?_, by omega, by simpa using ho, by simp⟩
      rw [land_two n (n - 1)]
      have e2 : (n - 1) / 2 = n / 2 := by omega
      have e3 : (n - 1) % 2 = 0 := by omega
      rw [e2, e3, Nat.and_self, Nat.mul_zero]
      omega
theorem low_bit {n : Nat} (h : n ≠ 0) : Builtin.bitAnd (n : Int) (0 - (n : Int)) = ((2 ^ tz n : Nat) : Int) := by
  rw [PyProof.Rows.bitAnd_pn (by omega) (by omega)]
  have e : (Builtin.bitNot (0 - (n : Int))).toNat = n - 1 := by unfold Builtin.bitNot; omega
  obtain ⟨i1, i2, _⟩ := land_pred n h
  rw [e, Int.toNat_natCast, i1]
  omega
theorem low_bits {n : Nat} (h : n ≠ 0) : ((Builtin.Int.intBits (Builtin.bitAnd (n : Int) (0 - (n : Int))) : Nat) : Int) - 1 = (tz n : Int) := by
  rw [low_bit h, intBits_nat, bits_pow]
  omega
theorem bits_shift {n : Nat} (h : n ≠ 0) : bitsN (n / 2 ^ tz n) + tz n = bitsN n := by
  obtain ⟨_, _, i3, i4⟩ := land_pred n h
  have hm : n / 2 ^ tz n ≠ 0 := by intro z; rw [z] at i3; omega
  generalize n / 2 ^ tz n = m at *
  generalize tz n = v at *
  have h1 := bits_lt m
  have h2 := bits_ge hm
  have h3 := bits_pos hm
  have a : bitsN n ≤ bitsN m + v := bits_le (by
    rw [← i4, Nat.pow_add]
    exact Nat.mul_lt_mul_of_pos_right h1 (Nat.two_pow_pos _))
  have b : bitsN m - 1 + v + 1 ≤ bitsN n := le_bits (by
    rw [← i4, Nat.pow_add]
    exact Nat.mul_le_mul_right _ h2)
  omega
end Up

set_option Elab.async false
set_option linter.all false
set_option maxRecDepth 100000
set_option maxHeartbeats 4000000
namespace Up
open PySem PySem.Spec PyProof.Rows L2
local macro_rules | `(tactic| walk_at "u") => `(tactic| first
  | with_reducible refine g_seq ?_
  | with_reducible refine g_asg ?_
  | with_reducible refine g_op ?_
  | ((with_reducible show tVar _ _ _ _); apply g_var; exact rfl)
  | with_reducible refine g_c ?_
  | with_reducible refine g_name ?_
  | with_reducible refine g_ifs ?_
  | with_reducible refine g_tt ?_
  | with_reducible refine g_tB ?_
  | with_reducible refine g_bl ?_
  | with_reducible refine g_ret ?_
  | with_reducible refine g_cb ?_
  | with_reducible refine g_cons ?_
  | with_reducible refine g_nil ?_
  | with_reducible refine g_call ?_
  | with_reducible refine g_and ?_
  | with_reducible refine g_or ?_
  | with_reducible refine g_not ?_
  | with_reducible refine g_andV ?_
  | with_reducible refine g_orV ?_
  | with_reducible refine g_notV ?_
  | with_reducible refine g_if ?_
  | with_reducible refine g_un ?_
  | with_reducible refine g_neg ?_
  | with_reducible refine g_addI ?_
  | with_reducible refine g_subI ?_
  | with_reducible refine g_subB ?_
  | with_reducible refine g_I0 ?_
  | with_reducible refine g_cmpI ?_
  | with_reducible refine g_eqI ?_
  | with_reducible refine g_neI ?_
  | with_reducible refine g_eqS ?_
  | with_reducible refine g_neS ?_
  | with_reducible refine g_eqB ?_
  | with_reducible refine g_neB ?_
  | with_reducible refine g_bits ?_
  | with_reducible refine g_bitsI ?_
  | with_reducible refine g_fld ?_
  | with_reducible refine g_tup ?_
  | with_reducible refine g_lst ?_
  | with_reducible refine g_gtup ?_
  | with_reducible refine g_make ?_
  | with_reducible refine g_lc ?_
  | with_reducible refine g_yesT ?_
  | with_reducible refine g_intI ?_
  | with_reducible refine g_intB ?_
  | with_reducible refine g_max2 ?_
  | with_reducible refine g_abs1 ?_
  | with_reducible refine g_for ?_
  | with_reducible refine g_iList ?_
  | with_reducible refine g_iTup ?_
  | with_reducible refine g_iRng1 ?_
  | with_reducible refine g_iEnum ?_
  | with_reducible refine g_slice ?_
  | with_reducible refine g_po0 ?_
  | with_reducible refine g_po1 ?_
  | with_reducible refine g_gsub ?_
  | with_reducible refine g_par ?_
  | with_reducible refine g_par2 ?_
  | with_reducible refine g_rfl ?_
  | with_reducible refine g_meth ?_
  | with_reducible refine g_gcons ?_
  | with_reducible refine g_gnil ?_
  | with_reducible refine g_gfld ?_
  | with_reducible refine g_sfld ?_
  | with_reducible refine g_drop ?_
  | with_reducible refine g_next ?_
  | with_reducible refine iteT ?_
  | with_reducible refine iteF ?_)
local macro_rules | `(tactic| walk_at "go") => `(tactic| (repeat walk_at "u"))

/-! ### Float: what its instances are -/
def flF (s : Int) (t : V) (p : Int) : List (Str × V) := [("sign", .int s), ("top", t), ("power", .int p)]
theorem fl_put (s : Int) (t : V) (p : Int) : putF "power" (.int p) (putF "top" t (putF "sign" (.int s) [])) = flF s t p := rfl
theorem fl_sign (s : Int) (t : V) (p : Int) : (flF s t p).lookup ("sign" : Str) = some (.int s) := rfl
theorem fl_top (s : Int) (t : V) (p : Int) : (flF s t p).lookup ("top" : Str) = some t := rfl
theorem fl_power (s : Int) (t : V) (p : Int) : (flF s t p).lookup ("power" : Str) = some (.int p) := rfl
def FlAt (C : Addr) (H : Hp) (a : Addr) (s : Int) (t : V) (p : Int) : Prop := ∃ dx, H a = some (.ins C dx (flF s t p))
theorem FlAt.same {C : Addr} {H H' : Hp} {a : Addr} {s : Int} {t : V} {p : Int} (h : FlAt C H a s t p) (e : Same H H') : FlAt C H' a s t p := by
  obtain ⟨dx, h⟩ := h
  exact ⟨dx, e _ _ h⟩
/-- a right float's parts -/
def FinOk (n p : Int) : Prop := 0 ≤ n ∧ n < 2 ^ 53 ∧ -1074 ≤ p ∧ ((Builtin.Int.intBits n : Nat) : Int) + p ≤ 1024 ∧ (n = 0 → p = 0) ∧ (n ≠ 0 → n % 2 = 1)
def FlOk (s : Int) (t : V) (p : Int) : Prop := (s = 1 ∨ s = -1) ∧ ((t = .str "nan" ∧ s = 1 ∧ p = 0) ∨ (t = .str "inf" ∧ p = 0) ∨ ∃ n, t = .int n ∧ FinOk n p)
/-- what the text says of the class Float, at C -/
structure FlC (K : PySem.W.Frag) (mg : Str → Option Value) (C : Addr) : Prop where
  own : OwnC K C
  nS : NoAttr K C "sign"
  nT : NoAttr K C "top"
  nP : NoAttr K C "power"
  mg : mg "Float" = some (.ref C)
  yes : PySem.W.kitOne K (.ref C) (.ref C) = some true
  fi : PySem.W.kitOne K (.type "int") (.ref C) = some false
  fb : PySem.W.kitOne K (.type "bool") (.ref C) = some false
  fs : PySem.W.kitOne K (.type "str") (.ref C) = some false
  fn : PySem.W.kitOne K (.type "NoneType") (.ref C) = some false
  fl : PySem.W.kitOne K (.type "list") (.ref C) = some false
  ft : PySem.W.kitOne K (.type "tuple") (.ref C) = some false
  fd : PySem.W.kitOne K (.type "dict") (.ref C) = some false
section
variable {P : Program} {w : World} {K : PySem.W.Frag} {mg : Str → Option Value} {base : Heap} {C : Addr}
/-- what Float(s, top, p) asks, and the parts that it gets -/
def MkOk (s : Int) (top : V) (p : Int) : Prop := (s = 1 ∨ s = -1) ∧ ((top = .str "nan" ∧ s = 1 ∧ p = 0) ∨ (top = .str "inf" ∧ p = 0) ∨ ∃ n : Nat, top = .int n ∧ ∃ m, (redV top p).1 = .int m ∧ fitsB m (redV top p).2 = true)
theorem sc_Float_init : FnScope ["self", "sign", "top", "power"] ["self", "sign", "top", "power"] (defScope s_Float_init) := ⟨rfl, rfl, rfl, by decide +kernel, rfl, by decide +kernel, by decide +kernel⟩
def sp_Finit (C : Addr) : Sp := fun vs H Q _ => ∃ a dx s top p, vs = [.ref a, .int s, top, .int p] ∧ H a = some (.ins C dx []) ∧ MkOk s top p ∧
  ∀ H', (∀ b o, b ≠ a → H b = some o → H' b = some o) → H' a = some (.ins C dx (flF s (redV top p).1 (redV top p).2)) → Q .non H'
theorem lowB_nat {n : Nat} (h : n ≠ 0) : lowB (n : Int) = (tz n : Int) := low_bits h
theorem ok_Finit {f : Addr} {fd : FuncData} (F : FunD K "__init__" "Float.__init__" (defArgs s_Float_init) (defBody s_Float_init) (defScope s_Float_init) [] [] f fd) (B : Blt mg) (T : FlC K mg C) (c_isplain : Fn P w K mg base CX0 1 "is_plain" ["number"] [] (sp_isplain K)) (c_reduced : Fn P w K mg base CX0 1 "reduced" ["top", "power"] [] sp_reduced)
    (c_fits : Fn P w K mg base CX0 1 "fits" ["top", "power"] [] sp_fits) : FnOk P w K mg base CX0 2 f fd ["self", "sign", "top", "power"] (sp_Finit C) := by
  refine F.ok sc_Float_init (fun vs H Q E h => ?_) (fun cdv A outer s H vs Q E hr h => ?_)
  · obtain ⟨a, dx, s, top, p, rfl, _⟩ := h; rfl
  · obtain ⟨a, dx, sg, top, p, rfl, ha, ⟨hs, hk⟩, q⟩ := h
    refine ⟨_, PSs.nox (pss_cons (ps_if (PW.pt (pw_or (pt_not (pt_val (pe_fn c_isplain (hr.mono (by first | decide | omega)) pass0 (pa_cons (pv 1) pa_nil)))) (pw_or1 (pt_cmpR op_notIn_seq (pv 1) (pe_tupN (pa_cons pe_int (pa_cons (pe_un un_neg pe_int) pa_nil))) (by rfl))))) (pss_one ps_never) pss_nil)
  (C8.pss_cut (ps_if (PW.pt (pw_and (pt_val (pe_callB call_isi (by rfl) B.isinstance (by decide +kernel) (pa_cons (pv 2) (pa_cons (pe_tyStr B) pa_nil)))) (pw_and1 (pt_cmpR op_in_seq (pv 2) (pe_tupN (pa_cons pe_str (pa_cons pe_str pa_nil))) (by rfl))))) (pss_cons (ps_if (PW.pt (pw_and (pt_cmpR (op_oEq hr.units) (pv 2) pe_str (nomark _)) (pw_and1 (pt_cmpR (op_oEq hr.units) (pv 1) (pe_un un_neg pe_int) (nomark _))))) (pss_one ps_never) pss_nil)
  (pss_one (ps_if (PW.pt (pw_or (pt_not (pt_val (pe_fn c_isplain (hr.mono (by first | decide | omega)) pass0 (pa_cons (pv 3) pa_nil)))) (pw_or1 (pt_cmpR (op_oNe hr.units) (pv 3) pe_int (nomark _))))) (pss_one ps_never) pss_nil))) (pss_one (ps_if (PW.pt (pw_or (pt_not (pt_val (pe_fn c_isplain (hr.mono (by first | decide | omega)) pass0 (pa_cons (pv 2) pa_nil)))) (pw_or1 (pt_cmpR op_oLt (pv 2) pe_int (nomark _))))) (pss_one ps_never) (pss_one (ps_if (pt_not (pt_val (pe_fn c_isplain (hr.mono (by first | decide | omega)) pass0 (pa_cons (pv 3) pa_nil)))) (pss_one ps_never) pss_nil)))))
  (pss_cons (ps_fld (pv 0) (pv 1) rfl)
  (pss_cons (ps_asg (pe_fn c_reduced (hr.mono (by first | decide | omega)) pass0 (pa_cons (pv 2) (pa_cons (pv 3) pa_nil))) (pg_tup rfl (pgs_cons (pg_fld (pv 0)) (pgs_cons (pg_fld (pv 0)) pgs_nil))))
  (pss_one (ps_if (PW.pt (pw_and (pt_cmpR op_notIn_seq (pe_fld (pv 0) rfl) (pe_tupN (pa_cons pe_str (pa_cons pe_str pa_nil))) (by rfl)) (pw_and1 (pt_not (pt_val (pe_fn c_fits (hr.mono (by first | decide | omega)) pass0 (pa_cons (pe_fld (pv 0) rfl) (pa_cons (pe_fld (pv 0) rfl) pa_nil)))))))) (pss_one ps_never) pss_nil)))))), ?_⟩
    walk_at "go"
    refine ⟨_, _, rfl, kn_int, ?_⟩
    walk_at "go"
    refine iteF ?_
    walk_at "go"
    refine g_new (sz rfl) fun a1 H1 na1 s1 ha1 _ => ?_
    refine ⟨a1, _, rfl, .inr (SqT.of ha1), rfl, rfl, ?_⟩
    walk_at "go"
    have hin : (if true = true then !inV (V.int sg) [V.int 1, V.int (-1)] else inV (V.int sg) [V.int 1, V.int (-1)]) = false := by
      rcases hs with rfl | rfl <;> rfl
    rw [hin]
    walk_at "go"
    refine g_cut (fun σ' H2 => σ' = [some (.ref a), some (.int sg), some top, some (.int p)] ∧ Same H1 H2 ∧ (isIN top ∨ ∃ n : Int, top = .int n ∧ (n ≠ 0 → 0 ≤ lowB n)) ∧ (isIN top ∧ (redV top p).1 = top ∨ ∃ m, (redV top p).1 = .int m ∧ fitsB m (redV top p).2 = true)) ?_ ?_
    · walk_at "go"
      rcases hk with ⟨rfl, rfl, rfl⟩ | ⟨rfl, rfl⟩ | ⟨n, rfl, m, hm, hf⟩
      · refine g_isiStr kn_str ?_
        walk_at "go"
        refine iteT ?_
        walk_at "go"
        refine g_new (sz rfl) fun a2 H2 na2 s2 ha2 _ => ?_
        refine ⟨a2, _, rfl, .inr (SqT.of ha2), rfl, rfl, ?_⟩
        walk_at "go"
        refine iteT ?_
        walk_at "go"
        refine g_yes rfl ?_
        walk_at "go"
        refine g_no (by decide) ?_
        walk_at "go"
        refine ⟨_, _, rfl, kn_int, ?_⟩
        walk_at "go"
        refine iteF ?_
        walk_at "go"
        refine iteF ?_
        walk_at "go"
        exact ⟨rfl, s2, .inl (.inr rfl), .inl ⟨.inr rfl, rfl⟩⟩
      · refine g_isiStr kn_str ?_
        walk_at "go"
        refine iteT ?_
        walk_at "go"
        refine g_new (sz rfl) fun a2 H2 na2 s2 ha2 _ => ?_
        refine ⟨a2, _, rfl, .inr (SqT.of ha2), rfl, rfl, ?_⟩
        walk_at "go"
        refine iteT ?_
        walk_at "go"
        refine g_no (by decide +kernel) ?_
        walk_at "go"
        refine ⟨_, _, rfl, kn_int, ?_⟩
        walk_at "go"
        refine iteF ?_
        walk_at "go"
        refine iteF ?_
        walk_at "go"
        exact ⟨rfl, s2, .inl (.inl rfl), .inl ⟨.inl rfl, rfl⟩⟩
      · refine g_isiStr kn_int ?_
        walk_at "go"
        refine iteF ?_
        walk_at "go"
        refine ⟨_, _, rfl, kn_int, ?_⟩
        walk_at "go"
        refine iteF ?_
        walk_at "go"
        refine g_no (by omega) ?_
        walk_at "go"
        refine ⟨_, _, rfl, kn_int, ?_⟩
        walk_at "go"
        refine iteF ?_
        walk_at "go"
        refine ⟨rfl, Same.refl _, .inr ⟨_, rfl, fun h => ?_⟩, .inr ⟨m, hm, hf⟩⟩
        rw [lowB_nat (by omega)]
        omega
    · rintro σ' H2 ⟨rfl, s2, hx, hy⟩
      have h2 := s2 _ _ (s1 _ _ ha)
      walk_at "go"
      refine ⟨a, C, dx, _, rfl, h2, T.own.cl, T.nS, Nat.le_of_ble_eq_true rfl, ?_⟩
      walk_at "go"
      refine ⟨_, _, rfl, hx, fun H3 a3 na3 s3 ha3 => ?_⟩
      have h3 : H3 a = some (.ins C dx (putF "sign" (.int sg) [])) := s3 _ _ upd_same
      have n3 : a3 ≠ a := fun z => by rw [z, upd_same] at na3; cases na3
      walk_at "go"
      refine ⟨a3, _, rfl, SqT.of ha3, rfl, ?_⟩
      walk_at "go"
      refine ⟨a, C, dx, _, rfl, h3, T.own.cl, T.nT, Nat.le_of_ble_eq_true rfl, ?_⟩
      walk_at "go"
      refine ⟨a, C, dx, _, rfl, upd_same, T.own.cl, T.nP, Nat.le_of_ble_eq_true rfl, ?_⟩
      walk_at "go"
      generalize e4 : upd (upd H3 a (.ins C dx (putF "top" (redV top p).1 (putF "sign" (.int sg) [])))) a (.ins C dx (putF "power" (.int (redV top p).2) (putF "top" (redV top p).1 (putF "sign" (.int sg) [])))) = H4
      have h4 : H4 a = some (.ins C dx (flF sg (redV top p).1 (redV top p).2)) := by rw [← e4]; exact upd_same
      have k4 : ∀ b o, b ≠ a → H b = some o → H4 b = some o := fun b o hb e => by
        rw [← e4, upd_ne hb, upd_ne hb]
        exact s3 _ _ (by rw [upd_ne hb]; exact s2 _ _ (s1 _ _ e))
      refine ⟨a, C, dx, _, _, rfl, h4, T.own.cl, T.nT, fl_top _ _ _, ?_⟩
      walk_at "go"
      refine g_new (sz rfl) fun a5 H5 na5 s5 ha5 _ => ?_
      have fin : ∀ H6, Same H5 H6 → Q .non H6 := fun H6 s6 => q H6 (fun b o hb e => s6 _ _ (s5 _ _ (k4 b o hb e))) (s6 _ _ (s5 _ _ h4))
      rcases hy with ⟨hn, hr⟩ | ⟨m, hm, hf⟩
      · rw [hr]
        refine ⟨a5, _, rfl, .inr (SqT.of ha5), by rcases hn with rfl | rfl <;> rfl, rfl, ?_⟩
        walk_at "go"
        have e : (if true = true then !inV top [V.str "inf", V.str "nan"] else inV top [V.str "inf", V.str "nan"]) = false := by
          rcases hn with rfl | rfl <;> decide +kernel
        rw [e]
        walk_at "go"
        exact fin _ (Same.refl _)
      · rw [hm]
        refine ⟨a5, _, rfl, .inr (SqT.of ha5), rfl, rfl, ?_⟩
        walk_at "go"
        have e : (if true = true then !inV (.int m) [V.str "inf", V.str "nan"] else inV (.int m) [V.str "inf", V.str "nan"]) = true := rfl
        rw [e]
        walk_at "go"
        refine ⟨a, C, dx, _, _, rfl, s5 _ _ h4, T.own.cl, T.nT, fl_top _ _ _, ?_⟩
        walk_at "go"
        refine ⟨a, C, dx, _, _, rfl, s5 _ _ h4, T.own.cl, T.nP, fl_power _ _ _, ?_⟩
        walk_at "go"
        refine ⟨m, _, by rw [hm]; rfl, ?_⟩
        walk_at "go"
        rw [hf]
        walk_at "go"
        exact fin _ (Same.refl _)
end
end Up

set_option Elab.async false
set_option linter.all false
set_option maxRecDepth 100000
set_option maxHeartbeats 4000000
namespace Up
open PySem
/-! ### the nearest float to a fraction: power, scaled parts, rounding -/
def nrP (t b : Nat) : Int := if (-1074 : Int) > (bitsN t : Int) - (bitsN b : Int) - 53 then -1074 else (bitsN t : Int) - (bitsN b : Int) - 53
def nrT (t : Nat) (p : Int) : Nat := if p < 0 then t * 2 ^ (0 - p).toNat else t
def nrB (b : Nat) (p : Int) : Nat := if p < 0 then b else b * 2 ^ p.toNat
def nrBig (t b : Nat) : Bool := decide (9007199254740992 ≤ nrT t (nrP t b) / nrB b (nrP t b))
def nrB2 (t b : Nat) : Nat := if nrBig t b then nrB b (nrP t b) * 2 else nrB b (nrP t b)
def nrP2 (t b : Nat) : Int := if nrBig t b then nrP t b + 1 else nrP t b
def nrQ (t b : Nat) : Nat := nrT t (nrP t b) / nrB2 t b
def nrR (t b : Nat) : Nat := nrT t (nrP t b) % nrB2 t b
def nrUp (t b : Nat) : Bool := decide (nrB2 t b < 2 * nrR t b) || (decide (2 * nrR t b = nrB2 t b) && decide (nrQ t b % 2 = 1))
def nrW (t b : Nat) : Nat := if nrUp t b then nrQ t b + 1 else nrQ t b
theorem nrP_lo (t b : Nat) : -1074 ≤ nrP t b := by unfold nrP; split <;> omega
theorem nrP_ge (t b : Nat) : (bitsN t : Int) - (bitsN b : Int) - 53 ≤ nrP t b := by unfold nrP; split <;> omega
theorem nrP_hi {t b : Nat} : nrP t b ≤ bitsN t := by unfold nrP; split <;> omega
theorem nrB_pos {b : Nat} (hb : 0 < b) (p : Int) : 0 < nrB b p := by
  unfold nrB; split
  · exact hb
  · exact Nat.mul_pos hb (Nat.two_pow_pos _)
theorem nrB2_pos {t b : Nat} (hb : 0 < b) : 0 < nrB2 t b := by
  unfold nrB2; split
  · exact Nat.mul_pos (nrB_pos hb _) (by decide)
  · exact nrB_pos hb _
/-- the scaled quotient is below 2 ^ 54 -/
theorem nr_lt54 {t b : Nat} (hb : 0 < b) : nrT t (nrP t b) / nrB b (nrP t b) < 2 ^ 54 := by
  rw [Nat.div_lt_iff_lt_mul (nrB_pos hb _)]
  have h1 := bits_lt t
  have h2 := bits_ge (n := b) (by omega)
  have h3 := bits_pos (n := b) (by omega)
  have h4 := nrP_ge t b
  unfold nrT nrB
  by_cases hp : nrP t b < 0
  · rw [if_pos hp, if_pos hp]
    have e1 : t * 2 ^ (0 - nrP t b).toNat < 2 ^ (bitsN t) * 2 ^ (0 - nrP t b).toNat := Nat.mul_lt_mul_of_pos_right h1 (Nat.two_pow_pos _)
    rw [← Nat.pow_add] at e1
    have e2 : 2 ^ (bitsN t + (0 - nrP t b).toNat) ≤ 2 ^ (54 + (bitsN b - 1)) := Nat.pow_le_pow_right (by decide) (by omega)
    rw [Nat.pow_add 2 54] at e2
    have e3 : 2 ^ 54 * 2 ^ (bitsN b - 1) ≤ 2 ^ 54 * b := Nat.mul_le_mul_left _ h2
    omega
  · rw [if_neg hp, if_neg hp]
    have e2 : 2 ^ bitsN t ≤ 2 ^ (54 + ((bitsN b - 1) + (nrP t b).toNat)) := Nat.pow_le_pow_right (by decide) (by omega)
    rw [Nat.pow_add 2 54, Nat.pow_add 2 (bitsN b - 1)] at e2
    have e3 : 2 ^ (bitsN b - 1) * 2 ^ (nrP t b).toNat ≤ b * 2 ^ (nrP t b).toNat := Nat.mul_le_mul_right _ h2
    have e4 : 2 ^ 54 * (2 ^ (bitsN b - 1) * 2 ^ (nrP t b).toNat) ≤ 2 ^ 54 * (b * 2 ^ (nrP t b).toNat) := Nat.mul_le_mul_left _ e3
    omega
theorem nrQ_lt {t b : Nat} (hb : 0 < b) : nrQ t b < 2 ^ 53 := by
  have h := nr_lt54 (t := t) hb
  unfold nrQ nrB2
  by_cases hg : nrBig t b = true
  · rw [if_pos hg, ← Nat.div_div_eq_div_mul]
    omega
  · rw [if_neg hg]
    have h2 : ¬ 9007199254740992 ≤ nrT t (nrP t b) / nrB b (nrP t b) := fun z => hg (decide_eq_true z)
    omega
theorem nrW_le {t b : Nat} (hb : 0 < b) : nrW t b ≤ 2 ^ 53 := by
  have h := nrQ_lt (t := t) hb
  unfold nrW; split <;> omega
theorem nrP2_lo (t b : Nat) : -1074 ≤ nrP2 t b := by
  have := nrP_lo t b
  unfold nrP2; split <;> omega
theorem nrB2_bits {t b m : Nat} (h1 : bitsN t ≤ m) (h2 : bitsN b ≤ m) (hb : 0 < b) : nrB2 t b < 2 ^ (m + 1) := by
  have h3 := bits_lt b
  have h4 := bits_pos (n := b) (by omega)
  have hB : nrB b (nrP t b) < 2 ^ m := by
    unfold nrB
    by_cases hp : nrP t b < 0
    · rw [if_pos hp]
      exact Nat.lt_of_lt_of_le h3 (Nat.pow_le_pow_right (by decide) h2)
    · rw [if_neg hp]
      have hx : nrP t b = (bitsN t : Int) - (bitsN b : Int) - 53 := by
        have hp' := hp
        unfold nrP at hp' ⊢
        split at hp' <;> rename_i hc
        · omega
        · rw [if_neg hc]
      have e1 : b * 2 ^ (nrP t b).toNat < 2 ^ bitsN b * 2 ^ (nrP t b).toNat := Nat.mul_lt_mul_of_pos_right h3 (Nat.two_pow_pos _)
      rw [← Nat.pow_add] at e1
      exact Nat.lt_of_lt_of_le e1 (Nat.pow_le_pow_right (by decide) (by omega))
  unfold nrB2
  rw [Nat.pow_succ]
  split <;> omega
end Up

set_option Elab.async false
set_option linter.all false
set_option maxRecDepth 100000
set_option maxHeartbeats 4000000
set_option exponentiation.threshold 200000
namespace Up
open PySem PySem.Spec PyProof.Rows L2
local macro_rules | `(tactic| walk_at "u") => `(tactic| first
  | with_reducible refine g_seq ?_
  | with_reducible refine g_asg ?_
  | with_reducible refine g_op ?_
  | ((with_reducible show tVar _ _ _ _); apply g_var; exact rfl)
  | with_reducible refine g_c ?_
  | with_reducible refine g_name ?_
  | with_reducible refine g_ifs ?_
  | with_reducible refine g_tt ?_
  | with_reducible refine g_tB ?_
  | with_reducible refine g_bl ?_
  | with_reducible refine g_ret ?_
  | with_reducible refine g_cb ?_
  | with_reducible refine g_cons ?_
  | with_reducible refine g_nil ?_
  | with_reducible refine g_call ?_
  | with_reducible refine g_and ?_
  | with_reducible refine g_or ?_
  | with_reducible refine g_not ?_
  | with_reducible refine g_andV ?_
  | with_reducible refine g_orV ?_
  | with_reducible refine g_notV ?_
  | with_reducible refine g_if ?_
  | with_reducible refine g_un ?_
  | with_reducible refine g_neg ?_
  | with_reducible refine g_addI ?_
  | with_reducible refine g_subI ?_
  | with_reducible refine g_subB ?_
  | with_reducible refine g_I0 ?_
  | with_reducible refine g_cmpI ?_
  | with_reducible refine g_eqI ?_
  | with_reducible refine g_neI ?_
  | with_reducible refine g_eqS ?_
  | with_reducible refine g_neS ?_
  | with_reducible refine g_eqB ?_
  | with_reducible refine g_neB ?_
  | with_reducible refine g_bits ?_
  | with_reducible refine g_bitsI ?_
  | with_reducible refine g_fld ?_
  | with_reducible refine g_tup ?_
  | with_reducible refine g_lst ?_
  | with_reducible refine g_gtup ?_
  | with_reducible refine g_make ?_
  | with_reducible refine g_lc ?_
  | with_reducible refine g_yesT ?_
  | with_reducible refine g_intI ?_
  | with_reducible refine g_intB ?_
  | with_reducible refine g_max2 ?_
  | with_reducible refine g_abs1 ?_
  | with_reducible refine g_for ?_
  | with_reducible refine g_iList ?_
  | with_reducible refine g_iTup ?_
  | with_reducible refine g_iRng1 ?_
  | with_reducible refine g_iEnum ?_
  | with_reducible refine g_slice ?_
  | with_reducible refine g_po0 ?_
  | with_reducible refine g_po1 ?_
  | with_reducible refine g_gsub ?_
  | with_reducible refine g_par ?_
  | with_reducible refine g_par2 ?_
  | with_reducible refine g_rfl ?_
  | with_reducible refine g_meth ?_
  | with_reducible refine g_gcons ?_
  | with_reducible refine g_gnil ?_
  | with_reducible refine g_gfld ?_
  | with_reducible refine g_sfld ?_
  | with_reducible refine g_drop ?_
  | with_reducible refine g_next ?_
  | with_reducible refine iteT ?_
  | with_reducible refine iteF ?_)
local macro_rules | `(tactic| walk_at "go") => `(tactic| (repeat walk_at "u"))

/-! ### parts of a float that was made -/
theorem red_nat {n : Nat} (h : n ≠ 0) (p : Int) : redV (.int n) p = (.int ((n / 2 ^ tz n : Nat) : Int), p + (tz n : Int)) := by
  have e : redV (.int n) p = (.int ((n : Int) / 2 ^ (lowB n).toNat), p + lowB n) := if_neg (by omega)
  rw [e, lowB_nat h]
  simp
theorem red_zero (p : Int) : redV (.int 0) p = (.int 0, 0) := rfl
theorem fits_of {n : Nat} {p : Int} (h1 : n ≤ 2 ^ 53) (h2 : -1074 ≤ p) (h3 : (bitsN n : Int) + p ≤ 1024) : ∃ m, (redV (.int n) p).1 = .int m ∧ fitsB m (redV (.int n) p).2 = true := by
  by_cases h0 : n = 0
  · subst h0
    exact ⟨0, rfl, by show fitsB 0 0 = true; decide⟩
  · rw [red_nat h0]
    refine ⟨_, rfl, ?_⟩
    obtain ⟨_, i2, i3, i4⟩ := land_pred n h0
    have hb := bits_shift h0
    have hle : n / 2 ^ tz n ≤ n := Nat.div_le_self _ _
    unfold fitsB
    rw [intBits_nat]
    have a1 : ((n / 2 ^ tz n : Nat) : Int) < 9007199254740992 := by
      have : n / 2 ^ tz n ≠ 2 ^ 53 := by intro z; rw [z] at i3; exact absurd i3 (by decide)
      omega
    have a2 : -1074 ≤ p + (tz n : Int) := by omega
    have a3 : ((bitsN (n / 2 ^ tz n) : Nat) : Int) + (p + (tz n : Int)) ≤ 1024 := by omega
    rw [decide_eq_true a1, decide_eq_true a2, decide_eq_true a3]
    rfl
theorem mk_flok {s : Int} {top : V} {p : Int} (h : MkOk s top p) : FlOk s (redV top p).1 (redV top p).2 := by
  obtain ⟨hs, h⟩ := h
  refine ⟨hs, ?_⟩
  rcases h with ⟨rfl, h1, rfl⟩ | ⟨rfl, rfl⟩ | ⟨n, rfl, m, hm, hf⟩
  · exact .inl ⟨rfl, h1, rfl⟩
  · exact .inr (.inl ⟨rfl, rfl⟩)
  · refine .inr (.inr ⟨m, hm, ?_⟩)
    by_cases h0 : n = 0
    · subst h0
      have e : m = 0 := by
        have : (V.int 0) = V.int m := hm
        injection this with z
        exact z.symm
      subst e
      show FinOk 0 0
      exact ⟨by decide, by decide, by decide, by decide, fun _ => rfl, fun z => absurd rfl z⟩
    · rw [red_nat h0] at hm hf ⊢
      obtain ⟨_, i2, i3, i4⟩ := land_pred n h0
      have e : ((n / 2 ^ tz n : Nat) : Int) = m := by injection hm
      have hne : m ≠ 0 := by
        intro z
        rw [z] at e
        have : n / 2 ^ tz n = 0 := by exact_mod_cast e
        rw [this] at i3
        exact absurd i3 (by decide)
      unfold fitsB at hf
      simp only [decide_eq_false hne, Bool.or_false, Bool.and_eq_true, decide_eq_true_eq] at hf
      exact ⟨e ▸ Int.natCast_nonneg _, hf.1, hf.2.1, hf.2.2, fun z => absurd z hne, fun _ => by rw [← e]; omega⟩
theorem mk_of_flok {s : Int} {n : Nat} {p : Int} (hs : s = 1 ∨ s = -1) (h1 : n ≤ 2 ^ 53) (h2 : -1074 ≤ p) (h3 : (bitsN n : Int) + p ≤ 1024) : MkOk s (.int n) p := ⟨hs, .inr (.inr ⟨n, rfl, fits_of h1 h2 h3⟩)⟩
/-! ### numbers as values -/
inductive Nm where
  | i (n : Int)
  | f (s : Int) (t : V) (p : Int)
def NumAt (C : Addr) (H : Hp) (v : V) : Nm → Prop
  | .i n => v = .int n
  | .f s t p => ∃ a, v = .ref a ∧ FlAt C H a s t p ∧ FlOk s t p
theorem NumAt.same {C : Addr} {H H' : Hp} {v : V} : ∀ {n : Nm}, NumAt C H v n → Same H H' → NumAt C H' v n
  | .i _, h, _ => h
  | .f _ _ _, ⟨a, e, h, k⟩, s => ⟨a, e, h.same s, k⟩
abbrev RetF (C : Addr) (H : Hp) (s : Int) (t : V) (p : Int) (Q : VK) : Prop := ∀ H' a, H a = none → Same H H' → FlAt C H' a s t p → Q (.ref a) H'
section
variable {P : Program} {w : World} {K : PySem.W.Frag} {mg : Str → Option Value} {base : Heap} {C : Addr}
/-- Float(s, top, p) -/
theorem mkF {H : Hp} {Q : VK} {E : XK} {s : Int} {top : V} {p : Int} (hk : MkOk s top p) (q : RetF C H s (redV top p).1 (redV top p).2 Q) :
    MakeR C (sp_Finit C) ([.int s, top, .int p] ++ []) H Q E := by
  intro x dx H' nx ndx ne s1 hx _
  exact ⟨x, dx, s, top, p, rfl, hx, hk, fun H2 k h2 => ⟨rfl, q H2 x nx (fun b o e => k b o (ne_of_none e nx) (s1 _ _ e)) ⟨dx, h2⟩⟩⟩
abbrev CnF (P : Program) (w : World) (K : PySem.W.Frag) (mg : Str → Option Value) (base : Heap) (C : Addr) : Prop := Cn P w K mg base CX0 2 "Float" C ["self", "sign", "top", "power"] [] (sp_Finit C)
/-! is_finite -/
theorem sc_Float_isfinite : FnScope ["self"] ["self"] (defScope s_Float_isfinite) := ⟨rfl, rfl, rfl, by decide +kernel, rfl, by decide +kernel, by decide +kernel⟩
def sp_isfinite (C : Addr) : Sp := fun vs H Q _ => ∃ a s t p, vs = [.ref a] ∧ FlAt C H a s t p ∧ FlOk s t p ∧ Q (.bl (isI t)) H
theorem FlOk.kn {s : Int} {t : V} {p : Int} {H : Hp} (h : FlOk s t p) : ∃ u, Kn K H t u ∧ isB t = false := by
  rcases h.2 with ⟨rfl, _⟩ | ⟨rfl, _⟩ | ⟨n, rfl, _⟩
  · exact ⟨_, kn_str, rfl⟩
  · exact ⟨_, kn_str, rfl⟩
  · exact ⟨_, kn_int, rfl⟩
theorem ok_isfinite {f : Addr} {fd : FuncData} (F : FunD K "is_finite" "Float.is_finite" (defArgs s_Float_isfinite) (defBody s_Float_isfinite) (defScope s_Float_isfinite) [] [] f fd) (B : Blt mg) (T : FlC K mg C) : FnOk P w K mg base CX0 1 f fd ["self"] (sp_isfinite C) := by
  refine F.ok sc_Float_isfinite (fun vs H Q E h => ?_) (fun cdv A outer s H vs Q E hr h => ?_)
  · obtain ⟨a, s, t, p, rfl, _⟩ := h; rfl
  · obtain ⟨a, sg, t, p, rfl, ⟨dx, ha⟩, ho, q⟩ := h
    refine ⟨_, PSs.nox (pss_one (ps_ret (pe_callB call_isi (by rfl) B.isinstance (by decide +kernel) (pa_cons (pe_fld (pv 0) rfl) (pa_cons (pe_tyInt B) pa_nil))))), ?_⟩
    walk_at "go"
    refine ⟨a, C, dx, _, _, rfl, ha, T.own.cl, T.nT, fl_top _ _ _, ?_⟩
    walk_at "go"
    obtain ⟨u, kn, hb⟩ := ho.kn (K := K) (H := H)
    refine g_isiInt kn ?_
    rw [hb, Bool.or_false]
    exact q
/-! ratio -/
theorem sc_Float_ratio : FnScope ["self"] ["self"] (defScope s_Float_ratio) := ⟨rfl, rfl, rfl, by decide +kernel, rfl, by decide +kernel, by decide +kernel⟩
def ratN (s n p : Int) : Int := if p < 0 then s * n else s * (n * 2 ^ p.toNat)
def ratD (p : Int) : Int := if p < 0 then 2 ^ (0 - p).toNat else 1
def sp_ratio (C : Addr) : Sp := fun vs H Q _ => ∃ a s n p, vs = [.ref a] ∧ FlAt C H a s (.int n) p ∧ FlOk s (.int n) p ∧ RetT H [.int (ratN s n p), .int (ratD p)] Q
theorem fin_of {s n p : Int} (h : FlOk s (.int n) p) : FinOk n p := by
  rcases h.2 with ⟨z, _⟩ | ⟨z, _⟩ | ⟨m, e, h⟩
  · cases z
  · cases z
  · injection e with e; subst e; exact h
theorem FinOk.hi {n p : Int} (h : FinOk n p) : p ≤ 1024 := by
  obtain ⟨h1, _, _, h4, h5⟩ := h
  by_cases h0 : n = 0
  · rw [h5.1 h0]; decide
  · have := bits_pos (n := n.natAbs) (by omega)
    rw [intBits_neg] at h4
    omega
theorem sgn_mul {s x : Int} (hs : s = 1 ∨ s = -1) : IntMulOk s x := .of_left (by rcases hs with rfl | rfl <;> decide)
theorem shl_small {i j : Int} (h0 : 0 ≤ j) (h : j ≤ 100000) (hi : i.natAbs < 2 ^ 100000) : CShl i j := by
  refine ⟨h0, ?_⟩
  rw [intBits_neg]
  have := bits_le hi
  omega
theorem lt_pow_mono {n a b : Nat} (h : n < 2 ^ a) (hab : a ≤ b) : n < 2 ^ b := Nat.lt_of_lt_of_le h (Nat.pow_le_pow_right (by decide) hab)
theorem ok_ratio {f : Addr} {fd : FuncData} (F : FunD K "ratio" "Float.ratio" (defArgs s_Float_ratio) (defBody s_Float_ratio) (defScope s_Float_ratio) [] [] f fd) (B : Blt mg) (T : FlC K mg C) : FnOk P w K mg base CX0 1 f fd ["self"] (sp_ratio C) := by
  refine F.ok sc_Float_ratio (fun vs H Q E h => ?_) (fun cdv A outer s H vs Q E hr h => ?_)
  · obtain ⟨a, s, t, p, rfl, _⟩ := h; rfl
  · obtain ⟨a, sg, n, p, rfl, ⟨dx, ha⟩, ho, q⟩ := h
    have hf := fin_of ho
    have hhi := hf.hi
    obtain ⟨f1, f2, f3, f4, f5⟩ := hf
    unfold ratN ratD at q
    refine ⟨_, PSs.nox (pss_cons (ps_if (pt_cmpR op_oLt (pe_fld (pv 0) rfl) pe_int (nomark _)) (pss_one (ps_ret (pe_tupN (pa_cons (pe_op op_oMul (pe_fld (pv 0) rfl) (pe_fld (pv 0) rfl)) (pa_cons (pe_op op_oShl pe_int (pe_op op_oSub pe_int (pe_fld (pv 0) rfl))) pa_nil))))) pss_nil)
  (pss_one (ps_ret (pe_tupN (pa_cons (pe_op op_oMul (pe_fld (pv 0) rfl) (pe_op op_oShl (pe_fld (pv 0) rfl) (pe_fld (pv 0) rfl))) (pa_cons pe_int pa_nil)))))), ?_⟩
    walk_at "go"
    refine ⟨a, C, dx, _, _, rfl, ha, T.own.cl, T.nP, fl_power _ _ _, ?_⟩
    walk_at "go"
    refine g_ite (fun hp => ?_) fun hp => ?_
    · walk_at "go"
      refine ⟨a, C, dx, _, _, rfl, ha, T.own.cl, T.nS, fl_sign _ _ _, ?_⟩
      walk_at "go"
      refine ⟨a, C, dx, _, _, rfl, ha, T.own.cl, T.nT, fl_top _ _ _, ?_⟩
      refine g_mulI (sgn_mul ho.1) ?_
      walk_at "go"
      refine ⟨a, C, dx, _, _, rfl, ha, T.own.cl, T.nP, fl_power _ _ _, ?_⟩
      walk_at "go"
      refine g_II (shl_small (by omega) (by omega) (lt_pow_mono (a := 1) (by decide) (by decide))) ?_
      walk_at "go"
      refine g_new (sz rfl) fun b H2 nb s2 hb _ => ?_
      rw [if_pos hp, if_pos hp] at q
      rw [Int.one_mul] at hb
      exact q _ _ nb s2 hb
    · walk_at "go"
      refine ⟨a, C, dx, _, _, rfl, ha, T.own.cl, T.nS, fl_sign _ _ _, ?_⟩
      walk_at "go"
      refine ⟨a, C, dx, _, _, rfl, ha, T.own.cl, T.nT, fl_top _ _ _, ?_⟩
      walk_at "go"
      refine ⟨a, C, dx, _, _, rfl, ha, T.own.cl, T.nP, fl_power _ _ _, ?_⟩
      walk_at "go"
      refine g_II (shl_small (by omega) (by omega) (lt_pow_mono (a := 53) (by omega) (by decide))) ?_
      refine g_mulI (sgn_mul ho.1) ?_
      walk_at "go"
      refine g_new (sz rfl) fun b H2 nb s2 hb _ => ?_
      rw [if_neg hp, if_neg hp] at q
      exact q _ _ nb s2 hb
/-! infinity -/
theorem sc_infinity : FnScope ["sign"] ["sign"] (defScope s_infinity) := ⟨rfl, rfl, rfl, by decide +kernel, rfl, by decide +kernel, by decide +kernel⟩
def sp_infinity (C : Addr) : Sp := fun vs H Q _ => ∃ s, vs = [.int s] ∧ (s = 1 ∨ s = -1) ∧ RetF C H s (.str "inf") 0 Q
theorem mk_inf {s : Int} (hs : s = 1 ∨ s = -1) : MkOk s (.str "inf") 0 := ⟨hs, .inr (.inl ⟨rfl, rfl⟩)⟩
theorem ok_infinity {f : Addr} {fd : FuncData} (F : FunD K "infinity" "infinity" (defArgs s_infinity) (defBody s_infinity) (defScope s_infinity) [] [] f fd) (c_Float : CnF P w K mg base C) : FnOk P w K mg base CX0 4 f fd ["sign"] (sp_infinity C) := by
  refine F.ok sc_infinity (fun vs H Q E h => ?_) (fun cdv A outer s H vs Q E hr h => ?_)
  · obtain ⟨a, rfl, _⟩ := h; rfl
  · obtain ⟨sg, rfl, hs, q⟩ := h
    refine ⟨_, PSs.nox (pss_one (ps_ret (pe_cn c_Float (hr.mono (by first | decide | omega)) pass0 (pa_cons (pv 0) (pa_cons pe_str (pa_cons pe_int pa_nil)))))), ?_⟩
    walk_at "go"
    exact mkF (mk_inf hs) q
/-! nearest -/
theorem sc_nearest : FnScope ["sign", "top", "bottom", "power", "whole", "rest"] ["sign", "top", "bottom"] (defScope s_nearest) := ⟨rfl, rfl, rfl, by decide +kernel, rfl, by decide +kernel, by decide +kernel⟩
/-- what is handed to Float -/
def nearV (t b : Nat) : V × Int := if t = 0 then (.int 0, 0) else if (bitsN (nrW t b) : Int) + nrP2 t b > 1024 then (.str "inf", 0) else (.int (nrW t b : Int), nrP2 t b)
theorem near_mk {s : Int} {t b : Nat} (hs : s = 1 ∨ s = -1) (hb : 0 < b) : MkOk s (nearV t b).1 (nearV t b).2 := by
  unfold nearV
  by_cases h0 : t = 0
  · rw [if_pos h0]
    exact mk_of_flok (n := 0) hs (by decide) (by decide) (by decide)
  · rw [if_neg h0]
    by_cases h1 : (bitsN (nrW t b) : Int) + nrP2 t b > 1024
    · rw [if_pos h1]
      exact mk_inf hs
    · rw [if_neg h1]
      exact mk_of_flok hs (nrW_le hb) (nrP2_lo t b) (by omega)
def sp_nearest (C : Addr) : Sp := fun vs H Q _ => ∃ (s : Int) (t b : Nat), vs = [.int s, .int t, .int b] ∧ (s = 1 ∨ s = -1) ∧ 0 < b ∧ bitsN t ≤ 6000 ∧ bitsN b ≤ 6000 ∧ RetF C H s (redV (nearV t b).1 (nearV t b).2).1 (redV (nearV t b).1 (nearV t b).2).2 Q
theorem fdiv_nat (a b : Nat) : (a : Int).fdiv (b : Int) = ((a / b : Nat) : Int) := by
  rw [Int.fdiv_eq_ediv_of_nonneg _ (by omega)]; rfl
theorem log2_lt {b k : Nat} (h : b < 2 ^ k) (hk : 0 < k) : b.log2 < k := by
  by_cases h0 : b = 0
  · subst h0; simpa using hk
  · exact (Nat.log2_lt h0).mpr h
theorem land_one (n : Nat) : Builtin.bitAnd (n : Int) 1 = ((n % 2 : Nat) : Int) := by
  rw [PyProof.Rows.bitAnd_pp (by omega) (by decide)]
  show ((n &&& 1 : Nat) : Int) = _
  rw [Nat.and_one_is_mod]
theorem ok_nearest {f : Addr} {fd : FuncData} (F : FunD K "nearest" "nearest" (defArgs s_nearest) (defBody s_nearest) (defScope s_nearest) [] [] f fd) (B : Blt mg) (i_ROOM : ∃ t, mg "ROOM" = some (.int 9007199254740992 t)) (i_LOWEST : ∃ t, mg "LOWEST" = some (.int (-1074) t)) (i_TOO_GREAT : ∃ t, mg "TOO_GREAT" = some (.int 1024 t))
    (c_Float : CnF P w K mg base C) (c_infinity : Fn P w K mg base CX0 4 "infinity" ["sign"] [] (sp_infinity C)) : FnOk P w K mg base CX0 5 f fd ["sign", "top", "bottom"] (sp_nearest C) := by
  refine F.ok sc_nearest (fun vs H Q E h => ?_) (fun cdv A outer s H vs Q E hr h => ?_)
  · obtain ⟨_, _, _, rfl, _⟩ := h; rfl
  · obtain ⟨sg, t, b, rfl, hs, hb, ht, hbb, q⟩ := h
    have mk := near_mk (t := t) (b := b) hs hb
    refine ⟨_, PSs.nox (pss_cons (ps_if (pt_cmpR (op_oEq hr.units) (pv 1) pe_int (nomark _)) (pss_one (ps_ret (pe_cn c_Float (hr.mono (by first | decide | omega)) pass0 (pa_cons (pv 0) (pa_cons pe_int (pa_cons pe_int pa_nil)))))) pss_nil)
  (pss_cons (ps_set (i := 3) sc_nearest.nd rfl (Or.inl rfl) (pe_callB (call_max2 rfl) (by rfl) B.max (by decide +kernel) (pa_cons (pe_op op_oSub (pe_op op_oSub (pe_bits (pv 1)) (pe_bits (pv 2))) pe_int) (pa_cons (pe_gint i_LOWEST) pa_nil))))
  (C8.pss_cut (ps_if (pt_cmpR op_oLt (pv 3) pe_int (nomark _)) (pss_one (ps_set (i := 1) sc_nearest.nd rfl (Or.inl rfl) (pe_op op_oShl (pv 1) (pe_op op_oSub pe_int (pv 3))))) (pss_one (ps_set (i := 2) sc_nearest.nd rfl (Or.inl rfl) (pe_op op_oShl (pv 2) (pv 3)))))
  (C8.pss_cut (ps_if (pt_cmpR op_oGe (pe_op op_oDiv (pv 1) (pv 2)) (pe_gint i_ROOM) (nomark _)) (pss_cons (ps_set (i := 2) sc_nearest.nd rfl (Or.inl rfl) (pe_op op_oShl (pv 2) pe_int))
  (pss_one (ps_set (i := 3) sc_nearest.nd rfl (Or.inl rfl) (pe_op op_oAdd (pv 3) pe_int)))) pss_nil)
  (pss_cons (ps_asg (pe_callB call_divmodK (by rfl) B.divmod (by decide +kernel) (pa_cons (pv 1) (pa_cons (pv 2) pa_nil))) (pg_tup rfl (pgs_cons (pg_name (i := 4) sc_nearest.nd rfl (Or.inl rfl)) (pgs_cons (pg_name (i := 5) sc_nearest.nd rfl (Or.inl rfl)) pgs_nil))))
  (C8.pss_cut (ps_if (PW.pt (pw_or (pt_cmpR op_oGt (pe_op op_oMul pe_int (pv 5)) (pv 2) (nomark _)) (pw_or1 (PW.pt (pw_and (pt_cmpR (op_oEq hr.units) (pe_op op_oMul pe_int (pv 5)) (pv 2) (nomark _)) (pw_and1 (pt_cmpR (op_oEq hr.units) (pe_op op_oAnd (pv 4) pe_int) pe_int (nomark _)))))))) (pss_one (ps_set (i := 4) sc_nearest.nd rfl (Or.inl rfl) (pe_op op_oAdd (pv 4) pe_int))) pss_nil)
  (pss_cons (ps_if (pt_cmpR op_oGt (pe_op op_oAdd (pe_bits (pv 4)) (pv 3)) (pe_gint i_TOO_GREAT) (nomark _)) (pss_one (ps_ret (pe_fn c_infinity (hr.mono (by first | decide | omega)) pass0 (pa_cons (pv 0) pa_nil)))) pss_nil)
  (pss_one (ps_ret (pe_cn c_Float (hr.mono (by first | decide | omega)) pass0 (pa_cons (pv 0) (pa_cons (pv 4) (pa_cons (pv 3) pa_nil))))))))))))), ?_⟩
    walk_at "go"
    refine g_ite (fun h0 => ?_) fun h0 => ?_
    · walk_at "go"
      have h0 : t = 0 := by omega
      have e : nearV t b = (.int 0, 0) := if_pos h0
      rw [e] at q mk
      exact mkF mk q
    · have h0 : t ≠ 0 := by omega
      walk_at "go"
      rw [intBits_nat, intBits_nat]
      have eP : (if (-1074 : Int) > ((bitsN t : Nat) : Int) - ((bitsN b : Nat) : Int) - 53 then (-1074 : Int) else ((bitsN t : Nat) : Int) - ((bitsN b : Nat) : Int) - 53) = nrP t b := rfl
      rw [eP]
      have p1 := nrP_lo t b
      have p2 := nrP_hi (t := t) (b := b)
      walk_at "go"
      refine g_cut (fun σ' H2 => σ' = [some (.int sg), some (.int (nrT t (nrP t b) : Nat)), some (.int (nrB b (nrP t b) : Nat)), some (.int (nrP t b)), none, none] ∧ H = H2) ?_ ?_
      · walk_at "go"
        refine g_ite (fun hp => ?_) fun hp => ?_
        · walk_at "go"
          refine g_II (shl_small (by omega) (by omega) (lt_pow_mono (bits_lt t) (by omega))) ?_
          walk_at "go"
          refine ⟨?_, rfl⟩
          unfold nrT nrB
          rw [if_pos hp, if_pos hp]
          simp [L2.start]
        · walk_at "go"
          refine g_II (shl_small (by omega) (by omega) (lt_pow_mono (bits_lt b) (by omega))) ?_
          walk_at "go"
          refine ⟨?_, rfl⟩
          unfold nrT nrB
          rw [if_neg hp, if_neg hp]
          simp [L2.start]
      · rintro σ' _ ⟨rfl, rfl⟩
        have hB := nrB_pos hb (nrP t b)
        have hB2 := nrB2_pos (t := t) hb
        have hbit := nrB2_bits (m := 6000) ht hbb hb
        have hbit1 : nrB b (nrP t b) < 2 ^ 6001 := by
          unfold nrB2 at hbit
          split at hbit <;> omega
        walk_at "go"
        refine g_cut (fun σ' H2 => σ' = [some (.int sg), some (.int (nrT t (nrP t b) : Nat)), some (.int (nrB2 t b : Nat)), some (.int (nrP2 t b)), none, none] ∧ H = H2) ?_ ?_
        · walk_at "go"
          refine g_divI (by omega) (by rw [Int.natAbs_natCast]; exact Nat.lt_trans (log2_lt hbit1 (by decide)) (by decide)) ?_
          rw [fdiv_nat]
          walk_at "go"
          refine g_ite (fun hg => ?_) fun hg => ?_
          · have hg' : nrBig t b = true := decide_eq_true (Int.ofNat_le.mp (show ((9007199254740992 : Nat) : Int) ≤ _ from hg))
            walk_at "go"
            refine g_II (shl_small (by decide) (by decide) (lt_pow_mono hbit1 (by decide))) ?_
            walk_at "go"
            refine ⟨?_, rfl⟩
            unfold nrB2 nrP2
            rw [if_pos hg', if_pos hg']
            simp
          · have hg' : ¬ nrBig t b = true := fun z => hg (Int.ofNat_le.mpr (of_decide_eq_true z))
            walk_at "go"
            refine ⟨?_, rfl⟩
            unfold nrB2 nrP2
            rw [if_neg hg', if_neg hg']
        · rintro σ' _ ⟨rfl, rfl⟩
          walk_at "go"
          refine ⟨_, _, rfl, ⟨by omega, by rw [Int.natAbs_natCast]; exact Nat.lt_trans (log2_lt hbit (by decide)) (by decide)⟩, fun a H2 na s2 ha _ => ?_⟩
          walk_at "go"
          refine ⟨a, _, rfl, SqT.of ha, rfl, ?_⟩
          walk_at "go"
          have eQ : ((nrT t (nrP t b) : Nat) : Int) / ((nrB2 t b : Nat) : Int) = ((nrQ t b : Nat) : Int) := rfl
          have eR : ((nrT t (nrP t b) : Nat) : Int) % ((nrB2 t b : Nat) : Int) = ((nrR t b : Nat) : Int) := rfl
          rw [eQ, eR]
          refine g_cut (fun σ' H3 => σ' = [some (.int sg), some (.int (nrT t (nrP t b) : Nat)), some (.int (nrB2 t b : Nat)), some (.int (nrP2 t b)), some (.int (nrW t b : Nat)), some (.int (nrR t b : Nat))] ∧ H2 = H3) ?_ ?_
          · have up : ∀ (c : Bool), nrUp t b = c → nrW t b = if c then nrQ t b + 1 else nrQ t b := fun c h => by unfold nrW; rw [h]
            walk_at "go"
            refine g_mulI (.of_left (by decide)) ?_
            walk_at "go"
            refine g_ite (fun h1 => ?_) fun h1 => ?_
            · walk_at "go"
              refine ⟨?_, rfl⟩
              rw [up true (by unfold nrUp; rw [decide_eq_true (show nrB2 t b < 2 * nrR t b by omega)]; rfl)]
              simp
            · walk_at "go"
              refine g_mulI (.of_left (by decide)) ?_
              walk_at "go"
              refine g_ite (fun h2 => ?_) fun h2 => ?_
              · walk_at "go"
                rw [land_one]
                refine g_ite (fun h3 => ?_) fun h3 => ?_
                · walk_at "go"
                  refine ⟨?_, rfl⟩
                  rw [up true (by unfold nrUp; rw [decide_eq_true (show 2 * nrR t b = nrB2 t b by omega), decide_eq_true (show nrQ t b % 2 = 1 by omega), Bool.and_self, Bool.or_true])]
                  simp
                · walk_at "go"
                  refine ⟨?_, rfl⟩
                  rw [up false (by unfold nrUp; rw [decide_eq_false (show ¬ nrB2 t b < 2 * nrR t b by omega), decide_eq_false (show ¬ nrQ t b % 2 = 1 by omega), Bool.and_false, Bool.or_false])]
                  simp
              · walk_at "go"
                refine ⟨?_, rfl⟩
                rw [up false (by unfold nrUp; rw [decide_eq_false (show ¬ nrB2 t b < 2 * nrR t b by omega), decide_eq_false (show ¬ 2 * nrR t b = nrB2 t b by omega), Bool.false_and, Bool.or_false])]
                simp
          · rintro σ' _ ⟨rfl, rfl⟩
            have q2 : RetF C H2 sg (redV (nearV t b).1 (nearV t b).2).1 (redV (nearV t b).1 (nearV t b).2).2 Q := fun H' x nx sx hx => q H' x (s2.free nx) (s2.trans sx) hx
            walk_at "go"
            rw [intBits_nat]
            refine g_ite (fun h1 => ?_) fun h1 => ?_
            · walk_at "go"
              have e : nearV t b = (.str "inf", 0) := by unfold nearV; rw [if_neg h0, if_pos h1]
              rw [e] at q2
              exact ⟨sg, rfl, hs, q2⟩
            · walk_at "go"
              have e : nearV t b = (.int (nrW t b : Int), nrP2 t b) := by unfold nearV; rw [if_neg h0, if_neg h1]
              rw [e] at q2 mk
              exact mkF mk q2
end
end Up

set_option Elab.async false
set_option linter.all false
set_option maxRecDepth 100000
set_option maxHeartbeats 4000000
set_option exponentiation.threshold 200000
namespace Up
open PySem PySem.Spec PyProof.Rows L2
local macro_rules | `(tactic| walk_at "u") => `(tactic| first
  | with_reducible refine g_seq ?_
  | with_reducible refine g_asg ?_
  | with_reducible refine g_op ?_
  | ((with_reducible show tVar _ _ _ _); apply g_var; exact rfl)
  | with_reducible refine g_c ?_
  | with_reducible refine g_name ?_
  | with_reducible refine g_ifs ?_
  | with_reducible refine g_tt ?_
  | with_reducible refine g_tB ?_
  | with_reducible refine g_bl ?_
  | with_reducible refine g_ret ?_
  | with_reducible refine g_cb ?_
  | with_reducible refine g_cons ?_
  | with_reducible refine g_nil ?_
  | with_reducible refine g_call ?_
  | with_reducible refine g_and ?_
  | with_reducible refine g_or ?_
  | with_reducible refine g_not ?_
  | with_reducible refine g_andV ?_
  | with_reducible refine g_orV ?_
  | with_reducible refine g_notV ?_
  | with_reducible refine g_if ?_
  | with_reducible refine g_un ?_
  | with_reducible refine g_neg ?_
  | with_reducible refine g_addI ?_
  | with_reducible refine g_subI ?_
  | with_reducible refine g_subB ?_
  | with_reducible refine g_I0 ?_
  | with_reducible refine g_cmpI ?_
  | with_reducible refine g_eqI ?_
  | with_reducible refine g_neI ?_
  | with_reducible refine g_eqS ?_
  | with_reducible refine g_neS ?_
  | with_reducible refine g_eqB ?_
  | with_reducible refine g_neB ?_
  | with_reducible refine g_bits ?_
  | with_reducible refine g_bitsI ?_
  | with_reducible refine g_fld ?_
  | with_reducible refine g_tup ?_
  | with_reducible refine g_lst ?_
  | with_reducible refine g_gtup ?_
  | with_reducible refine g_make ?_
  | with_reducible refine g_lc ?_
  | with_reducible refine g_yesT ?_
  | with_reducible refine g_intI ?_
  | with_reducible refine g_intB ?_
  | with_reducible refine g_max2 ?_
  | with_reducible refine g_abs1 ?_
  | with_reducible refine g_for ?_
  | with_reducible refine g_iList ?_
  | with_reducible refine g_iTup ?_
  | with_reducible refine g_iRng1 ?_
  | with_reducible refine g_iEnum ?_
  | with_reducible refine g_slice ?_
  | with_reducible refine g_po0 ?_
  | with_reducible refine g_po1 ?_
  | with_reducible refine g_gsub ?_
  | with_reducible refine g_par ?_
  | with_reducible refine g_par2 ?_
  | with_reducible refine g_rfl ?_
  | with_reducible refine g_meth ?_
  | with_reducible refine g_gcons ?_
  | with_reducible refine g_gnil ?_
  | with_reducible refine g_gfld ?_
  | with_reducible refine g_sfld ?_
  | with_reducible refine g_drop ?_
  | with_reducible refine g_next ?_
  | with_reducible refine iteT ?_
  | with_reducible refine iteF ?_)
local macro_rules | `(tactic| walk_at "go") => `(tactic| (repeat walk_at "u"))

section
variable {P : Program} {w : World} {K : PySem.W.Frag} {mg : Str → Option Value} {base : Heap} {C : Addr}
/-! ### kinds, Float asked too -/
structure KnF (K : PySem.W.Frag) (C : Addr) (H : Hp) (x : V) (t : Value) (b : Bool) : Prop where
  kn : Kn K H x t
  fl : PySem.W.kitOne K t (.ref C) = some b
theorem KnF.same {H H' : Hp} {x : V} {t : Value} {b : Bool} (h : KnF K C H x t b) (s : Same H H') : KnF K C H' x t b := ⟨h.kn.same s, h.fl⟩
theorem g_isiF {H : Hp} {Q : VK} {x : V} {t : Value} {b : Bool} (h : KnF K C H x t b) (q : Q (.bl b) H) : rIsi K [x, .ref C] H Q := g_isi h.kn.ty (.own _) h.fl q
theorem kf_int (T : FlC K mg C) {H : Hp} {i : Int} : KnF K C H (.int i) (.type "int") false := ⟨kn_int, T.fi⟩
theorem kf_bl (T : FlC K mg C) {H : Hp} {i : Bool} : KnF K C H (.bl i) (.type "bool") false := ⟨kn_bl, T.fb⟩
theorem kf_str (T : FlC K mg C) {H : Hp} {i : Str} : KnF K C H (.str i) (.type "str") false := ⟨kn_str, T.fs⟩
theorem kf_non (T : FlC K mg C) {H : Hp} : KnF K C H .non (.type "NoneType") false := ⟨kn_non, T.fn⟩
theorem kf_fl (T : FlC K mg C) {H : Hp} {a : Addr} {s : Int} {t : V} {p : Int} (h : FlAt C H a s t p) : KnF K C H (.ref a) (.ref C) true := by
  obtain ⟨dx, h⟩ := h
  exact ⟨kn_ins T.own h, T.yes⟩
def isF : Nm → Bool
  | .i _ => false
  | .f _ _ _ => true
theorem NumAt.kf (T : FlC K mg C) {H : Hp} {v : V} : ∀ {n : Nm}, NumAt C H v n → ∃ t, KnF K C H v t (isF n) ∧ isI v = !isF n ∧ isB v = false
  | .i n, h => by
    have h : v = .int n := h
    subst h
    exact ⟨_, kf_int T, rfl, rfl⟩
  | .f s t p, ⟨a, e, h, _⟩ => by
    subst e
    exact ⟨_, kf_fl T h, rfl, rfl⟩
def bigOk (k : Int) : Prop := k.natAbs < 2 ^ 5000
/-- the float of an int: sign, top, power -/
def tfS (k : Int) : Int := if k < 0 then -1 else 1
def tfR (k : Int) : V × Int := redV (nearV k.natAbs 1).1 (nearV k.natAbs 1).2
def sp_tofloat (C : Addr) : Sp := fun vs H Q _ => ∃ v n, vs = [v] ∧ NumAt C H v n ∧ match n with
  | .f _ _ _ => Q v H
  | .i k => bigOk k ∧ RetF C H (tfS k) (tfR k).1 (tfR k).2 Q
theorem mul_small {i j : Int} (hi : i.natAbs < 2 ^ 100000) (hj : j.natAbs < 2 ^ 100000) : IntMulOk i j := (mulx_ok hi hj (by decide)).ok
theorem natAbs_mul_lt {x y : Int} {a b : Nat} (hx : x.natAbs < 2 ^ a) (hy : y.natAbs < 2 ^ b) : (x * y).natAbs < 2 ^ (a + b) := by
  rw [Int.natAbs_mul, Nat.pow_add]
  exact Nat.mul_lt_mul'' hx hy
theorem sgn_abs {s : Int} (hs : s = 1 ∨ s = -1) (x : Int) : (s * x).natAbs = x.natAbs := by
  rw [Int.natAbs_mul]; rcases hs with rfl | rfl <;> simp
theorem tf_mk (k : Int) : MkOk (tfS k) (nearV k.natAbs 1).1 (nearV k.natAbs 1).2 := near_mk (by unfold tfS; split <;> simp) (by decide)
/-- a float made again of its own parts -/
theorem mk_again {s : Int} {t : V} {p : Int} (h : FlOk s t p) : MkOk s t p := by
  obtain ⟨hs, h⟩ := h
  rcases h with ⟨rfl, h1, rfl⟩ | ⟨rfl, rfl⟩ | ⟨n, rfl, f1, f2, f3, f4, f5⟩
  · exact ⟨hs, .inl ⟨rfl, h1, rfl⟩⟩
  · exact ⟨hs, .inr (.inl ⟨rfl, rfl⟩)⟩
  · obtain ⟨k, rfl⟩ := Int.eq_ofNat_of_zero_le f1
    rw [intBits_nat] at f4
    exact mk_of_flok hs (by omega) f3 f4
theorem small64 {k : Int} (h1 : -(2 ^ 65) ≤ k) (h2 : k ≤ 2 ^ 65) : k.natAbs < 2 ^ 1000 := lt_pow_mono (a := 66) (by omega) (by decide)
theorem big64 {k : Int} (h1 : -(2 ^ 65) ≤ k) (h2 : k ≤ 2 ^ 65) : bigOk k := lt_pow_mono (a := 66) (by omega) (by decide)
end
end Up

set_option Elab.async false
set_option linter.all false
set_option maxRecDepth 100000
set_option maxHeartbeats 4000000
set_option exponentiation.threshold 200000
namespace Up
open PySem PySem.Spec PyProof.Rows L2
local macro_rules | `(tactic| walk_at "u") => `(tactic| first
  | with_reducible refine g_seq ?_
  | with_reducible refine g_asg ?_
  | with_reducible refine g_op ?_
  | ((with_reducible show tVar _ _ _ _); apply g_var; exact rfl)
  | with_reducible refine g_c ?_
  | with_reducible refine g_name ?_
  | with_reducible refine g_ifs ?_
  | with_reducible refine g_tt ?_
  | with_reducible refine g_tB ?_
  | with_reducible refine g_bl ?_
  | with_reducible refine g_ret ?_
  | with_reducible refine g_cb ?_
  | with_reducible refine g_cons ?_
  | with_reducible refine g_nil ?_
  | with_reducible refine g_call ?_
  | with_reducible refine g_and ?_
  | with_reducible refine g_or ?_
  | with_reducible refine g_not ?_
  | with_reducible refine g_andV ?_
  | with_reducible refine g_orV ?_
  | with_reducible refine g_notV ?_
  | with_reducible refine g_if ?_
  | with_reducible refine g_un ?_
  | with_reducible refine g_neg ?_
  | with_reducible refine g_addI ?_
  | with_reducible refine g_subI ?_
  | with_reducible refine g_subB ?_
  | with_reducible refine g_I0 ?_
  | with_reducible refine g_cmpI ?_
  | with_reducible refine g_eqI ?_
  | with_reducible refine g_neI ?_
  | with_reducible refine g_eqS ?_
  | with_reducible refine g_neS ?_
  | with_reducible refine g_eqB ?_
  | with_reducible refine g_neB ?_
  | with_reducible refine g_bits ?_
  | with_reducible refine g_bitsI ?_
  | with_reducible refine g_fld ?_
  | with_reducible refine g_tup ?_
  | with_reducible refine g_lst ?_
  | with_reducible refine g_gtup ?_
  | with_reducible refine g_make ?_
  | with_reducible refine g_lc ?_
  | with_reducible refine g_yesT ?_
  | with_reducible refine g_intI ?_
  | with_reducible refine g_intB ?_
  | with_reducible refine g_max2 ?_
  | with_reducible refine g_abs1 ?_
  | with_reducible refine g_for ?_
  | with_reducible refine g_iList ?_
  | with_reducible refine g_iTup ?_
  | with_reducible refine g_iRng1 ?_
  | with_reducible refine g_iEnum ?_
  | with_reducible refine g_slice ?_
  | with_reducible refine g_po0 ?_
  | with_reducible refine g_po1 ?_
  | with_reducible refine g_gsub ?_
  | with_reducible refine g_par ?_
  | with_reducible refine g_par2 ?_
  | with_reducible refine g_rfl ?_
  | with_reducible refine g_meth ?_
  | with_reducible refine g_gcons ?_
  | with_reducible refine g_gnil ?_
  | with_reducible refine g_gfld ?_
  | with_reducible refine g_sfld ?_
  | with_reducible refine g_drop ?_
  | with_reducible refine g_next ?_
  | with_reducible refine iteT ?_
  | with_reducible refine iteF ?_)
local macro_rules | `(tactic| walk_at "go") => `(tactic| (repeat walk_at "u"))

/-! ### floats by their parts -/
structure FL where
  s : Int
  t : V
  p : Int
def FL.ok (x : FL) : Prop := FlOk x.s x.t x.p
def FA (C : Addr) (H : Hp) (v : V) (x : FL) : Prop := ∃ a, v = .ref a ∧ FlAt C H a x.s x.t x.p
theorem FA.same {C : Addr} {H H' : Hp} {v : V} {x : FL} (h : FA C H v x) (e : Same H H') : FA C H' v x := by
  obtain ⟨a, rfl, h⟩ := h
  exact ⟨a, rfl, h.same e⟩
def RetN (C : Addr) (H : Hp) (x : FL) (Q : VK) : Prop := ∀ H' v, Same H H' → FA C H' v x → Q v H'
theorem RetN.later {C : Addr} {H H1 : Hp} {x : FL} {Q : VK} (q : RetN C H x Q) (s : Same H H1) : RetN C H1 x Q := fun H' v s' h => q H' v (s.trans s') h
theorem RetN.to {C : Addr} {H : Hp} {x : FL} {Q : VK} (q : RetN C H x Q) : RetF C H x.s x.t x.p Q := fun H' a _ s h => q H' _ s ⟨a, rfl, h⟩
def mkL (s : Int) (v : V × Int) : FL := ⟨s, (redV v.1 v.2).1, (redV v.1 v.2).2⟩
def nanL : FL := ⟨1, .str "nan", 0⟩
def infL (s : Int) : FL := ⟨s, .str "inf", 0⟩
def zeroL (s : Int) : FL := ⟨s, .int 0, 0⟩
def nearL (s : Int) (t b : Nat) : FL := mkL s (nearV t b)
theorem near_zero (s : Int) (b : Nat) : nearL s 0 b = zeroL s := rfl
theorem mkL_ok {s : Int} {v : V × Int} (h : MkOk s v.1 v.2) : (mkL s v).ok := mk_flok h
theorem near_ok {s : Int} {t b : Nat} (hs : s = 1 ∨ s = -1) (hb : 0 < b) : (nearL s t b).ok := mkL_ok (near_mk hs hb)
theorem nan_ok : nanL.ok := ⟨.inl rfl, .inl ⟨rfl, rfl, rfl⟩⟩
theorem inf_ok {s : Int} (hs : s = 1 ∨ s = -1) : (infL s).ok := ⟨hs, .inr (.inl ⟨rfl, rfl⟩)⟩
theorem zero_mk {s : Int} (hs : s = 1 ∨ s = -1) : MkOk s (.int 0) 0 := mk_of_flok (n := 0) hs (by decide) (by decide) (by decide)
theorem zero_ok {s : Int} (hs : s = 1 ∨ s = -1) : (zeroL s).ok := mkL_ok (v := (.int 0, 0)) (zero_mk hs)
theorem FL.ok.is {x : FL} (h : x.ok) : IS x.t := by
  rcases h.2 with ⟨e, _⟩ | ⟨e, _⟩ | ⟨n, e, _⟩
  · exact .inr ⟨_, e⟩
  · exact .inr ⟨_, e⟩
  · exact .inl ⟨_, e⟩
theorem FL.ok.fin {x : FL} (h : x.ok) (h1 : x.t ≠ .str "nan") (h2 : x.t ≠ .str "inf") : ∃ n, x.t = .int n ∧ FinOk n x.p := by
  rcases h.2 with ⟨e, _⟩ | ⟨e, _⟩ | h
  · exact absurd e h1
  · exact absurd e h2
  · exact h
/-- made again of its own parts it is the same -/
theorem red_again {s : Int} {t : V} {p : Int} (h : FlOk s t p) : redV t p = (t, p) := by
  rcases h.2 with ⟨rfl, _, rfl⟩ | ⟨rfl, rfl⟩ | ⟨n, rfl, f1, f2, f3, f4, f5, f6⟩
  · rfl
  · rfl
  · by_cases h0 : n = 0
    · subst h0
      rw [f5 rfl]; rfl
    · obtain ⟨k, rfl⟩ := Int.eq_ofNat_of_zero_le f1
      have ho : k % 2 = 1 := by have := f6 h0; omega
      rw [red_nat (by omega), tz_odd ho]
      simp
def nI : V → Int
  | .int n => n
  | _ => 0
def nx (x : FL) : Int := ratN x.s (nI x.t) x.p
def dx (x : FL) : Int := ratD x.p
theorem rat_small {s n p : Int} (h : FlOk s (.int n) p) : (ratN s n p).natAbs < 2 ^ 1100 ∧ (ratD p).natAbs < 2 ^ 1100 ∧ 0 < ratD p := by
  have hf := fin_of h
  have hs := h.1
  have hhi := hf.hi
  obtain ⟨f1, f2, f3, f4, f5⟩ := hf
  have hm : n.natAbs < 2 ^ 53 := by omega
  unfold ratN ratD
  by_cases hp : p < 0
  · rw [if_pos hp, if_pos hp, sgn_abs hs]
    refine ⟨lt_pow_mono hm (by decide), ?_, Int.pow_pos (by decide)⟩
    rw [Int.natAbs_pow]
    exact Nat.pow_lt_pow_right (by decide) (by omega)
  · rw [if_neg hp, if_neg hp, sgn_abs hs]
    refine ⟨?_, lt_pow_mono (a := 1) (by decide) (by decide), by decide⟩
    rw [Int.natAbs_mul, Int.natAbs_pow]
    have h1 : n.natAbs * Int.natAbs 2 ^ p.toNat < 2 ^ 53 * 2 ^ p.toNat := Nat.mul_lt_mul_of_pos_right hm (Nat.two_pow_pos _)
    rw [← Nat.pow_add] at h1
    exact lt_pow_mono h1 (by omega)
theorem FL.ok.small {x : FL} (h : x.ok) {n : Int} (e : x.t = .int n) : (nx x).natAbs < 2 ^ 1100 ∧ (dx x).natAbs < 2 ^ 1100 ∧ 0 < dx x := by
  have h : FlOk x.s x.t x.p := h
  unfold nx dx
  rw [e] at h ⊢
  exact rat_small h
def maxI (i j : Int) : Int := if j > i then j else i
theorem maxI_sgn {i j : Int} (hi : i = 1 ∨ i = -1) (hj : j = 1 ∨ j = -1) : maxI i j = 1 ∨ maxI i j = -1 := by
  unfold maxI; split
  · exact hj
  · exact hi
theorem tfS_sgn (k : Int) : tfS k = 1 ∨ tfS k = -1 := by unfold tfS; split <;> simp
theorem mul_sgn {i j : Int} (hi : i = 1 ∨ i = -1) (hj : j = 1 ∨ j = -1) : i * j = 1 ∨ i * j = -1 := by
  rcases hi with rfl | rfl <;> rcases hj with rfl | rfl <;> simp
/-! what is reckoned -/
def addL (x y : FL) : FL :=
  if x.t = .str "inf" ∨ y.t = .str "inf" then (if x.t = y.t ∧ x.s ≠ y.s then nanL else if x.t = .str "inf" then x else y)
  else if x.t = .int 0 ∧ y.t = .int 0 then zeroL (maxI x.s y.s)
  else nearL (tfS (nx x * dx y + nx y * dx x)) (nx x * dx y + nx y * dx x).natAbs (dx x * dx y).natAbs
def mulL (x y : FL) : FL :=
  if x.t = .str "inf" ∨ y.t = .str "inf" then (if x.t = .int 0 ∨ y.t = .int 0 then nanL else infL (x.s * y.s))
  else nearL (x.s * y.s) (nx x * nx y).natAbs (dx x * dx y).natAbs
def divL (x y : FL) : FL :=
  if x.t = .str "inf" then (if y.t = .str "inf" then nanL else infL (x.s * y.s))
  else if y.t = .str "inf" then zeroL (x.s * y.s)
  else if y.t = .int 0 then (if x.t = .int 0 then nanL else infL (x.s * y.s))
  else nearL (x.s * y.s) (nx x * dx y).natAbs (dx x * nx y).natAbs
def negL (x : FL) : FL := ⟨0 - x.s, x.t, x.p⟩
def byL (c : Str) (x y : FL) : FL :=
  if x.t = .str "nan" ∨ y.t = .str "nan" then nanL
  else if c = "add" then addL x y else if c = "sub" then addL x (negL y) else if c = "mul" then mulL x y else divL x y
section
variable {P : Program} {w : World} {K : PySem.W.Frag} {mg : Str → Option Value} {base : Heap} {C : Addr}
section
variable {H : Hp} {a : Addr} {s : Int} {t : V} {p : Int} {T : V → Prop}
theorem show_ex {p : Addr → Prop} (h : ∃ a, p a) : ∃ a, p a := h
theorem fS (O : FlC K mg C) (h : FlAt C H a s t p) (q : T (.int s)) : ∃ a' C' dx fs v, V.ref a = .ref a' ∧ H a' = some (.ins C' dx fs) ∧ Cls K C' ∧ NoAttr K C' "sign" ∧ fs.lookup ("sign" : Str) = some v ∧ T v := by
  obtain ⟨dx, h⟩ := h
  exact ⟨a, C, dx, _, _, rfl, h, O.own.cl, O.nS, fl_sign _ _ _, q⟩
theorem fT (O : FlC K mg C) (h : FlAt C H a s t p) (q : T t) : ∃ a' C' dx fs v, V.ref a = .ref a' ∧ H a' = some (.ins C' dx fs) ∧ Cls K C' ∧ NoAttr K C' "top" ∧ fs.lookup ("top" : Str) = some v ∧ T v := by
  obtain ⟨dx, h⟩ := h
  exact ⟨a, C, dx, _, _, rfl, h, O.own.cl, O.nT, fl_top _ _ _, q⟩
theorem fP (O : FlC K mg C) (h : FlAt C H a s t p) (q : T (.int p)) : ∃ a' C' dx fs v, V.ref a = .ref a' ∧ H a' = some (.ins C' dx fs) ∧ Cls K C' ∧ NoAttr K C' "power" ∧ fs.lookup ("power" : Str) = some v ∧ T v := by
  obtain ⟨dx, h⟩ := h
  exact ⟨a, C, dx, _, _, rfl, h, O.own.cl, O.nP, fl_power _ _ _, q⟩
theorem g_rat {Q : VK} {E : XK} {n : Int} (h : FlAt C H a s (.int n) p) (o : FlOk s (.int n) p) (q : RetT H [.int (ratN s n p), .int (ratD p)] Q) :
    ∃ a' dx fs, V.ref a = .ref a' ∧ H a' = some (.ins C dx fs) ∧ fs.lookup ("ratio" : Str) = none ∧ tNil [] H fun vs H2 => sp_ratio C (V.ref a :: (vs ++ [])) H2 Q E := by
  obtain ⟨d, h'⟩ := id h
  exact ⟨a, d, _, rfl, h', rfl, a, s, n, p, rfl, h, o, q⟩
end
/-- Float(..) -/
theorem mkN {H : Hp} {Q : VK} {E : XK} {s : Int} {top : V} {p : Int} (hk : MkOk s top p) (q : RetN C H (mkL s (top, p)) Q) : MakeR C (sp_Finit C) ([.int s, top, .int p] ++ []) H Q E := mkF hk q.to
end
end Up

set_option Elab.async false
set_option linter.all false
set_option maxRecDepth 100000
set_option maxHeartbeats 4000000
set_option exponentiation.threshold 200000
namespace Up
open PySem PySem.Spec PyProof.Rows L2
local macro_rules | `(tactic| walk_at "u") => `(tactic| first
  | with_reducible refine g_seq ?_
  | with_reducible refine g_asg ?_
  | with_reducible refine g_op ?_
  | ((with_reducible show tVar _ _ _ _); apply g_var; exact rfl)
  | with_reducible refine g_c ?_
  | with_reducible refine g_name ?_
  | with_reducible refine g_ifs ?_
  | with_reducible refine g_tt ?_
  | with_reducible refine g_tB ?_
  | with_reducible refine g_bl ?_
  | with_reducible refine g_ret ?_
  | with_reducible refine g_cb ?_
  | with_reducible refine g_cons ?_
  | with_reducible refine g_nil ?_
  | with_reducible refine g_call ?_
  | with_reducible refine g_and ?_
  | with_reducible refine g_or ?_
  | with_reducible refine g_not ?_
  | with_reducible refine g_andV ?_
  | with_reducible refine g_orV ?_
  | with_reducible refine g_notV ?_
  | with_reducible refine g_if ?_
  | with_reducible refine g_un ?_
  | with_reducible refine g_neg ?_
  | with_reducible refine g_addI ?_
  | with_reducible refine g_subI ?_
  | with_reducible refine g_subB ?_
  | with_reducible refine g_I0 ?_
  | with_reducible refine g_cmpI ?_
  | with_reducible refine g_eqI ?_
  | with_reducible refine g_neI ?_
  | with_reducible refine g_eqS ?_
  | with_reducible refine g_neS ?_
  | with_reducible refine g_eqB ?_
  | with_reducible refine g_neB ?_
  | with_reducible refine g_bits ?_
  | with_reducible refine g_bitsI ?_
  | with_reducible refine g_fld ?_
  | with_reducible refine g_tup ?_
  | with_reducible refine g_lst ?_
  | with_reducible refine g_gtup ?_
  | with_reducible refine g_make ?_
  | with_reducible refine g_lc ?_
  | with_reducible refine g_yesT ?_
  | with_reducible refine g_intI ?_
  | with_reducible refine g_intB ?_
  | with_reducible refine g_max2 ?_
  | with_reducible refine g_abs1 ?_
  | with_reducible refine g_for ?_
  | with_reducible refine g_iList ?_
  | with_reducible refine g_iTup ?_
  | with_reducible refine g_iRng1 ?_
  | with_reducible refine g_iEnum ?_
  | with_reducible refine g_slice ?_
  | with_reducible refine g_po0 ?_
  | with_reducible refine g_po1 ?_
  | with_reducible refine g_gsub ?_
  | with_reducible refine g_par ?_
  | with_reducible refine g_par2 ?_
  | with_reducible refine g_rfl ?_
  | with_reducible refine g_meth ?_
  | with_reducible refine g_gcons ?_
  | with_reducible refine g_gnil ?_
  | with_reducible refine g_gfld ?_
  | with_reducible refine g_sfld ?_
  | with_reducible refine g_drop ?_
  | with_reducible refine g_next ?_
  | with_reducible refine iteT ?_
  | with_reducible refine iteF ?_)
local macro_rules | `(tactic| walk_at "go") => `(tactic| (repeat walk_at "u"))
local macro_rules | `(tactic| walk_at "f") => `(tactic| (repeat (first
  | walk_at "u"
  | with_reducible refine g_chain ?_
  | with_reducible refine g_par3 ?_
  | with_reducible refine g_par3' ?_
  | ((with_reducible refine show_ex ?_); first
    | refine fT (by assumption) (by assumption) ?_
    | refine fS (by assumption) (by assumption) ?_
    | refine fP (by assumption) (by assumption) ?_))))

section
variable {P : Program} {w : World} {K : PySem.W.Frag} {mg : Str → Option Value} {base : Heap} {C : Addr}
/-! Float.__eq__ -/
theorem sc_Float_eq : FnScope ["self", "other"] ["self", "other"] (defScope s_Float_eq) := ⟨rfl, rfl, rfl, by decide +kernel, rfl, by decide +kernel, by decide +kernel⟩
def eqL (x y : FL) : Bool := decide (x.s = y.s) && (decide (x.t = y.t) && decide (x.p = y.p))
theorem eqL_refl (x : FL) : eqL x x = true := by unfold eqL; simp
def tpD (x : FL) : PyData := .tuple [.int x.s, dV x.t, .int x.p]
theorem tp_shape {x : FL} (h : x.ok) : SeqAt.shaped (tpD x) = true := by
  have h : FlOk x.s x.t x.p := h
  unfold tpD
  rcases h.2 with ⟨e, _⟩ | ⟨e, _⟩ | ⟨n, e, _⟩
  · rw [e]; show SeqAt.shaped (.tuple [.int x.s, .str "nan", .int x.p]) = true; unfold SeqAt.shaped; simp only [PyData.canLay0, PyData.canLayAll0, Bool.true_and, Bool.and_true, Bool.and_eq_true, decide_eq_true_eq]; exact ⟨by decide +kernel, by simp [PyData.depth, PyData.depthAll]⟩
  · rw [e]; show SeqAt.shaped (.tuple [.int x.s, .str "inf", .int x.p]) = true; unfold SeqAt.shaped; simp only [PyData.canLay0, PyData.canLayAll0, Bool.true_and, Bool.and_true, Bool.and_eq_true, decide_eq_true_eq]; exact ⟨by decide +kernel, by simp [PyData.depth, PyData.depthAll]⟩
  · rw [e]; rfl
theorem tp_eqv {x y : FL} (hx : x.ok) (hy : y.ok) : PyData.eqv (tpD x) (tpD y) = eqL x y := by
  unfold tpD eqL
  simp only [PyData.eqv, PyData.eqvAll, hx.is.eqv hy.is, Bool.and_true]
  have e : ∀ i j : Int, (i == j) = decide (i = j) := fun i j => by by_cases h : i = j <;> simp [h]
  rw [e, e]
def sp_Feq (C : Addr) : Sp := fun vs H Q _ => ∃ v u x y, vs = [v, u] ∧ FA C H v x ∧ FA C H u y ∧ x.ok ∧ y.ok ∧ ∀ H', Same H H' → Q (.bl (eqL x y)) H'
theorem ok_Feq {f : Addr} {fd : FuncData} (F : FunD K "__eq__" "Float.__eq__" (defArgs s_Float_eq) (defBody s_Float_eq) (defScope s_Float_eq) [] [] f fd) (B : Blt mg) (T : FlC K mg C) : FnOk P w K mg base CX0 1 f fd ["self", "other"] (sp_Feq C) := by
  have g_Float : mg "Float" = some (.ref C) := T.mg
  refine F.ok sc_Float_eq (fun vs H Q E h => ?_) (fun cdv A outer s H vs Q E hr h => ?_)
  · obtain ⟨_, _, _, _, rfl, _⟩ := h; rfl
  · obtain ⟨_, _, x, y, rfl, ⟨a, rfl, ha⟩, ⟨b, rfl, hb⟩, ox, oy, q⟩ := h
    refine ⟨_, PSs.nox (pss_cons (ps_if (pt_not (pt_val (pe_callB call_isi (by rfl) B.isinstance (by decide +kernel) (pa_cons (pv 1) (pa_cons (pe_gref g_Float) pa_nil))))) (pss_one ps_never) pss_nil)
  (pss_one (ps_ret (pe_cmpR (op_oEq hr.units) (pe_tupN (pa_cons (pe_fld (pv 0) rfl) (pa_cons (pe_fld (pv 0) rfl) (pa_cons (pe_fld (pv 0) rfl) pa_nil)))) (pe_tupN (pa_cons (pe_fld (pv 1) rfl) (pa_cons (pe_fld (pv 1) rfl) (pa_cons (pe_fld (pv 1) rfl) pa_nil)))) (nomark _))))), ?_⟩
    walk_at "f"
    refine g_isiF (kf_fl T hb) ?_
    walk_at "f"
    refine iteF ?_
    walk_at "f"
    refine g_new (sz rfl) fun c H1 n1 s1 h1 _ => ?_
    have ha := ha.same s1
    have hb := hb.same s1
    walk_at "f"
    refine g_new (sz rfl) fun d H2 n2 s2 h2 _ => ?_
    refine .inr ⟨tpD x, tpD y, .tup (SqT.of (s2 _ _ h1)) (.cons (.int _) (.cons ox.is.dp (.cons (.int _) .nil))), .tup (SqT.of h2) (.cons (.int _) (.cons oy.is.dp (.cons (.int _) .nil))), tp_shape ox, tp_shape oy, ?_⟩
    rw [tp_eqv ox oy]
    exact q _ (s1.trans s2)
end
end Up

set_option Elab.async false
set_option linter.all false
set_option maxRecDepth 100000
set_option maxHeartbeats 4000000
set_option exponentiation.threshold 200000
namespace Up
open PySem PySem.Spec PyProof.Rows L2
local macro_rules | `(tactic| walk_at "u") => `(tactic| first
  | with_reducible refine g_seq ?_
  | with_reducible refine g_asg ?_
  | with_reducible refine g_op ?_
  | ((with_reducible show tVar _ _ _ _); apply g_var; exact rfl)
  | with_reducible refine g_c ?_
  | with_reducible refine g_name ?_
  | with_reducible refine g_ifs ?_
  | with_reducible refine g_tt ?_
  | with_reducible refine g_tB ?_
  | with_reducible refine g_bl ?_
  | with_reducible refine g_ret ?_
  | with_reducible refine g_cb ?_
  | with_reducible refine g_cons ?_
  | with_reducible refine g_nil ?_
  | with_reducible refine g_call ?_
  | with_reducible refine g_and ?_
  | with_reducible refine g_or ?_
  | with_reducible refine g_not ?_
  | with_reducible refine g_andV ?_
  | with_reducible refine g_orV ?_
  | with_reducible refine g_notV ?_
  | with_reducible refine g_if ?_
  | with_reducible refine g_un ?_
  | with_reducible refine g_neg ?_
  | with_reducible refine g_addI ?_
  | with_reducible refine g_subI ?_
  | with_reducible refine g_subB ?_
  | with_reducible refine g_I0 ?_
  | with_reducible refine g_cmpI ?_
  | with_reducible refine g_eqI ?_
  | with_reducible refine g_neI ?_
  | with_reducible refine g_eqS ?_
  | with_reducible refine g_neS ?_
  | with_reducible refine g_eqB ?_
  | with_reducible refine g_neB ?_
  | with_reducible refine g_bits ?_
  | with_reducible refine g_bitsI ?_
  | with_reducible refine g_fld ?_
  | with_reducible refine g_tup ?_
  | with_reducible refine g_lst ?_
  | with_reducible refine g_gtup ?_
  | with_reducible refine g_make ?_
  | with_reducible refine g_lc ?_
  | with_reducible refine g_yesT ?_
  | with_reducible refine g_intI ?_
  | with_reducible refine g_intB ?_
  | with_reducible refine g_max2 ?_
  | with_reducible refine g_abs1 ?_
  | with_reducible refine g_for ?_
  | with_reducible refine g_iList ?_
  | with_reducible refine g_iTup ?_
  | with_reducible refine g_iRng1 ?_
  | with_reducible refine g_iEnum ?_
  | with_reducible refine g_slice ?_
  | with_reducible refine g_po0 ?_
  | with_reducible refine g_po1 ?_
  | with_reducible refine g_gsub ?_
  | with_reducible refine g_par ?_
  | with_reducible refine g_par2 ?_
  | with_reducible refine g_rfl ?_
  | with_reducible refine g_meth ?_
  | with_reducible refine g_gcons ?_
  | with_reducible refine g_gnil ?_
  | with_reducible refine g_gfld ?_
  | with_reducible refine g_sfld ?_
  | with_reducible refine g_drop ?_
  | with_reducible refine g_next ?_
  | with_reducible refine iteT ?_
  | with_reducible refine iteF ?_)
local macro_rules | `(tactic| walk_at "go") => `(tactic| (repeat walk_at "u"))
local macro_rules | `(tactic| walk_at "f") => `(tactic| (repeat (first
  | walk_at "u"
  | with_reducible refine g_chain ?_
  | with_reducible refine g_par3 ?_
  | with_reducible refine g_par3' ?_
  | ((with_reducible refine show_ex ?_); first
    | refine fT (by assumption) (by assumption) ?_
    | refine fS (by assumption) (by assumption) ?_
    | refine fP (by assumption) (by assumption) ?_))))

section
variable {P : Program} {w : World} {K : PySem.W.Frag} {mg : Str → Option Value} {base : Heap} {C : Addr}
abbrev CNear (P : Program) (w : World) (K : PySem.W.Frag) (mg : Str → Option Value) (base : Heap) (C : Addr) : Prop := Fn P w K mg base CX0 5 "nearest" ["sign", "top", "bottom"] [] (sp_nearest C)
abbrev CSign (P : Program) (w : World) (K : PySem.W.Frag) (mg : Str → Option Value) (base : Heap) : Prop := Fn P w K mg base CX0 1 "sign_of" ["is_negative"] [] sp_signof
abbrev CRat (P : Program) (w : World) (K : PySem.W.Frag) (mg : Str → Option Value) (base : Heap) (C : Addr) : Prop := Mt P w K mg base CX0 1 C "ratio" ["self"] (sp_ratio C)
abbrev CInf (P : Program) (w : World) (K : PySem.W.Frag) (mg : Str → Option Value) (base : Heap) (C : Addr) : Prop := Fn P w K mg base CX0 4 "infinity" ["sign"] [] (sp_infinity C)
/-! nan -/
theorem cast_abs {k : Int} (h : 0 < k) : ((k.natAbs : Nat) : Int) = k := by omega
theorem abs_if (k : Int) : (if k < 0 then -k else k) = (k.natAbs : Int) := by split <;> omega
theorem add_lt {x y : Int} {a : Nat} (hx : x.natAbs < 2 ^ a) (hy : y.natAbs < 2 ^ a) : (x + y).natAbs < 2 ^ (a + 1) := by
  rw [Nat.pow_succ]; omega
theorem dd_pos {x y : Int} (hx : 0 < x) (hy : 0 < y) : 0 < (x * y).natAbs := by
  have := Int.mul_pos hx hy
  omega
theorem bits6 {n a : Nat} (h : n < 2 ^ a) (ha : a ≤ 6000) : bitsN n ≤ 6000 := Nat.le_trans (bits_le h) ha
theorem neg_sgn {s : Int} (hs : s = 1 ∨ s = -1) : 0 - s = 1 ∨ 0 - s = -1 := by rcases hs with rfl | rfl <;> simp
theorem neg_mk {x : FL} (h : x.ok) (h1 : x.t ≠ .str "nan") : MkOk (0 - x.s) x.t x.p ∧ mkL (0 - x.s) (x.t, x.p) = negL x := by
  have h' : FlOk x.s x.t x.p := h
  refine ⟨?_, ?_⟩
  · have hs := neg_sgn h'.1
    rcases h'.2 with ⟨e, _⟩ | ⟨e, e2⟩ | ⟨n, e, f1, f2, f3, f4, f5⟩
    · exact absurd e h1
    · exact ⟨hs, .inr (.inl ⟨e, e2⟩)⟩
    · obtain ⟨k, rfl⟩ := Int.eq_ofNat_of_zero_le f1
      rw [intBits_nat] at f4
      rw [e]
      exact mk_of_flok hs (by omega) f3 f4
  · unfold mkL negL
    rw [red_again h']
theorem neg_ok {x : FL} (h : x.ok) (h1 : x.t ≠ .str "nan") : (negL x).ok := by
  obtain ⟨a, b⟩ := neg_mk h h1
  rw [← b]
  exact mkL_ok a
def toL : Nm → FL
  | .i k => nearL (tfS k) k.natAbs 1
  | .f s t p => ⟨s, t, p⟩
def nBig : Nm → Prop
  | .i k => bigOk k
  | .f _ _ _ => True
theorem NumAt.tok {H : Hp} {v : V} : ∀ {n : Nm}, NumAt C H v n → (toL n).ok
  | .i k, _ => near_ok (tfS_sgn k) (by decide)
  | .f _ _ _, ⟨_, _, _, h⟩ => h
theorem g_tofl {H : Hp} {v : V} {Q : VK} {E : XK} : ∀ {n : Nm}, NumAt C H v n → nBig n → RetN C H (toL n) Q → sp_tofloat C ([v] ++ []) H Q E
  | .i k, h, b, q => ⟨v, .i k, rfl, h, b, q.to⟩
  | .f s t p, h, _, q => ⟨v, .f s t p, rfl, h, by
    obtain ⟨a, e, h, _⟩ := h
    exact q _ _ (Same.refl _) ⟨a, e, h⟩⟩
end
end Up

set_option Elab.async false
set_option linter.all false
set_option pp.maxSteps 600
set_option maxRecDepth 100000
set_option maxHeartbeats 4000000
set_option exponentiation.threshold 200000
namespace Up
open PySem PySem.Spec PyProof.Rows L2
local macro_rules | `(tactic| walk_at "u") => `(tactic| first
  | with_reducible refine g_seq ?_
  | with_reducible refine g_asg ?_
  | with_reducible refine g_op ?_
  | ((with_reducible show tVar _ _ _ _); apply g_var; exact rfl)
  | with_reducible refine g_c ?_
  | with_reducible refine g_name ?_
  | with_reducible refine g_ifs ?_
  | with_reducible refine g_tt ?_
  | with_reducible refine g_tB ?_
  | with_reducible refine g_bl ?_
  | with_reducible refine g_ret ?_
  | with_reducible refine g_cb ?_
  | with_reducible refine g_cons ?_
  | with_reducible refine g_nil ?_
  | with_reducible refine g_call ?_
  | with_reducible refine g_and ?_
  | with_reducible refine g_or ?_
  | with_reducible refine g_not ?_
  | with_reducible refine g_andV ?_
  | with_reducible refine g_orV ?_
  | with_reducible refine g_notV ?_
  | with_reducible refine g_if ?_
  | with_reducible refine g_un ?_
  | with_reducible refine g_neg ?_
  | with_reducible refine g_addI ?_
  | with_reducible refine g_subI ?_
  | with_reducible refine g_subB ?_
  | with_reducible refine g_I0 ?_
  | with_reducible refine g_cmpI ?_
  | with_reducible refine g_eqI ?_
  | with_reducible refine g_neI ?_
  | with_reducible refine g_eqS ?_
  | with_reducible refine g_neS ?_
  | with_reducible refine g_eqB ?_
  | with_reducible refine g_neB ?_
  | with_reducible refine g_bits ?_
  | with_reducible refine g_bitsI ?_
  | with_reducible refine g_fld ?_
  | with_reducible refine g_tup ?_
  | with_reducible refine g_lst ?_
  | with_reducible refine g_gtup ?_
  | with_reducible refine g_make ?_
  | with_reducible refine g_lc ?_
  | with_reducible refine g_yesT ?_
  | with_reducible refine g_intI ?_
  | with_reducible refine g_intB ?_
  | with_reducible refine g_max2 ?_
  | with_reducible refine g_abs1 ?_
  | with_reducible refine g_for ?_
  | with_reducible refine g_iList ?_
  | with_reducible refine g_iTup ?_
  | with_reducible refine g_iRng1 ?_
  | with_reducible refine g_iEnum ?_
  | with_reducible refine g_slice ?_
  | with_reducible refine g_po0 ?_
  | with_reducible refine g_po1 ?_
  | with_reducible refine g_gsub ?_
  | with_reducible refine g_par ?_
  | with_reducible refine g_par2 ?_
  | with_reducible refine g_rfl ?_
  | with_reducible refine g_meth ?_
  | with_reducible refine g_gcons ?_
  | with_reducible refine g_gnil ?_
  | with_reducible refine g_gfld ?_
  | with_reducible refine g_sfld ?_
  | with_reducible refine g_drop ?_
  | with_reducible refine g_next ?_
  | with_reducible refine iteT ?_
  | with_reducible refine iteF ?_)
local macro_rules | `(tactic| walk_at "go") => `(tactic| (repeat walk_at "u"))
local macro_rules | `(tactic| walk_at "f") => `(tactic| (repeat (first
  | walk_at "u"
  | with_reducible refine g_chain ?_
  | with_reducible refine g_par3 ?_
  | with_reducible refine g_par3' ?_
  | ((with_reducible refine show_ex ?_); first
    | refine fT (by assumption) (by assumption) ?_
    | refine fS (by assumption) (by assumption) ?_
    | refine fP (by assumption) (by assumption) ?_))))

section
variable {P : Program} {w : World} {K : PySem.W.Frag} {mg : Str → Option Value} {base : Heap} {C : Addr} {H : Hp} {Q : VK}
/-! ### ten_times -/
theorem ten_lt (n : Nat) : 10 ^ n < 2 ^ (4 * n + 1) := by
  have h : 10 ^ n ≤ 16 ^ n := Nat.pow_le_pow_left (by decide) n
  have e : 16 ^ n = 2 ^ (4 * n) := by rw [Nat.pow_mul]
  have h2 : 2 ^ (4 * n) < 2 ^ (4 * n + 1) := Nat.pow_lt_pow_right (by decide) (by omega)
  omega
theorem ten_abs (n : Nat) : ((10 : Int) ^ n).natAbs = 10 ^ n := by rw [Int.natAbs_pow]; rfl
theorem ten_small {n : Nat} (h : n ≤ 20000) : ((10 : Int) ^ n).natAbs < 2 ^ 100000 := by
  rw [ten_abs]
  exact lt_pow_mono (ten_lt n) (by omega)
theorem sc_tentimes : FnScope ["many", "found", "factor"] ["many"] (defScope s_tentimes) := ⟨rfl, rfl, rfl, by decide +kernel, rfl, by decide +kernel, by decide +kernel⟩
def sp_ten : Sp := fun vs H Q _ => ∃ n : Nat, vs = [.int n] ∧ n ≤ 2000 ∧ ∀ H', Same H H' → Q (.int (10 ^ n)) H'
theorem ok_ten {f : Addr} {fd : FuncData} (F : FunD K "ten_times" "ten_times" (defArgs s_tentimes) (defBody s_tentimes) (defScope s_tentimes) [] [] f fd) : FnOk P w K mg base CX0 1 f fd ["many"] sp_ten := by
  refine F.ok sc_tentimes (fun vs H Q E h => ?_) (fun cdv A outer s H vs Q E hr h => ?_)
  · obtain ⟨_, rfl, _⟩ := h; rfl
  · obtain ⟨n, rfl, hn, q⟩ := h
    refine ⟨_, PSs.nox (pss_cons (ps_asg (pe_tupN (pa_cons pe_int (pa_cons pe_int pa_nil))) (pg_tup rfl (pgs_cons (pg_name (i := 1) sc_tentimes.nd rfl (Or.inl rfl)) (pgs_cons (pg_name (i := 2) sc_tentimes.nd rfl (Or.inl rfl)) pgs_nil))))
  (pss_cons (ps_while PassesOwn.never (pt_cmpR op_oGt (pv 0) pe_int (nomark _))
    (C8.pss_cut (ps_if (pt_cmpR (op_oEq hr.units) (pe_op op_oAnd (pv 0) pe_int) pe_int (nomark _)) (pss_one (ps_set (i := 1) sc_tentimes.nd rfl (Or.inl rfl) (pe_op op_oMul (pv 1) (pv 2)))) pss_nil)
  (pss_cons (ps_set (i := 2) sc_tentimes.nd rfl (Or.inl rfl) (pe_op op_oMul (pv 2) (pv 2)))
  (pss_one (ps_set (i := 0) sc_tentimes.nd rfl (Or.inl rfl) (pe_op op_oShr (pv 0) pe_int))))))
  (pss_one (ps_ret (pv 1))))), ?_⟩
    walk_at "f"
    refine g_new (sz rfl) fun p H1 n1 s1 h1 _ => ?_
    walk_at "f"
    refine ⟨p, _, rfl, SqT.of h1, rfl, ?_⟩
    walk_at "f"
    refine g_while (fun m σ' H' => Same H H' ∧ ∃ a k : Nat, a + m * 2 ^ k = n ∧ σ' = [some (.int m), some (.int (10 ^ a)), some (.int (10 ^ 2 ^ k))]) n ⟨s1, 0, 0, by omega, by simp [L2.start]⟩ ?_
    rintro m _ H2 ⟨s2, a, k, hm, rfl⟩
    walk_at "f"
    refine g_ite (fun h0 => ?_) fun h0 => ?_
    · refine g_wbody ?_
      have hm0 : 1 ≤ m := by omega
      have hk : 2 ^ k ≤ n := by
        have := Nat.mul_le_mul_right (2 ^ k) hm0
        omega
      have ha : a ≤ n := by omega
      walk_at "f"
      refine g_cut (fun σ' H' => Same H H' ∧ σ' = [some (.int m), some (.int (10 ^ (a + (m % 2) * 2 ^ k))), some (.int (10 ^ 2 ^ k))]) ?_ ?_
      · walk_at "f"
        rw [land_one]
        refine g_ite (fun h1 => ?_) fun h1 => ?_
        · walk_at "f"
          refine g_mulI (mul_small (ten_small (by omega)) (ten_small (by omega))) ?_
          walk_at "f"
          refine ⟨s2, ?_⟩
          rw [show m % 2 = 1 by omega, Nat.one_mul, Int.pow_add]
          rfl
        · walk_at "f"
          refine ⟨s2, ?_⟩
          rw [show m % 2 = 0 by omega, Nat.zero_mul, Nat.add_zero]
      · rintro _ H3 ⟨s3, rfl⟩
        walk_at "f"
        refine g_mulI (mul_small (ten_small (by omega)) (ten_small (by omega))) ?_
        walk_at "f"
        refine g_II (by show (0 : Int) ≤ 1; decide) ?_
        walk_at "f"
        have hd : (m : Int) / 2 ^ (1 : Int).toNat = ((m / 2 : Nat) : Int) := by
          show (m : Int) / 2 ^ 1 = _
          omega
        rw [hd]
        refine ⟨m / 2, by omega, s3, a + m % 2 * 2 ^ k, k + 1, ?_, ?_⟩
        · have e : m = 2 * (m / 2) + m % 2 := by omega
          have e2 : m * 2 ^ k = (2 * (m / 2) + m % 2) * 2 ^ k := by rw [← e]
          rw [Nat.pow_succ]
          rw [e2, Nat.add_mul] at hm
          have e3 : m / 2 * (2 ^ k * 2) = 2 * (m / 2) * 2 ^ k := by
            rw [Nat.mul_comm (2 ^ k) 2, ← Nat.mul_assoc, Nat.mul_comm (m / 2) 2]
          omega
        · have e4 : (10 : Int) ^ 2 ^ k * 10 ^ 2 ^ k = 10 ^ 2 ^ (k + 1) := by
            rw [← Int.pow_add, Nat.pow_succ]
            congr 1
            omega
          rw [e4]
          rfl
    · walk_at "f"
      have hm0 : m = 0 := by omega
      subst hm0
      have : a = n := by omega
      subst this
      exact q _ s2
abbrev CTen (P : Program) (w : World) (K : PySem.W.Frag) (mg : Str → Option Value) (base : Heap) : Prop := Fn P w K mg base CX0 1 "ten_times" ["many"] [] sp_ten
/-! ### place_of_first -/
def dg (n : Int) : Str := toString n
def pcA (t b : Nat) (p : Int) : Int := if (t : Int) * 10 ^ (0 - p).toNat < b then p - 1 else p
def pcB (t b : Nat) (p : Int) : Int := if (b : Int) ≤ (t : Int) * 10 ^ (0 - p - 1).toNat then p + 1 else p
def pcF (t b : Nat) : Int := if b ≤ t then ((dg ((t / b : Nat) : Int)).length : Int) - 1 else pcB t b (pcA t b (0 - ((dg ((b / t : Nat) : Int)).length : Int)))
/-- what is asked of a fraction -/
structure PlOk (t b : Nat) : Prop where
  t0 : 0 < t
  b0 : 0 < b
  tb : t < 2 ^ 1200
  bb : b < 2 ^ 1200
  l1 : (dg ((t / b : Nat) : Int)).length ≤ 600
  l2 : 1 ≤ (dg ((b / t : Nat) : Int)).length
  l3 : (dg ((b / t : Nat) : Int)).length ≤ 600
theorem sc_placeoffirst : FnScope ["top", "bottom", "place"] ["top", "bottom"] (defScope s_placeoffirst) := ⟨rfl, rfl, rfl, by decide +kernel, rfl, by decide +kernel, by decide +kernel⟩
def sp_place1 : Sp := fun vs H Q _ => ∃ t b : Nat, vs = [.int t, .int b] ∧ PlOk t b ∧ ∀ H', Same H H' → Q (.int (pcF t b)) H'
theorem div_log {a b : Nat} (h : a < 2 ^ 1200) : ((a / b : Nat) : Int).natAbs.log2 < 1920 := by
  rw [Int.natAbs_natCast]
  exact Nat.lt_trans (log2_lt (k := 1200) (Nat.lt_of_le_of_lt (Nat.div_le_self _ _) h) (by decide)) (by decide)
theorem ok_place1 {f : Addr} {fd : FuncData} (F : FunD K "place_of_first" "place_of_first" (defArgs s_placeoffirst) (defBody s_placeoffirst) (defScope s_placeoffirst) [] [] f fd) (B : Blt mg) (c_tentimes : CTen P w K mg base) : FnOk P w K mg base CX0 2 f fd ["top", "bottom"] sp_place1 := by
  refine F.ok sc_placeoffirst (fun vs H Q E h => ?_) (fun cdv A outer s H vs Q E hr h => ?_)
  · obtain ⟨_, _, rfl, _⟩ := h; rfl
  · obtain ⟨t, b, rfl, ok, q⟩ := h
    obtain ⟨t0, b0, tb, bb, l1, l2, l3⟩ := ok
    refine ⟨_, PSs.nox (pss_cons (ps_if (pt_cmpR op_oGe (pv 0) (pv 1) (nomark _)) (pss_one (ps_ret (pe_op op_oSub (pe_callB call_len_str (by rfl) B.len (by decide +kernel) (pa_cons (pe_callTy call_str_int (by rfl) B.str (by decide +kernel) (pa_cons (pe_op op_oDiv (pv 0) (pv 1)) pa_nil)) pa_nil)) pe_int))) pss_nil)
  (pss_cons (ps_set (i := 2) sc_placeoffirst.nd rfl (Or.inl rfl) (pe_op op_oSub pe_int (pe_callB call_len_str (by rfl) B.len (by decide +kernel) (pa_cons (pe_callTy call_str_int (by rfl) B.str (by decide +kernel) (pa_cons (pe_op op_oDiv (pv 1) (pv 0)) pa_nil)) pa_nil))))
  (C8.pss_cut (ps_if (pt_cmpR op_oLt (pe_op op_oMul (pv 0) (pe_fn c_tentimes (hr.mono (by first | decide | omega)) pass0 (pa_cons (pe_op op_oSub pe_int (pv 2)) pa_nil))) (pv 1) (nomark _)) (pss_one (ps_set (i := 2) sc_placeoffirst.nd rfl (Or.inl rfl) (pe_op op_oSub (pv 2) pe_int))) pss_nil)
  (C8.pss_cut (ps_if (pt_cmpR op_oGe (pe_op op_oMul (pv 0) (pe_fn c_tentimes (hr.mono (by first | decide | omega)) pass0 (pa_cons (pe_op op_oSub (pe_op op_oSub pe_int (pv 2)) pe_int) pa_nil))) (pv 1) (nomark _)) (pss_one (ps_set (i := 2) sc_placeoffirst.nd rfl (Or.inl rfl) (pe_op op_oAdd (pv 2) pe_int))) pss_nil)
  (pss_one (ps_ret (pv 2))))))), ?_⟩
    unfold pcF at q
    walk_at "f"
    refine g_ite (fun h1 => ?_) fun h1 => ?_
    · rw [if_pos (show b ≤ t by omega)] at q
      walk_at "f"
      refine g_divI (by omega) (by rw [Int.natAbs_natCast]; exact Nat.lt_trans (log2_lt bb (by decide)) (by decide)) ?_
      rw [fdiv_nat]
      refine ⟨_, rfl, div_log tb, ?_⟩
      walk_at "f"
      refine ⟨_, rfl, Nat.le_trans l1 (by decide), ?_⟩
      walk_at "f"
      exact q _ (Same.refl _)
    · rw [if_neg (show ¬ b ≤ t by omega)] at q
      walk_at "f"
      refine g_divI (by omega) (by rw [Int.natAbs_natCast]; exact Nat.lt_trans (log2_lt tb (by decide)) (by decide)) ?_
      rw [fdiv_nat]
      refine ⟨_, rfl, div_log bb, ?_⟩
      walk_at "f"
      refine ⟨_, rfl, Nat.le_trans l3 (by decide), ?_⟩
      walk_at "f"
      have l2 : 1 ≤ ((dg ((b / t : Nat) : Int)).length : Int) := by omega
      have l3 : ((dg ((b / t : Nat) : Int)).length : Int) ≤ 600 := by omega
      have ed : (((toString ((b / t : Nat) : Int) : String) : Str).length : Int) = ((dg ((b / t : Nat) : Int)).length : Int) := rfl
      rw [ed]
      generalize ((dg ((b / t : Nat) : Int)).length : Int) = l at *
      have tt : (t : Int).natAbs < 2 ^ 100000 := lt_pow_mono (a := 1200) (by rw [Int.natAbs_natCast]; exact tb) (by decide)
      refine g_cut (fun σ' H' => Same H H' ∧ σ' = [some (.int t), some (.int b), some (.int (pcA t b (0 - l)))]) ?_ ?_
      · walk_at "f"
        refine ⟨(0 - (0 - l)).toNat, by rw [Int.toNat_of_nonneg (by omega)]; rfl, by omega, fun H1 s1 => ?_⟩
        refine g_mulI (mul_small tt (ten_small (by omega))) ?_
        walk_at "f"
        unfold pcA
        refine g_ite (fun h2 => ?_) fun h2 => ?_
        · walk_at "f"
          rw [if_pos h2]
          exact ⟨s1, rfl⟩
        · walk_at "f"
          rw [if_neg h2]
          exact ⟨s1, rfl⟩
      · rintro _ H1 ⟨s1, rfl⟩
        have q := fun H' s => q H' (s1.trans s)
        have pa : -700 ≤ pcA t b (0 - l) ∧ pcA t b (0 - l) ≤ -1 := by
          unfold pcA
          split <;> omega
        generalize pcA t b (0 - l) = p at *
        unfold pcB at q
        walk_at "f"
        refine g_cut (fun σ' H' => Same H1 H' ∧ σ' = [some (.int t), some (.int b), some (.int (pcB t b p))]) ?_ ?_
        · walk_at "f"
          refine ⟨(0 - p - 1).toNat, by rw [Int.toNat_of_nonneg (by omega)]; rfl, by omega, fun H2 s2 => ?_⟩
          refine g_mulI (mul_small tt (ten_small (by omega))) ?_
          walk_at "f"
          unfold pcB
          refine g_ite (fun h2 => ?_) fun h2 => ?_
          · walk_at "f"
            rw [if_pos h2]
            exact ⟨s2, rfl⟩
          · walk_at "f"
            rw [if_neg h2]
            exact ⟨s2, rfl⟩
        · rintro _ H2 ⟨s2, rfl⟩
          walk_at "f"
          exact q _ s2
/-! ### rounded_at -/
def rdT (t : Nat) (p : Int) : Nat := if 0 ≤ p then t * 10 ^ p.toNat else t
def rdB (b : Nat) (p : Int) : Nat := if 0 ≤ p then b else b * 10 ^ (0 - p).toNat
def rdW (t b : Nat) : Nat := if 2 * (t % b) > b ∨ (2 * (t % b) = b ∧ t / b % 2 = 1) then t / b + 1 else t / b
def rdA (t b : Nat) (p : Int) : Nat := rdW (rdT t p) (rdB b p)
theorem sc_roundedat : FnScope ["top", "bottom", "places", "whole", "rest"] ["top", "bottom", "places"] (defScope s_roundedat) := ⟨rfl, rfl, rfl, by decide +kernel, rfl, by decide +kernel, by decide +kernel⟩
def sp_round : Sp := fun vs H Q _ => ∃ (t b : Nat) (p : Int), vs = [.int t, .int b, .int p] ∧ 0 < b ∧ t < 2 ^ 1200 ∧ b < 2 ^ 1200 ∧ -1000 ≤ p ∧ p ≤ 1000 ∧ ∀ H', Same H H' → Q (.int (rdA t b p : Nat)) H'
theorem ten_mul {t : Nat} {n : Nat} (h : t < 2 ^ 1200) (hn : n ≤ 1000) : t * 10 ^ n < 2 ^ 5201 := by
  have h1 := ten_lt n
  have h2 : t * 10 ^ n ≤ 2 ^ 1200 * 2 ^ (4 * n + 1) := Nat.mul_le_mul (Nat.le_of_lt h) (Nat.le_of_lt h1)
  have h3 : t * 10 ^ n < 2 ^ 1200 * 2 ^ (4 * n + 1) := by
    have : t * 10 ^ n < 2 ^ 1200 * 10 ^ n := Nat.mul_lt_mul_of_pos_right h (Nat.pow_pos (by decide))
    exact Nat.lt_of_lt_of_le this (Nat.mul_le_mul_left _ (Nat.le_of_lt h1))
  rw [← Nat.pow_add] at h3
  exact lt_pow_mono h3 (by omega)
theorem ok_round {f : Addr} {fd : FuncData} (F : FunD K "rounded_at" "rounded_at" (defArgs s_roundedat) (defBody s_roundedat) (defScope s_roundedat) [] [] f fd) (B : Blt mg) (c_tentimes : CTen P w K mg base) : FnOk P w K mg base CX0 2 f fd ["top", "bottom", "places"] sp_round := by
  refine F.ok sc_roundedat (fun vs H Q E h => ?_) (fun cdv A outer s H vs Q E hr h => ?_)
  · obtain ⟨_, _, _, rfl, _⟩ := h; rfl
  · obtain ⟨t, b, p, rfl, b0, tb, bb, p1, p2, q⟩ := h
    refine ⟨_, PSs.nox (C8.pss_cut (ps_if (pt_cmpR op_oGe (pv 2) pe_int (nomark _)) (pss_one (ps_set (i := 0) sc_roundedat.nd rfl (Or.inl rfl) (pe_op op_oMul (pv 0) (pe_fn c_tentimes (hr.mono (by first | decide | omega)) pass0 (pa_cons (pv 2) pa_nil))))) (pss_one (ps_set (i := 1) sc_roundedat.nd rfl (Or.inl rfl) (pe_op op_oMul (pv 1) (pe_fn c_tentimes (hr.mono (by first | decide | omega)) pass0 (pa_cons (pe_op op_oSub pe_int (pv 2)) pa_nil))))))
  (pss_cons (ps_asg (pe_callB call_divmodK (by rfl) B.divmod (by decide +kernel) (pa_cons (pv 0) (pa_cons (pv 1) pa_nil))) (pg_tup rfl (pgs_cons (pg_name (i := 3) sc_roundedat.nd rfl (Or.inl rfl)) (pgs_cons (pg_name (i := 4) sc_roundedat.nd rfl (Or.inl rfl)) pgs_nil))))
  (C8.pss_cut (ps_if (PW.pt (pw_or (pt_cmpR op_oGt (pe_op op_oMul pe_int (pv 4)) (pv 1) (nomark _)) (pw_or1 (PW.pt (pw_and (pt_cmpR (op_oEq hr.units) (pe_op op_oMul pe_int (pv 4)) (pv 1) (nomark _)) (pw_and1 (pt_cmpR (op_oEq hr.units) (pe_op op_oAnd (pv 3) pe_int) pe_int (nomark _)))))))) (pss_one (ps_set (i := 3) sc_roundedat.nd rfl (Or.inl rfl) (pe_op op_oAdd (pv 3) pe_int))) pss_nil)
  (pss_one (ps_ret (pv 3)))))), ?_⟩
    unfold rdA at q
    walk_at "f"
    refine g_cut (fun σ' H' => Same H H' ∧ σ' = [some (.int (rdT t p : Nat)), some (.int (rdB b p : Nat)), some (.int p), none, none]) ?_ ?_
    · walk_at "f"
      unfold rdT rdB
      refine g_ite (fun h1 => ?_) fun h1 => ?_
      · walk_at "f"
        refine ⟨p.toNat, by rw [Int.toNat_of_nonneg h1]; rfl, by omega, fun H1 s1 => ?_⟩
        refine g_mulI (mul_small (lt_pow_mono (a := 1200) (by rw [Int.natAbs_natCast]; exact tb) (by decide)) (ten_small (by omega))) ?_
        walk_at "f"
        rw [if_pos h1, if_pos h1]
        refine ⟨s1, ?_⟩
        rw [Int.natCast_mul, Int.natCast_pow]
        rfl
      · walk_at "f"
        refine ⟨(0 - p).toNat, by rw [Int.toNat_of_nonneg (by omega)]; rfl, by omega, fun H1 s1 => ?_⟩
        refine g_mulI (mul_small (lt_pow_mono (a := 1200) (by rw [Int.natAbs_natCast]; exact bb) (by decide)) (ten_small (by omega))) ?_
        walk_at "f"
        rw [if_neg h1, if_neg h1]
        refine ⟨s1, ?_⟩
        rw [Int.natCast_mul, Int.natCast_pow]
        rfl
    · rintro _ H1 ⟨s1, rfl⟩
      have hB : 0 < rdB b p := by
        unfold rdB
        split
        · exact b0
        · exact Nat.mul_pos b0 (Nat.pow_pos (by decide))
      have hB2 : rdB b p < 2 ^ 5201 := by
        unfold rdB
        split
        · exact lt_pow_mono bb (by decide)
        · exact ten_mul bb (by omega)
      generalize rdB b p = y at *
      generalize rdT t p = x at *
      walk_at "f"
      refine ⟨_, _, rfl, ⟨by omega, by rw [Int.natAbs_natCast]; exact Nat.lt_trans (log2_lt hB2 (by decide)) (by decide)⟩, fun a H2 na s2 ha _ => ?_⟩
      walk_at "f"
      refine ⟨a, _, rfl, SqT.of ha, rfl, ?_⟩
      walk_at "f"
      have eQ : ((x : Nat) : Int) / ((y : Nat) : Int) = ((x / y : Nat) : Int) := rfl
      have eR : ((x : Nat) : Int) % ((y : Nat) : Int) = ((x % y : Nat) : Int) := rfl
      rw [eQ, eR]
      refine g_cut (fun σ' H' => Same H2 H' ∧ σ' = [some (.int (x : Nat)), some (.int (y : Nat)), some (.int p), some (.int (rdW x y : Nat)), some (.int (x % y : Nat))]) ?_ ?_
      · walk_at "f"
        refine g_mulI (.of_left (by decide)) ?_
        walk_at "f"
        unfold rdW
        refine g_ite (fun h1 => ?_) fun h1 => ?_
        · walk_at "f"
          refine ⟨Same.refl _, ?_⟩
          rw [if_pos (.inl (by omega))]
          rfl
        · walk_at "f"
          refine g_mulI (.of_left (by decide)) ?_
          walk_at "f"
          refine g_ite (fun h2 => ?_) fun h2 => ?_
          · walk_at "f"
            rw [land_one]
            refine g_ite (fun h3 => ?_) fun h3 => ?_
            · walk_at "f"
              refine ⟨Same.refl _, ?_⟩
              rw [if_pos (.inr ⟨by omega, by omega⟩)]
              rfl
            · walk_at "f"
              refine ⟨Same.refl _, ?_⟩
              rw [if_neg (fun z => z.elim (fun z => h1 (by omega)) fun z => h3 (by omega))]
              try rfl
          · walk_at "f"
            refine ⟨Same.refl _, ?_⟩
            rw [if_neg (fun z => z.elim (fun z => h1 (by omega)) fun z => h2 (by omega))]
            try rfl
      · rintro _ H3 ⟨s3, rfl⟩
        walk_at "f"
        exact q _ ((s1.trans s2).trans s3)
end
end Up

set_option Elab.async false
set_option linter.all false
set_option pp.maxSteps 600
set_option maxRecDepth 100000
set_option maxHeartbeats 4000000
set_option exponentiation.threshold 200000
namespace Up
open PySem PySem.Spec PyProof.Rows L2
local macro_rules | `(tactic| walk_at "u") => `(tactic| first
  | with_reducible refine g_seq ?_
  | with_reducible refine g_asg ?_
  | with_reducible refine g_op ?_
  | ((with_reducible show tVar _ _ _ _); apply g_var; exact rfl)
  | with_reducible refine g_c ?_
  | with_reducible refine g_name ?_
  | with_reducible refine g_ifs ?_
  | with_reducible refine g_tt ?_
  | with_reducible refine g_tB ?_
  | with_reducible refine g_bl ?_
  | with_reducible refine g_ret ?_
  | with_reducible refine g_cb ?_
  | with_reducible refine g_cons ?_
  | with_reducible refine g_nil ?_
  | with_reducible refine g_call ?_
  | with_reducible refine g_and ?_
  | with_reducible refine g_or ?_
  | with_reducible refine g_not ?_
  | with_reducible refine g_andV ?_
  | with_reducible refine g_orV ?_
  | with_reducible refine g_notV ?_
  | with_reducible refine g_if ?_
  | with_reducible refine g_un ?_
  | with_reducible refine g_neg ?_
  | with_reducible refine g_addI ?_
  | with_reducible refine g_subI ?_
  | with_reducible refine g_subB ?_
  | with_reducible refine g_I0 ?_
  | with_reducible refine g_cmpI ?_
  | with_reducible refine g_eqI ?_
  | with_reducible refine g_neI ?_
  | with_reducible refine g_eqS ?_
  | with_reducible refine g_neS ?_
  | with_reducible refine g_eqB ?_
  | with_reducible refine g_neB ?_
  | with_reducible refine g_bits ?_
  | with_reducible refine g_bitsI ?_
  | with_reducible refine g_fld ?_
  | with_reducible refine g_tup ?_
  | with_reducible refine g_lst ?_
  | with_reducible refine g_gtup ?_
  | with_reducible refine g_make ?_
  | with_reducible refine g_lc ?_
  | with_reducible refine g_yesT ?_
  | with_reducible refine g_intI ?_
  | with_reducible refine g_intB ?_
  | with_reducible refine g_max2 ?_
  | with_reducible refine g_abs1 ?_
  | with_reducible refine g_for ?_
  | with_reducible refine g_iList ?_
  | with_reducible refine g_iTup ?_
  | with_reducible refine g_iRng1 ?_
  | with_reducible refine g_iEnum ?_
  | with_reducible refine g_slice ?_
  | with_reducible refine g_po0 ?_
  | with_reducible refine g_po1 ?_
  | with_reducible refine g_gsub ?_
  | with_reducible refine g_par ?_
  | with_reducible refine g_par2 ?_
  | with_reducible refine g_rfl ?_
  | with_reducible refine g_meth ?_
  | with_reducible refine g_gcons ?_
  | with_reducible refine g_gnil ?_
  | with_reducible refine g_gfld ?_
  | with_reducible refine g_sfld ?_
  | with_reducible refine g_drop ?_
  | with_reducible refine g_next ?_
  | with_reducible refine iteT ?_
  | with_reducible refine iteF ?_)
local macro_rules | `(tactic| walk_at "go") => `(tactic| (repeat walk_at "u"))
local macro_rules | `(tactic| walk_at "f") => `(tactic| (repeat (first
  | walk_at "u"
  | with_reducible refine g_chain ?_
  | with_reducible refine g_par3 ?_
  | with_reducible refine g_par3' ?_
  | ((with_reducible refine show_ex ?_); first
    | refine fT (by assumption) (by assumption) ?_
    | refine fS (by assumption) (by assumption) ?_
    | refine fP (by assumption) (by assumption) ?_))))

section
variable {P : Program} {w : World} {K : PySem.W.Frag} {mg : Str → Option Value} {base : Heap} {C : Addr} {H : Hp} {Q : VK}
/-! ### shown -/
def shR (t b : Nat) : Nat := rdA t b (13 - pcF t b)
def shP (t b : Nat) : Int := if shR t b = 10 ^ 14 then pcF t b + 1 else pcF t b
def shF (t b : Nat) : Nat := if shR t b = 10 ^ 14 then shR t b / 10 else shR t b
def shG (t b : Nat) : Str := Txt.rstripChars (dg (shF t b : Nat)) "0"
def hdS (z : Str) : Str := match z.cps.toList with
  | c :: _ => ⟨#[c]⟩
  | [] => Str.empty
def ptS (g : Str) : Str := if 1 < g.length then ("." : Str) else ("" : Str)
def sgS (p : Int) : Str := if p < 0 then ("-" : Str) else ("+" : Str)
def sgA (s : Int) : Str := if s < 0 then ("-" : Str) else ("" : Str)
def frS (p : Int) : Str := dg (if p < 0 then -p else p)
def shX (p : Int) (g : Str) : Str := ((((((hdS g ++ ptS g) ++ cutS g (some 1) none) ++ "e") ++ sgS p) ++ repS "0" (2 - ((frS p).length : Int))) ++ frS p)
def orS (z y : Str) : Str := if z.length = 0 then y else z
def shW (p : Int) (g : Str) : Str := (cutS g none (some (p + 1)) ++ ".") ++ orS (cutS g (some (p + 1)) none) "0"
def shV (p : Int) (g : Str) : Str := if p < -4 ∨ 14 ≤ p then shX p g else if p < 0 then ("0." ++ repS "0" (0 - p - 1)) ++ g else shW p (g ++ repS "0" (p + 1 - (g.length : Int)))
def shS (t b : Nat) : Str := shV (shP t b) (shG t b)
structure ShOk (t b : Nat) : Prop where
  pl : PlOk t b
  p1 : -900 ≤ pcF t b
  p2 : pcF t b ≤ 900
  f1 : shF t b < 2 ^ 100
  f2 : (dg (shF t b : Nat)).length ≤ 100
  g1 : 1 ≤ (shG t b).length
  g2 : (shG t b).length ≤ 100
  r : (frS (shP t b)).length ≤ 10
theorem sc_shown : FnScope ["number", "top", "bottom", "place", "figures", "signs", "point", "far"] ["number"] (defScope s_shown) := ⟨rfl, rfl, rfl, by decide +kernel, rfl, by decide +kernel, by decide +kernel⟩
def sp_shown (C : Addr) : Sp := fun vs H Q _ => ∃ (a : Addr) (n : Nat) (p : Int), vs = [.ref a] ∧ FlAt C H a 1 (.int n) p ∧ FlOk 1 (.int n) p ∧ ShOk (ratN 1 n p).toNat (ratD p).toNat ∧ ∀ H', Same H H' → Q (.str (shS (ratN 1 n p).toNat (ratD p).toNat)) H'
theorem hd_len (z : Str) : (hdS z).length ≤ 1 := by
  unfold hdS
  split
  · exact Nat.le_refl _
  · exact Nat.zero_le _
theorem hd_at {z : Str} (h : 1 ≤ z.length) : ∃ c, atI z.cps.toList 0 = some c ∧ hdS z = ⟨#[c]⟩ := by
  have h2 : 1 ≤ z.cps.toList.length := by rw [Array.length_toList]; exact h
  unfold hdS
  cases e : z.cps.toList with
  | nil => rw [e] at h2; cases h2
  | cons c r => exact ⟨c, by unfold atI ixN; rw [if_pos (Int.le_refl _), if_pos (show (0 : Int) < ((c :: r).length : Nat) by simp only [List.length_cons]; omega)]; rfl, rfl⟩
theorem or_len (z y : Str) : (orS z y).length ≤ z.length + y.length := by
  unfold orS
  split <;> omega
theorem lens : ("0" : Str).length = 1 ∧ ("0." : Str).length = 2 ∧ ("." : Str).length = 1 ∧ ("" : Str).length = 0 ∧ ("e" : Str).length = 1 ∧ ("-" : Str).length = 1 ∧ ("+" : Str).length = 1 := by decide +kernel
theorem rat_nn {n : Nat} {p : Int} : 0 ≤ ratN 1 n p ∧ 0 ≤ ratD p := by
  unfold ratN ratD
  constructor
  · split
    · omega
    · exact Int.mul_nonneg (by decide) (Int.mul_nonneg (by omega) (Int.le_of_lt (Int.pow_pos (by decide))))
  · split
    · exact Int.le_of_lt (Int.pow_pos (by decide))
    · decide
theorem ok_shown {f : Addr} {fd : FuncData} (F : FunD K "shown" "shown" (defArgs s_shown) (defBody s_shown) (defScope s_shown) [] [] f fd) (B : Blt mg) (i_SHOWN : ∃ t, mg "SHOWN" = some (.int 14 t)) (c_ratio : CRat P w K mg base C) (c_placeoffirst : Fn P w K mg base CX0 2 "place_of_first" ["top", "bottom"] [] sp_place1) (c_roundedat : Fn P w K mg base CX0 2 "rounded_at" ["top", "bottom", "places"] [] sp_round) :
    FnOk P w K mg base CX0 3 f fd ["number"] (sp_shown C) := by
  refine F.ok sc_shown (fun vs H Q E h => ?_) (fun cdv A outer s H vs Q E hr h => ?_)
  · obtain ⟨_, _, _, rfl, _⟩ := h; rfl
  · obtain ⟨a, n, p, rfl, ha, ok, so, q⟩ := h
    refine ⟨_, PSs.nox (pss_cons (ps_asg (pe_mt0 c_ratio (hr.mono (by first | decide | omega)) pass0 (pv 0)) (pg_tup rfl (pgs_cons (pg_name (i := 1) sc_shown.nd rfl (Or.inl rfl)) (pgs_cons (pg_name (i := 2) sc_shown.nd rfl (Or.inl rfl)) pgs_nil))))
  (pss_cons (ps_set (i := 3) sc_shown.nd rfl (Or.inl rfl) (pe_fn c_placeoffirst (hr.mono (by first | decide | omega)) pass0 (pa_cons (pv 1) (pa_cons (pv 2) pa_nil))))
  (pss_cons (ps_set (i := 4) sc_shown.nd rfl (Or.inl rfl) (pe_fn c_roundedat (hr.mono (by first | decide | omega)) pass0 (pa_cons (pv 1) (pa_cons (pv 2) (pa_cons (pe_op op_oSub (pe_op op_oSub (pe_gint i_SHOWN) pe_int) (pv 3)) pa_nil)))))
  (C8.pss_cut (ps_if (pt_cmpR (op_oEq hr.units) (pv 4) (pe_op op_oPow pe_int pe_int) (nomark _)) (pss_cons (ps_set (i := 4) sc_shown.nd rfl (Or.inl rfl) (pe_op op_oDiv (pv 4) pe_int))
  (pss_one (ps_set (i := 3) sc_shown.nd rfl (Or.inl rfl) (pe_op op_oAdd (pv 3) pe_int)))) pss_nil)
  (pss_cons (ps_set (i := 5) sc_shown.nd rfl (Or.inl rfl) (pe_m1 PySem.F.slot_str_rstrip PySem.F.type_str_rstrip mt_rstripChars (pe_callTy call_str_int (by rfl) B.str (by decide +kernel) (pa_cons (pv 4) pa_nil)) pe_str))
  (pss_cons (ps_if (pt_cut (PW.pt (pw_or (pt_cmpR op_oLt (pv 3) (pe_un un_neg pe_int) (nomark _)) (pw_or1 (pt_cmpR op_oGe (pv 3) (pe_gint i_SHOWN) (nomark _)))))) (pss_cons (ps_set (i := 6) sc_shown.nd rfl (Or.inl rfl) (pe_cut (pe_ifExp (pt_cmpR op_oGt (pe_callB call_len_str (by rfl) B.len (by decide +kernel) (pa_cons (pv 5) pa_nil)) pe_int (nomark _)) pe_str pe_str)))
  (pss_cons (ps_set (i := 7) sc_shown.nd rfl (Or.inl rfl) (pe_callTy call_str_int (by rfl) B.str (by decide +kernel) (pa_cons (pe_callB call_abs (by rfl) B.abs (by decide +kernel) (pa_cons (pv 3) pa_nil)) pa_nil)))
  (pss_one (ps_ret (pe_op op_oAdd (pe_op op_oAdd (pe_op op_oAdd (pe_op op_oAdd (pe_op op_oAdd (pe_op op_oAdd (pe_ix ix_str (pv 5) pe_int (fun _ _ => rfl)) (pv 6)) (pe_slice sl_str (pv 5) (po_some pe_int) po_none)) pe_str) (pe_cut (pe_ifExp (pt_cmpR op_oLt (pv 3) pe_int (nomark _)) pe_str pe_str))) (pe_op op_mulT pe_str (pe_op op_oSub pe_int (pe_callB call_len_str (by rfl) B.len (by decide +kernel) (pa_cons (pv 7) pa_nil))))) (pv 7)))))) pss_nil)
  (pss_cons (ps_if (pt_cmpR op_oLt (pv 3) pe_int (nomark _)) (pss_one (ps_ret (pe_op op_oAdd (pe_op op_oAdd pe_str (pe_op op_mulT pe_str (pe_op op_oSub (pe_op op_oSub pe_int (pv 3)) pe_int))) (pv 5)))) pss_nil)
  (pss_cons (ps_set (i := 5) sc_shown.nd rfl (Or.inl rfl) (pe_op op_oAdd (pv 5) (pe_op op_mulT pe_str (pe_op op_oSub (pe_op op_oAdd (pv 3) pe_int) (pe_callB call_len_str (by rfl) B.len (by decide +kernel) (pa_cons (pv 5) pa_nil))))))
  (pss_one (ps_ret (pe_op op_oAdd (pe_op op_oAdd (pe_slice sl_str (pv 5) po_none (po_some (pe_op op_oAdd (pv 3) pe_int))) pe_str) (pe_orT (pe_slice sl_str (pv 5) (po_some (pe_op op_oAdd (pv 3) pe_int)) po_none) (pe_one pe_str))))))))))))), ?_⟩
    obtain ⟨r1, r2⟩ := rat_nn (n := n) (p := p)
    have e1 : ratN 1 n p = (((ratN 1 n p).toNat : Nat) : Int) := (Int.toNat_of_nonneg r1).symm
    have e2 : ratD p = (((ratD p).toNat : Nat) : Int) := (Int.toNat_of_nonneg r2).symm
    walk_at "f"
    refine g_rat ha ok fun H1 x n1 s1 hx => ?_
    walk_at "f"
    refine ⟨x, _, rfl, SqT.of hx, rfl, ?_⟩
    walk_at "f"
    rw [e1, e2]
    generalize (ratN 1 n p).toNat = t at *
    generalize (ratD p).toNat = b at *
    obtain ⟨pl, p1, p2, f1, f2, g1, g2, r⟩ := so
    refine ⟨t, b, rfl, pl, fun H2 s2 => ?_⟩
    walk_at "f"
    refine ⟨t, b, 13 - pcF t b, ?_, pl.b0, pl.tb, pl.bb, by omega, by omega, fun H3 s3 => ?_⟩
    · rw [show (14 - 1 - pcF t b : Int) = 13 - pcF t b by omega]
      rfl
    have S3 := (s1.trans s2).trans s3
    walk_at "f"
    refine g_cut (fun σ' H' => H' = H3 ∧ σ' = [some (.ref a), some (.int t), some (.int b), some (.int (shP t b)), some (.int (shF t b : Nat)), none, none, none]) ?_ ?_
    · walk_at "f"
      refine g_II ⟨by decide, by decide, by decide⟩ ?_
      walk_at "f"
      have eR : rdA t b (13 - pcF t b) = shR t b := rfl
      rw [eR]
      unfold shP shF
      generalize shR t b = z
      refine g_ite (fun h1 => ?_) fun h1 => ?_
      · have h1 : (z : Int) = ((10 ^ 14 : Nat) : Int) := h1
        have h1 : z = 10 ^ 14 := by exact_mod_cast h1
        walk_at "f"
        refine g_divI (by decide) (by decide) ?_
        rw [show (10 : Int) = ((10 : Nat) : Int) from rfl, fdiv_nat]
        walk_at "f"
        rw [if_pos h1, if_pos h1]
        exact ⟨rfl, rfl⟩
      · have h1 : ¬ z = 10 ^ 14 := fun y => h1 (by rw [y]; rfl)
        walk_at "f"
        rw [if_neg h1, if_neg h1]
        exact ⟨rfl, rfl⟩
    · rintro _ H4 ⟨rfl, rfl⟩
      walk_at "f"
      refine g_m1 ?_
      walk_at "f"
      refine ⟨?_, ⟨_, rfl⟩, ?_⟩
      · rw [Int.natAbs_natCast]
        exact Nat.lt_trans (log2_lt (k := 100) f1 (by decide)) (by decide)
      walk_at "f"
      refine ⟨_, _, rfl, rfl, Nat.le_trans f2 (by decide), ?_⟩
      walk_at "f"
      have eG : Txt.rstripChars ((toString ((shF t b : Nat) : Int) : String) : Str) "0" = shG t b := rfl
      rw [eG]
      have q : Q (.str (shV (shP t b) (shG t b))) H4 := q H4 S3
      have p3 : -900 ≤ shP t b ∧ shP t b ≤ 901 := by
        unfold shP
        split <;> omega
      clear f1 f2 e1 e2 eG pl p1 p2
      obtain ⟨l1, l2, l3, l4, l5, l6, l7⟩ := lens
      generalize shG t b = g at *
      generalize shP t b = p at *
      refine g_cutT (fun c H' => H' = H4 ∧ c = decide (p < -4 ∨ 14 ≤ p)) ?_ ?_
      · walk_at "f"
        refine g_ite (fun h1 => ?_) fun h1 => ?_
        · walk_at "f"
          exact ⟨rfl, (decide_eq_true (.inl h1)).symm⟩
        · walk_at "f"
          refine ⟨rfl, ?_⟩
          by_cases h2 : 14 ≤ p
          · rw [decide_eq_true h2, decide_eq_true (.inr h2)]
          · rw [decide_eq_false h2, decide_eq_false (fun z => z.elim h1 h2)]
      · rintro _ H4 ⟨rfl, rfl⟩
        unfold shV at q
        refine g_ite (fun h1 => ?_) fun h1 => ?_
        · rw [if_pos h1] at q
          walk_at "f"
          refine g_cutE (fun z H' => z = .str (ptS g) ∧ H' = H4) ?_ ?_
          · walk_at "f"
            refine ⟨g, rfl, Nat.le_trans g2 (by decide), ?_⟩
            walk_at "f"
            unfold ptS
            refine g_ite (fun h2 => ?_) fun h2 => ?_
            · walk_at "f"
              rw [if_pos (show 1 < g.length by omega)]
              exact ⟨rfl, rfl⟩
            · walk_at "f"
              rw [if_neg (show ¬ 1 < g.length by omega)]
              exact ⟨rfl, rfl⟩
          · rintro _ H4 ⟨rfl, rfl⟩
            have lp : (ptS g).length ≤ 1 := by unfold ptS; split <;> omega
            have hx : shX p g = ((((((hdS g ++ ptS g) ++ cutS g (some 1) none) ++ "e") ++ sgS p) ++ repS "0" (2 - ((frS p).length : Int))) ++ frS p) := rfl
            rw [hx] at q
            generalize ptS g = pt at *
            walk_at "f"
            refine ⟨Nat.lt_trans (log2_lt (k := 20) (show (if p < 0 then -p else p).natAbs < 2 ^ 20 by split <;> omega) (by decide)) (by decide), ?_⟩
            have eF : ((toString (if p < 0 then -p else p) : String) : Str) = frS p := rfl
            rw [eF]
            walk_at "f"
            obtain ⟨c, hc, ehd⟩ := hd_at g1
            have hl := hd_len g
            refine ⟨g, 0, c, rfl, rfl, Nat.le_trans g2 (by decide), hc, ?_⟩
            rw [← ehd]
            walk_at "f"
            have c1 := cutS_length g (some 1) none
            refine g_addS (sz (Nat.ble_eq.mpr (by omega))) ?_
            walk_at "f"
            refine g_slS (Nat.le_trans g2 (by decide)) ?_
            refine g_addS (sz (Nat.ble_eq.mpr (by rw [add_len]; omega))) ?_
            walk_at "f"
            refine g_addS (sz (Nat.ble_eq.mpr (by rw [add_len, add_len, l5]; omega))) ?_
            walk_at "f"
            refine g_cutE (fun z H' => z = .str (sgS p) ∧ H' = H4) ?_ ?_
            · walk_at "f"
              unfold sgS
              refine g_ite (fun h2 => ?_) fun h2 => ?_
              · walk_at "f"
                rw [if_pos h2]
                exact ⟨rfl, rfl⟩
              · walk_at "f"
                rw [if_neg h2]
                exact ⟨rfl, rfl⟩
            · rintro _ H4 ⟨rfl, rfl⟩
              have ls : (sgS p).length = 1 := by unfold sgS; split <;> assumption
              generalize sgS p = sg at *
              generalize frS p = fr at *
              refine g_addS (sz (Nat.ble_eq.mpr (by rw [add_len, add_len, add_len, l5]; omega))) ?_
              walk_at "f"
              refine ⟨fr, rfl, Nat.le_trans r (by decide), ?_⟩
              walk_at "f"
              refine g_mulT (by omega) (by omega) (by decide +kernel) (by rw [l1]; omega) ?_
              refine g_addS (sz (Nat.ble_eq.mpr (by rw [add_len, add_len, add_len, add_len, rep_len, l1, l5]; omega))) ?_
              walk_at "f"
              refine g_addS (sz (Nat.ble_eq.mpr (by rw [add_len, add_len, add_len, add_len, add_len, rep_len, l1, l5]; omega))) ?_
              exact q
        · rw [if_neg h1] at q
          walk_at "f"
          refine g_ite (fun h2 => ?_) fun h2 => ?_
          · rw [if_pos h2] at q
            walk_at "f"
            refine g_mulT (by omega) (by omega) (by decide +kernel) (by rw [l1]; omega) ?_
            refine g_addS (sz (Nat.ble_eq.mpr (by rw [rep_len, l1, l2]; omega))) ?_
            walk_at "f"
            refine g_addS (sz (Nat.ble_eq.mpr (by rw [add_len, rep_len, l1, l2]; omega))) ?_
            exact q
          · rw [if_neg h2] at q
            walk_at "f"
            refine ⟨g, rfl, Nat.le_trans g2 (by decide), ?_⟩
            walk_at "f"
            refine g_mulT (by omega) (by omega) (by decide +kernel) (by rw [l1]; omega) ?_
            refine g_addS (sz (Nat.ble_eq.mpr (by rw [rep_len, l1]; omega))) ?_
            walk_at "f"
            have gl : (g ++ repS "0" (p + 1 - (g.length : Int))).length ≤ 2000 := by rw [add_len, rep_len, l1]; omega
            generalize g ++ repS "0" (p + 1 - (g.length : Int)) = y at *
            refine g_slS (Nat.le_trans gl (by decide)) ?_
            have c1 := cutS_length y none (some (p + 1))
            have c2 := cutS_length y (some (p + 1)) none
            walk_at "f"
            refine g_addS (sz (Nat.ble_eq.mpr (by rw [l3]; omega))) ?_
            refine g_orT ?_
            walk_at "f"
            refine g_slS (Nat.le_trans gl (by decide)) ?_
            have q : Q (.str ((cutS y none (some (p + 1)) ++ ".") ++ orS (cutS y (some (p + 1)) none) "0")) H4 := q
            refine ⟨_, ⟨Nat.le_trans c2 (Nat.le_trans gl (by decide)), rfl⟩, ?_⟩
            unfold orS at q
            generalize cutS y (some (p + 1)) none = u at *
            by_cases hu : u.length = 0
            · rw [if_pos hu] at q
              rw [hu]
              refine iteF ?_
              walk_at "f"
              refine g_addS (sz (Nat.ble_eq.mpr (by rw [add_len, l3, l1]; omega))) ?_
              exact q
            · rw [if_neg hu] at q
              have e0 : (((u.length : Nat) : Int) != 0) = true := by
                rw [bne_iff_ne]
                omega
              rw [e0]
              refine iteT ?_
              refine g_addS (sz (Nat.ble_eq.mpr (by rw [add_len, l3]; omega))) ?_
              exact q
/-! ### text_of -/
def txN : Nm → Str
  | .i i => dg i
  | .f s (.str x) _ => if x = "nan" then "nan" else sgA s ++ "inf"
  | .f s (.int n) p => if n = 0 then sgA s ++ "0.0" else sgA s ++ shS (ratN 1 n p).toNat (ratD p).toNat
  | .f _ _ _ => ""
def TxOk : Nm → Prop
  | .i i => i.natAbs < 2 ^ 100 ∧ (dg i).length ≤ 100
  | .f _ (.int n) p => n = 0 ∨ (ShOk (ratN 1 n p).toNat (ratD p).toNat ∧ (shS (ratN 1 n p).toNat (ratD p).toNat).length ≤ 5000)
  | _ => True
theorem sc_textof : FnScope ["number", "ahead"] ["number"] (defScope s_textof) := ⟨rfl, rfl, rfl, by decide +kernel, rfl, by decide +kernel, by decide +kernel⟩
def sp_textof (C : Addr) : Sp := fun vs H Q _ => ∃ (v : V) (n : Nm), vs = [v] ∧ NumAt C H v n ∧ TxOk n ∧ ∀ H', Same H H' → Q (.str (txN n)) H'
theorem ok_textof {f : Addr} {fd : FuncData} (F : FunD K "text_of" "text_of" (defArgs s_textof) (defBody s_textof) (defScope s_textof) [] [] f fd) (B : Blt mg) (T : FlC K mg C) (c_Float : CnF P w K mg base C) (c_shown : Fn P w K mg base CX0 3 "shown" ["number"] [] (sp_shown C)) : FnOk P w K mg base CX0 4 f fd ["number"] (sp_textof C) := by
  have g_Float : mg "Float" = some (.ref C) := T.mg
  refine F.ok sc_textof (fun vs H Q E h => ?_) (fun cdv A outer s H vs Q E hr h => ?_)
  · obtain ⟨_, _, rfl, _⟩ := h; rfl
  · obtain ⟨v, n, rfl, hn, ok, q⟩ := h
    obtain ⟨l1, l2, l3, l4, l5, l6, l7⟩ := lens
    obtain ⟨t, hk, _, _⟩ := hn.kf T
    refine ⟨_, PSs.nox (pss_cons (ps_if (pt_not (pt_val (pe_callB call_isi (by rfl) B.isinstance (by decide +kernel) (pa_cons (pv 0) (pa_cons (pe_gref g_Float) pa_nil))))) (pss_one (ps_ret (pe_callTy call_str_int (by rfl) B.str (by decide +kernel) (pa_cons (pv 0) pa_nil)))) pss_nil)
  (pss_cons (ps_if (pt_cmpR (op_oEq hr.units) (pe_fld (pv 0) rfl) pe_str (nomark _)) (pss_one (ps_ret pe_str)) pss_nil)
  (pss_cons (ps_set (i := 1) sc_textof.nd rfl (Or.inl rfl) (pe_cut (pe_ifExp (pt_cmpR op_oLt (pe_fld (pv 0) rfl) pe_int (nomark _)) pe_str pe_str)))
  (pss_cons (ps_if (pt_cmpR (op_oEq hr.units) (pe_fld (pv 0) rfl) pe_str (nomark _)) (pss_one (ps_ret (pe_op op_oAdd (pv 1) pe_str))) pss_nil)
  (pss_cons (ps_if (pt_cmpR (op_oEq hr.units) (pe_fld (pv 0) rfl) pe_int (nomark _)) (pss_one (ps_ret (pe_op op_oAdd (pv 1) pe_str))) pss_nil)
  (pss_one (ps_ret (pe_op op_oAdd (pv 1) (pe_fn c_shown (hr.mono (by first | decide | omega)) pass0 (pa_cons (pe_cn c_Float (hr.mono (by first | decide | omega)) pass0 (pa_cons pe_int (pa_cons (pe_fld (pv 0) rfl) (pa_cons (pe_fld (pv 0) rfl) pa_nil)))) pa_nil)))))))))), ?_⟩
    walk_at "f"
    refine g_isiF hk ?_
    walk_at "f"
    cases n with
    | i k =>
      cases (show v = _ from hn)
      refine iteT ?_
      walk_at "f"
      refine ⟨Nat.lt_trans (log2_lt ok.1 (by decide)) (by decide), ?_⟩
      exact q _ (Same.refl _)
    | f sg tp p =>
      obtain ⟨a, rfl, hf, ho⟩ := hn
      refine iteF ?_
      walk_at "f"
      refine g_eqV (IS.scal (FL.ok.is (x := ⟨sg, tp, p⟩) ho) (.str _)) ?_
      walk_at "f"
      refine g_ite (fun h1 => ?_) fun h1 => ?_
      · subst h1
        walk_at "f"
        exact q _ (Same.refl _)
      · walk_at "f"
        refine g_cutE (fun z H' => z = .str (sgA sg) ∧ H' = H) ?_ ?_
        · walk_at "f"
          unfold sgA
          refine g_ite (fun h2 => ?_) fun h2 => ?_
          · walk_at "f"
            rw [if_pos h2]
            exact ⟨rfl, rfl⟩
          · walk_at "f"
            rw [if_neg h2]
            exact ⟨rfl, rfl⟩
        · rintro _ H ⟨rfl, rfl⟩
          have lp : (sgA sg).length ≤ 1 := by unfold sgA; split <;> omega
          walk_at "f"
          refine g_eqV (IS.scal (FL.ok.is (x := ⟨sg, tp, p⟩) ho) (.str _)) ?_
          walk_at "f"
          refine g_ite (fun h2 => ?_) fun h2 => ?_
          · subst h2
            walk_at "f"
            refine g_addS (sz (Nat.ble_eq.mpr (by rw [show ("inf" : Str).length = 3 by decide +kernel]; omega))) ?_
            have e : txN (.f sg (.str "inf") p) = sgA sg ++ "inf" := by
                unfold txN
                exact if_neg (fun z => inf_nan z)
            rw [e] at q
            exact q _ (Same.refl _)
          · obtain ⟨m, rfl, hfin⟩ := FL.ok.fin (x := ⟨sg, tp, p⟩) ho h1 h2
            obtain ⟨k, rfl⟩ := Int.eq_ofNat_of_zero_le hfin.1
            walk_at "f"
            refine g_ite (fun h3 => ?_) fun h3 => ?_
            · walk_at "f"
              refine g_addS (sz (Nat.ble_eq.mpr (by rw [show ("0.0" : Str).length = 3 by decide +kernel]; omega))) ?_
              have e : txN (.f sg (.int (k : Nat)) p) = sgA sg ++ "0.0" := if_pos h3
              rw [e] at q
              exact q _ (Same.refl _)
            · have ok := ok.resolve_left h3
              have ho1 : FlOk 1 (.int (k : Nat)) p := ⟨.inl rfl, .inr (.inr ⟨_, rfl, hfin⟩)⟩
              have mk : MkOk 1 (.int (k : Nat)) p := mk_of_flok (.inl rfl) (by have := hfin.2.1; omega) hfin.2.2.1 (by have := hfin.2.2.2.1; rw [intBits_nat] at this; exact this)
              walk_at "f"
              refine mkF mk fun H1 b n1 s1 hb => ?_
              rw [red_again ho1] at hb
              walk_at "f"
              refine ⟨b, k, p, rfl, hb, ho1, ok.1, fun H2 s2 => ?_⟩
              refine g_addS (sz (Nat.ble_eq.mpr (by have := ok.2; omega))) ?_
              have e : txN (.f sg (.int (k : Nat)) p) = sgA sg ++ shS (ratN 1 (k : Nat) p).toNat (ratD p).toNat := if_neg h3
              rw [e] at q
              exact q _ (s1.trans s2)
end
end Up

set_option Elab.async false
set_option linter.all false
set_option maxRecDepth 100000
set_option maxHeartbeats 4000000
set_option exponentiation.threshold 200000
namespace Up
open PySem PySem.Spec PyProof.Rows L2
/-! ### decimal figures -/
abbrev nL (n : Nat) : List Nat := TL.numL n
theorem dg_S (n : Nat) : dg (n : Int) = SX.S (nL n) := SX.num_S n
theorem dg_len (n : Nat) : (dg (n : Int)).length = (nL n).length := by rw [dg_S, SX.S_len]
theorem nL_pos (n : Nat) : 1 ≤ (nL n).length := by
  have := TL.numL_ne n
  cases e : nL n with
  | nil => exact absurd e this
  | cons a r => simp
theorem foldl_lt : ∀ (l : List Nat) (a : Nat), NumText.AllDigits l → l.foldl (fun acc c => acc * 10 + (c - 48)) a < (a + 1) * 10 ^ l.length
  | [], a, _ => by simp
  | c :: r, a, h => by
    have hc : 48 ≤ c ∧ c ≤ 57 := h c List.mem_cons_self
    have ih := foldl_lt r (a * 10 + (c - 48)) (fun x hx => h x (List.mem_cons_of_mem _ hx))
    rw [List.foldl_cons, List.length_cons]
    refine Nat.lt_of_lt_of_le ih ?_
    rw [Nat.pow_succ, Nat.mul_comm (10 ^ r.length) 10, ← Nat.mul_assoc]
    exact Nat.mul_le_mul_right _ (by omega)
theorem dv_lt {l : List Nat} (h : NumText.AllDigits l) : NumText.digitsVal l < 10 ^ l.length := by
  have := foldl_lt l 0 h
  unfold NumText.digitsVal
  omega
theorem nL_hi (n : Nat) : n < 10 ^ (nL n).length := by
  have := dv_lt (TL.numL_digits n)
  rw [TL.numL_val] at this
  exact this
theorem nL_lo {n : Nat} (h : 1 ≤ n) : 10 ^ ((nL n).length - 1) ≤ n := by
  by_cases z : 10 ^ ((nL n).length - 1) ≤ n
  · exact z
  · by_cases y : (nL n).length - 1 = 0
    · rw [y] at z
      omega
    · have := TL.numL_len (n := n) (k := (nL n).length - 1) (by omega) (by omega)
      have p := nL_pos n
      have : (nL n).length ≤ (nL n).length - 1 := this
      omega
theorem nL_le {n k : Nat} (hk : 0 < k) (h : n < 10 ^ k) : (nL n).length ≤ k := TL.numL_len hk h
theorem nL_eq {n k : Nat} (h1 : 10 ^ k ≤ n) (h2 : n < 10 ^ (k + 1)) : (nL n).length = k + 1 := by
  have a := nL_le (by omega) h2
  have b := nL_hi n
  by_cases z : (nL n).length ≤ k
  · have : n < 10 ^ k := Nat.lt_of_lt_of_le b (Nat.pow_le_pow_right (by decide) z)
    omega
  · omega
/-- the first figure of a number is none of the sign 0 -/
theorem nL_head {n : Nat} (h : 1 ≤ n) : ∃ c r, nL n = c :: r ∧ 49 ≤ c ∧ c ≤ 57 := by
  cases e : nL n with
  | nil => exact absurd e (TL.numL_ne n)
  | cons c r =>
    have hd := TL.numL_digits n
    rw [show TL.numL n = c :: r from e] at hd
    have hc : 48 ≤ c ∧ c ≤ 57 := hd c List.mem_cons_self
    refine ⟨c, r, rfl, ?_, hc.2⟩
    by_cases z : c = 48
    · subst z
      have v := TL.numL_val n
      rw [show TL.numL n = 48 :: r from e] at v
      have v2 : NumText.digitsVal r = n := v
      have l := dv_lt (l := r) (fun x hx => hd x (List.mem_cons_of_mem _ hx))
      have lo := nL_lo h
      rw [e, List.length_cons, Nat.add_sub_cancel] at lo
      omega
    · omega
/-! ### the place of the first figure -/
def Plc (t b : Nat) (p : Int) : Prop := (0 ≤ p ∧ 10 ^ p.toNat * b ≤ t ∧ t < 10 ^ (p.toNat + 1) * b) ∨ (p < 0 ∧ b ≤ t * 10 ^ (0 - p).toNat ∧ t * 10 ^ ((0 - p).toNat - 1) < b)
theorem ten_pos (n : Nat) : 0 < 10 ^ n := Nat.pow_pos (by decide)
theorem cast_ten (t n : Nat) : (t : Int) * 10 ^ n = ((t * 10 ^ n : Nat) : Int) := by
  rw [Int.natCast_mul, Int.natCast_pow]
  rfl
theorem pcF_plc {t b : Nat} (t0 : 0 < t) (b0 : 0 < b) : Plc t b (pcF t b) := by
  unfold pcF
  by_cases h : b ≤ t
  · rw [if_pos h, dg_len]
    have n1 : 1 ≤ t / b := (Nat.le_div_iff_mul_le b0).mpr (by omega)
    have lo := nL_lo n1
    have hi := nL_hi (t / b)
    have ps := nL_pos (t / b)
    left
    have e : (((nL (t / b)).length : Int) - 1).toNat = (nL (t / b)).length - 1 := by omega
    refine ⟨by omega, ?_, ?_⟩
    · rw [e]
      exact (Nat.le_div_iff_mul_le b0).mp lo
    · rw [e, show (nL (t / b)).length - 1 + 1 = (nL (t / b)).length by omega]
      exact (Nat.div_lt_iff_lt_mul b0).mp hi
  · rw [if_neg h, dg_len]
    have n1 : 1 ≤ b / t := (Nat.le_div_iff_mul_le t0).mpr (by omega)
    have lo := nL_lo n1
    have hi := nL_hi (b / t)
    have ps := nL_pos (b / t)
    generalize (nL (b / t)).length = l at *
    have lo : 10 ^ (l - 1) * t ≤ b := (Nat.le_div_iff_mul_le t0).mp lo
    have hi : b < 10 ^ l * t := (Nat.div_lt_iff_lt_mul t0).mp hi
    rw [Nat.mul_comm] at lo hi
    have ea : pcA t b (0 - (l : Int)) = 0 - (l : Int) := by
      unfold pcA
      rw [show (0 - (0 - (l : Int))).toNat = l by omega, cast_ten]
      rw [if_neg (by omega)]
    rw [ea]
    unfold pcB
    rw [show (0 - (0 - (l : Int)) - 1).toNat = l - 1 by omega, cast_ten]
    by_cases z : b ≤ t * 10 ^ (l - 1)
    · rw [if_pos (by omega)]
      have eb : b = t * 10 ^ (l - 1) := by omega
      have l2 : 2 ≤ l := by
        by_cases y : l = 1
        · rw [y] at eb
          simp at eb
          omega
        · omega
      right
      have e1 : (0 - (0 - (l : Int) + 1)).toNat = l - 1 := by omega
      refine ⟨by omega, ?_, ?_⟩
      · rw [e1]; exact z
      · rw [e1, eb]
        exact Nat.mul_lt_mul_of_pos_left (Nat.pow_lt_pow_right (by decide) (by omega)) t0
    · rw [if_neg (by omega)]
      right
      have e1 : (0 - (0 - (l : Int))).toNat = l := by omega
      refine ⟨by omega, ?_, ?_⟩
      · rw [e1]; omega
      · rw [e1]; omega
theorem pcF_small {t b : Nat} (ht : t < 2 ^ 1200) (hb : b < 2 ^ 1200) : -400 ≤ pcF t b ∧ pcF t b ≤ 400 := by
  have big : (2 : Nat) ^ 1200 < 10 ^ 400 := by decide +kernel
  have l1 : (nL (t / b)).length ≤ 400 := nL_le (by decide) (Nat.lt_of_le_of_lt (Nat.div_le_self _ _) (by omega))
  have big2 : (2 : Nat) ^ 1200 < 10 ^ 399 := by decide +kernel
  have l2 : (nL (b / t)).length ≤ 399 := nL_le (by decide) (Nat.lt_of_le_of_lt (Nat.div_le_self _ _) (by omega))
  have p1 := nL_pos (t / b)
  have p2 := nL_pos (b / t)
  unfold pcF
  split
  · rw [dg_len]; omega
  · rw [dg_len]
    unfold pcB pcA
    split <;> split <;> omega
/-! ### fourteen figures -/
theorem rd_rng {t b : Nat} {p : Int} (b0 : 0 < b) (h : Plc t b p) : 0 < rdB b (13 - p) ∧ 10 ^ 13 * rdB b (13 - p) ≤ rdT t (13 - p) ∧ rdT t (13 - p) < 10 ^ 14 * rdB b (13 - p) := by
  unfold rdT rdB
  rcases h with ⟨h0, h1, h2⟩ | ⟨h0, h1, h2⟩
  · by_cases z : 0 ≤ 13 - p
    · rw [if_pos z, if_pos z]
      obtain ⟨q, hq⟩ : ∃ q : Nat, (13 - p).toNat = q := ⟨_, rfl⟩
      obtain ⟨m, hm⟩ : ∃ m : Nat, p.toNat = m := ⟨_, rfl⟩
      have e : q + m = 13 := by omega
      rw [hq]
      rw [hm] at h1 h2
      have e13 : (10 : Nat) ^ 13 = 10 ^ q * 10 ^ m := by rw [← Nat.pow_add, e]
      have e14 : (10 : Nat) ^ 14 = 10 ^ q * 10 ^ (m + 1) := by rw [← Nat.pow_add]; congr 1; omega
      refine ⟨b0, ?_, ?_⟩
      · rw [e13, Nat.mul_assoc, Nat.mul_comm t]
        exact Nat.mul_le_mul_left _ h1
      · rw [e14, Nat.mul_assoc, Nat.mul_comm t]
        exact Nat.mul_lt_mul_of_pos_left h2 (ten_pos q)
    · rw [if_neg z, if_neg z]
      obtain ⟨q, hq⟩ : ∃ q : Nat, (0 - (13 - p)).toNat = q := ⟨_, rfl⟩
      have hm : p.toNat = q + 13 := by omega
      rw [hq]
      rw [hm] at h1 h2
      have e13 : (10 : Nat) ^ (q + 13) = 10 ^ q * 10 ^ 13 := Nat.pow_add _ _ _
      have e14 : (10 : Nat) ^ (q + 13 + 1) = 10 ^ q * 10 ^ 14 := by rw [← Nat.pow_add]
      rw [e13] at h1
      rw [e14] at h2
      refine ⟨Nat.mul_pos b0 (ten_pos q), ?_, ?_⟩
      · have : 10 ^ 13 * (b * 10 ^ q) = 10 ^ q * 10 ^ 13 * b := by
          rw [Nat.mul_comm b, ← Nat.mul_assoc, Nat.mul_comm (10 ^ 13)]
        omega
      · have : 10 ^ 14 * (b * 10 ^ q) = 10 ^ q * 10 ^ 14 * b := by
          rw [Nat.mul_comm b, ← Nat.mul_assoc, Nat.mul_comm (10 ^ 14)]
        omega
  · rw [if_pos (by omega), if_pos (by omega)]
    obtain ⟨m, hm⟩ : ∃ m : Nat, (0 - p).toNat = m + 1 := ⟨(0 - p).toNat - 1, by omega⟩
    have hq : (13 - p).toNat = m + 14 := by omega
    rw [hq]
    rw [hm, Nat.add_sub_cancel] at h2
    rw [hm] at h1
    refine ⟨b0, ?_, ?_⟩
    · have e : (10 : Nat) ^ (m + 14) = 10 ^ 13 * 10 ^ (m + 1) := by rw [← Nat.pow_add]; congr 1; omega
      have : t * 10 ^ (m + 14) = 10 ^ 13 * (t * 10 ^ (m + 1)) := by
        rw [e, ← Nat.mul_assoc, Nat.mul_comm t, Nat.mul_assoc]
      rw [this]
      exact Nat.mul_le_mul_left _ h1
    · have e : (10 : Nat) ^ (m + 14) = 10 ^ 14 * 10 ^ m := by rw [← Nat.pow_add]; congr 1; omega
      have : t * 10 ^ (m + 14) = 10 ^ 14 * (t * 10 ^ m) := by
        rw [e, ← Nat.mul_assoc, Nat.mul_comm t, Nat.mul_assoc]
      rw [this]
      exact Nat.mul_lt_mul_of_pos_left h2 (by decide)
/-- half to even -/
theorem rdW_ok {x y : Nat} (y0 : 0 < y) : 2 * (rdW x y * y) ≤ 2 * x + y ∧ 2 * x ≤ 2 * (rdW x y * y) + y ∧ (2 * (rdW x y * y) = 2 * x + y → rdW x y % 2 = 0) ∧ (2 * x = 2 * (rdW x y * y) + y → rdW x y % 2 = 0) := by
  have e : y * (x / y) + x % y = x := Nat.div_add_mod x y
  have r : x % y < y := Nat.mod_lt x y0
  unfold rdW
  generalize x / y = q at *
  generalize x % y = s at *
  have eq : (q + 1) * y = y * q + y := by rw [Nat.add_mul, Nat.one_mul, Nat.mul_comm]
  have eq2 : q * y = y * q := Nat.mul_comm _ _
  split
  · rename_i h
    rw [eq]
    generalize y * q = z at *
    refine ⟨by omega, by omega, fun h2 => by omega, fun h2 => by omega⟩
  · rename_i h
    rw [eq2]
    generalize y * q = z at *
    refine ⟨by omega, by omega, fun h2 => by omega, fun h2 => ?_⟩
    by_cases z : q % 2 = 1
    · exact absurd (.inr ⟨by omega, z⟩) h
    · omega
theorem rdW_rng {x y : Nat} (y0 : 0 < y) (h1 : 10 ^ 13 * y ≤ x) (h2 : x < 10 ^ 14 * y) : 10 ^ 13 ≤ rdW x y ∧ rdW x y ≤ 10 ^ 14 := by
  have a : 10 ^ 13 ≤ x / y := (Nat.le_div_iff_mul_le y0).mpr h1
  have b : x / y < 10 ^ 14 := (Nat.div_lt_iff_lt_mul y0).mpr h2
  unfold rdW
  split <;> omega
def hiN (p : Int) : Nat := if 13 < p then 10 ^ (p - 13).toNat else 1
def loN (p : Int) : Nat := if 13 < p then 1 else 10 ^ (13 - p).toNat
/-- what is asked of the figures f (fourteen of them) and the place p of the first one -/
structure Shown (t b : Nat) (f : Nat) (p : Int) : Prop where
  f1 : 10 ^ 13 ≤ f
  f2 : f < 10 ^ 14
  up : 2 * (f * (hiN p * b)) ≤ 2 * (t * loN p) + hiN p * b
  dn : 2 * (t * loN p) ≤ 2 * (f * (hiN p * b)) + hiN p * b
  ue : 2 * (f * (hiN p * b)) = 2 * (t * loN p) + hiN p * b → f % 2 = 0
  de : 2 * (t * loN p) = 2 * (f * (hiN p * b)) + hiN p * b → f % 2 = 0
  fl : 10 ^ 13 < f ∨ f * (hiN p * b) ≤ t * loN p ∨ 20 * (f * (hiN p * b)) ≤ 20 * (t * loN p) + hiN p * b
theorem rdTB {t b : Nat} {p : Int} : rdT t (13 - p) = t * loN p ∧ rdB b (13 - p) = hiN p * b := by
  unfold rdT rdB loN hiN
  by_cases h : 13 < p
  · rw [if_neg (show ¬ 0 ≤ 13 - p by omega), if_neg (show ¬ 0 ≤ 13 - p by omega), if_pos h, if_pos h]
    refine ⟨(Nat.mul_one _).symm, ?_⟩
    rw [show (0 - (13 - p)).toNat = (p - 13).toNat by omega, Nat.mul_comm]
  · rw [if_pos (show 0 ≤ 13 - p by omega), if_pos (show 0 ≤ 13 - p by omega), if_neg h, if_neg h]
    exact ⟨rfl, (Nat.one_mul _).symm⟩
theorem sh_ok {t b : Nat} (t0 : 0 < t) (b0 : 0 < b) : Shown t b (shF t b) (shP t b) := by
  have pl := pcF_plc t0 b0
  obtain ⟨y0, r1, r2⟩ := rd_rng b0 pl
  have rr := rdW_rng y0 r1 r2
  obtain ⟨w1, w2, w3, w4⟩ := rdW_ok (x := rdT t (13 - pcF t b)) y0
  have eR : shR t b = rdW (rdT t (13 - pcF t b)) (rdB b (13 - pcF t b)) := rfl
  unfold shF shP
  rw [eR]
  obtain ⟨e1, e2⟩ := rdTB (t := t) (b := b) (p := pcF t b)
  rw [e2] at y0
  rw [e1, e2] at r1 r2 rr w1 w2 w3 w4 ⊢
  clear e1 e2 eR
  generalize pcF t b = p at *
  generalize hR : rdW (t * loN p) (hiN p * b) = R at *
  by_cases h : R = 10 ^ 14
  · rw [if_pos h, if_pos h, h]
    rw [show 10 ^ 14 / 10 = 10 ^ 13 from rfl]
    rw [h] at w1 w2
    have key : (hiN (p + 1) * b = hiN p * b ∧ t * loN p = 10 * (t * loN (p + 1))) ∨ (hiN (p + 1) * b = 10 * (hiN p * b) ∧ t * loN (p + 1) = t * loN p) := by
      unfold hiN loN
      by_cases z : 13 < p
      · right
        rw [if_pos z, if_pos z, if_pos (by omega), if_pos (by omega)]
        have : (p + 1 - 13).toNat = (p - 13).toNat + 1 := by omega
        rw [this, Nat.pow_succ]
        refine ⟨?_, rfl⟩
        rw [Nat.mul_comm (10 ^ _) 10, Nat.mul_assoc]
      · by_cases y : p = 13
        · right
          rw [if_neg z, if_neg z, if_pos (by omega), if_pos (by omega), y]
          refine ⟨?_, rfl⟩
          rw [Nat.one_mul]
          rfl
        · left
          rw [if_neg z, if_neg z, if_neg (by omega), if_neg (by omega)]
          have : (13 - p).toNat = (13 - (p + 1)).toNat + 1 := by omega
          rw [this, Nat.pow_succ, Nat.mul_comm (10 ^ _) 10, ← Nat.mul_assoc, ← Nat.mul_assoc, Nat.mul_comm t 10]
          exact ⟨rfl, rfl⟩
    rcases key with ⟨k1, k2⟩ | ⟨k1, k2⟩
    · rw [k2] at r2 w1 w2
      refine ⟨by decide, by decide, ?_, ?_, fun _ => by decide, fun _ => by decide, .inr (.inr ?_)⟩ <;> rw [k1] <;> omega
    · rw [← k2] at r2 w1 w2
      refine ⟨by decide, by decide, ?_, ?_, fun _ => by decide, fun _ => by decide, .inr (.inr ?_)⟩ <;> rw [k1] <;> omega
  · rw [if_neg h, if_neg h]
    refine ⟨rr.1, by omega, w1, w2, w3, w4, ?_⟩
    by_cases z : R = 10 ^ 13
    · right; left
      rw [z]
      exact r1
    · left; omega
end Up

set_option Elab.async false
set_option linter.all false
set_option maxRecDepth 100000
set_option maxHeartbeats 4000000
set_option exponentiation.threshold 200000
namespace Up
open PySem PySem.Spec PyProof.Rows L2
/-! ### texts as lists of signs -/
abbrev Sx (l : List Nat) : Str := SX.S l
theorem lit0 : ("0" : Str) = Sx [48] := by decide +kernel
theorem litP : ("." : Str) = Sx [46] := by decide +kernel
theorem litE : ("e" : Str) = Sx [101] := by decide +kernel
theorem litM : ("-" : Str) = Sx [45] := by decide +kernel
theorem litA : ("+" : Str) = Sx [43] := by decide +kernel
theorem litN : ("" : Str) = Sx [] := by decide +kernel
theorem litZ : ("0." : Str) = Sx [48, 46] := by decide +kernel
theorem litZ2 : ("0.0" : Str) = Sx [48, 46, 48] := by decide +kernel
theorem Sx_cps (l : List Nat) : (Sx l).cps.toList = l := by simp [Sx, SX.S]
theorem Sx_len (l : List Nat) : (Sx l).length = l.length := SX.S_len l
theorem Sx_cat (a b : List Nat) : Sx a ++ Sx b = Sx (a ++ b) := SX.S_cat a b
theorem Sx_inj {a b : List Nat} : Sx a = Sx b ↔ a = b := ⟨SX.S_inj, fun h => by rw [h]⟩
theorem Sx_getD (l : List Nat) (k : Nat) : (Sx l).cps.getD k 0 = l.getD k 0 := by
  rw [← getD_list, Sx_cps]
theorem has48 (c : Nat) : ("0" : Str).cps.contains c = decide (c = 48) := by
  rw [lit0]
  show (#[48] : Array Nat).contains c = _
  by_cases h : c = 48
  · subst h; simp
  · rw [decide_eq_false h]
    simp [h]
theorem sub_S (l : List Nat) (i j : Nat) : Builtin.Str.strSub (Sx l) i j = Sx ((l.drop i).take (j - i)) := by
  rw [strSub_mk, Sx_cps]
theorem rep_S (n : Int) : repS "0" n = Sx (List.replicate n.toNat 48) := by
  have key : ∀ k : Nat, mulStr "0" k = Sx (List.replicate k 48) := fun k => by
    have h : ∀ (k : Nat) (a : List Nat), (List.replicate k (#[48] : Array Nat)).foldl (· ++ ·) a.toArray = (a ++ List.replicate k 48).toArray := by
      intro k
      induction k with
      | zero => intro a; simp
      | succ k ih =>
        intro a
        rw [List.replicate_succ, List.foldl_cons]
        have : a.toArray ++ (#[48] : Array Nat) = (a ++ [48]).toArray := by simp
        rw [this, ih]
        congr 1
        rw [List.append_assoc]
        rfl
    have e : ("0" : Str).cps = #[48] := by rw [lit0]
    show (⟨(List.replicate k ("0" : Str).cps).foldl (· ++ ·) #[]⟩ : Str) = _
    rw [e]
    have := h k []
    rw [List.nil_append] at this
    show (⟨(List.replicate k (#[48] : Array Nat)).foldl (· ++ ·) #[]⟩ : Str) = SX.S (List.replicate k 48)
    rw [show (#[] : Array Nat) = ([] : List Nat).toArray from rfl, this]
  unfold repS
  split
  · rename_i h
    rw [show n.toNat = 0 by omega]
    have : Str.empty = Sx [] := by decide +kernel
    rw [this]
    rfl
  · split
    · rename_i h
      rw [Bool.or_eq_true] at h
      rcases h with h | h
      · rw [show n.toNat = 1 by have := beq_iff_eq.mp h; omega]
        exact lit0
      · rw [lit0] at h
        have := beq_iff_eq.mp h
        rw [Sx_len] at this
        cases this
    · exact key _
/-! ### zeros at the end and ahead -/
theorem last_nz : ∀ {l : List Nat}, (∃ c ∈ l, c ≠ 48) → ∃ G c z, l = (G ++ [c]) ++ List.replicate z 48 ∧ c ≠ 48 := by
  intro l
  induction hn : l.length generalizing l with
  | zero =>
    rintro ⟨c, h, _⟩
    rw [List.eq_nil_of_length_eq_zero hn] at h
    cases h
  | succ n ih =>
    rintro ⟨c, h, hc⟩
    have ne : l ≠ [] := fun z => by rw [z] at h; cases h
    have e : l.dropLast ++ [l.getLast ne] = l := List.dropLast_concat_getLast ne
    by_cases hx : l.getLast ne = 48
    · have hm : c ∈ l.dropLast := by
        rw [← e] at h
        rcases List.mem_append.mp h with h | h
        · exact h
        · rw [List.mem_singleton.mp h] at hc
          exact absurd hx hc
      obtain ⟨G, d, z, eg, hd⟩ := ih (l := l.dropLast) (by rw [List.length_dropLast, hn]; rfl) ⟨c, hm, hc⟩
      refine ⟨G, d, z + 1, ?_, hd⟩
      rw [← e, eg, hx, List.append_assoc, List.replicate_succ']
    · exact ⟨l.dropLast, l.getLast ne, 0, by rw [List.replicate_zero, List.append_nil, e], hx⟩
theorem rstrip_S (G : List Nat) (c z : Nat) (hc : c ≠ 48) : Txt.rstripChars (Sx ((G ++ [c]) ++ List.replicate z 48)) "0" = Sx (G ++ [c]) := by
  unfold Txt.rstripChars
  rw [stripBy_eq]
  have lo : ∀ goes, stripLo goes false (Sx ((G ++ [c]) ++ List.replicate z 48)) = 0 := fun goes => by simp [stripLo]
  rw [lo]
  obtain ⟨h1, h2, h3, h4⟩ := hi_facts (("0" : Str).cps.contains) (Sx ((G ++ [c]) ++ List.replicate z 48)) 0 (Nat.zero_le _)
  generalize stripHi (("0" : Str).cps.contains) true (Sx ((G ++ [c]) ++ List.replicate z 48)) 0 = hi at *
  rw [Sx_len, List.length_append, List.length_append, List.length_replicate, List.length_singleton] at h2 h3
  have at1 : ((G ++ [c]) ++ List.replicate z 48).getD G.length 0 = c := by simp
  have at2 : ∀ k, G.length + 1 ≤ k → k < G.length + 1 + z → ((G ++ [c]) ++ List.replicate z 48).getD k 0 = 48 := fun k h5 h6 => by
    rw [List.getD_eq_getElem?_getD, List.getElem?_append_right (by simp; omega), List.getElem?_replicate]
    rw [if_pos (by simp; omega)]
    rfl
  have a1 : G.length < hi := by
    by_cases y : G.length < hi
    · exact y
    · have := h3 G.length (by omega) (by omega)
      rw [Sx_getD, at1, has48] at this
      exact absurd (of_decide_eq_true this) hc
  have a2 : hi ≤ G.length + 1 := by
    by_cases y : hi ≤ G.length + 1
    · exact y
    · rcases h4 with h4 | h4
      · omega
      · rw [Sx_getD, at2 (hi - 1) (by omega) (by omega), has48] at h4
        cases h4
  have e : hi = G.length + 1 := by omega
  rw [e, sub_S]
  congr 1
  rw [List.drop_zero, Nat.sub_zero]
  have : (G ++ [c]).length = G.length + 1 := by simp
  rw [← this, List.take_left']
  rfl
theorem lstrip_S (c z : Nat) (r : List Nat) (hc : c ≠ 48) : Txt.lstripChars (Sx (List.replicate z 48 ++ c :: r)) "0" = Sx (c :: r) := by
  unfold Txt.lstripChars
  rw [stripBy_eq]
  obtain ⟨h1, h2, h3⟩ := lo_facts (("0" : Str).cps.contains) (Sx (List.replicate z 48 ++ c :: r))
  have hi : ∀ goes lo, stripHi goes false (Sx (List.replicate z 48 ++ c :: r)) lo = (Sx (List.replicate z 48 ++ c :: r)).length := fun goes lo => by simp [stripHi]
  rw [hi]
  generalize stripLo (("0" : Str).cps.contains) true (Sx (List.replicate z 48 ++ c :: r)) = lo at *
  rw [Sx_len] at h1 h3 ⊢
  have ll : (List.replicate z 48 ++ c :: r).length = z + r.length + 1 := by simp; omega
  rw [ll] at h1 h3 ⊢
  have at1 : (List.replicate z 48 ++ c :: r).getD z 0 = c := by
    rw [List.getD_eq_getElem?_getD, List.getElem?_append_right (by simp)]
    simp
  have at2 : ∀ k, k < z → (List.replicate z 48 ++ c :: r).getD k 0 = 48 := fun k hk => by
    rw [List.getD_eq_getElem?_getD, List.getElem?_append_left (by simp; exact hk), List.getElem?_replicate, if_pos hk]
    rfl
  have a1 : lo ≤ z := by
    by_cases y : lo ≤ z
    · exact y
    · have := h2 z (by omega)
      rw [Sx_getD, at1, has48] at this
      exact absurd (of_decide_eq_true this) hc
  have a2 : z ≤ lo := by
    by_cases y : z ≤ lo
    · exact y
    · rcases h3 with h3 | h3
      · omega
      · rw [Sx_getD, at2 lo (by omega), has48] at h3
        cases h3
  have e : lo = z := by omega
  rw [e, sub_S]
  congr 1
  rw [show z + r.length + 1 - z = (c :: r).length by simp; omega]
  have : (List.replicate z 48 ++ c :: r).drop z = c :: r := by
    have h := List.drop_left' (l₁ := List.replicate z 48) (l₂ := c :: r) (i := z) (by simp)
    exact h
  rw [this, List.take_length]
/-! ### what text_of tells -/
structure Figs (t b : Nat) (G : List Nat) : Prop where
  hd : ∃ c r, G = c :: r ∧ 49 ≤ c ∧ c ≤ 57
  tl : ∃ G0 c, G = G0 ++ [c] ∧ c ≠ 48
  dig : ∀ c ∈ G, 48 ≤ c ∧ c ≤ 57
  len : G.length ≤ 14
  val : NumText.digitsVal G * 10 ^ (14 - G.length) = shF t b
  eq : shG t b = Sx G
theorem dv_app (l : List Nat) : ∀ z : Nat, NumText.digitsVal (l ++ List.replicate z 48) = NumText.digitsVal l * 10 ^ z
  | 0 => by simp
  | z + 1 => by
    rw [List.replicate_succ', ← List.append_assoc, NumText.digitsVal_snoc, dv_app l z, Nat.pow_succ]
    rw [Nat.sub_self, Nat.add_zero, Nat.mul_assoc]
theorem figs_ex {t b : Nat} (t0 : 0 < t) (b0 : 0 < b) : ∃ G, Figs t b G := by
  have sh := sh_ok t0 b0
  have f1 := sh.f1
  have f2 := sh.f2
  have hl : (nL (shF t b)).length = 14 := nL_eq f1 f2
  obtain ⟨c, r, e, c1, c2⟩ := nL_head (n := shF t b) (by omega)
  obtain ⟨G0, d, z, eg, hd⟩ := last_nz (l := nL (shF t b)) ⟨c, by rw [e]; exact List.mem_cons_self, by omega⟩
  have dig := TL.numL_digits (shF t b)
  have hlen : G0.length + 1 + z = 14 := by
    rw [eg] at hl
    simp at hl
    omega
  have eq : shG t b = Sx (G0 ++ [d]) := by
    unfold shG
    rw [dg_S, eg, rstrip_S G0 d z hd]
  refine ⟨G0 ++ [d], ?_, ⟨G0, d, rfl, hd⟩, fun x hx => dig x (by rw [show TL.numL (shF t b) = (G0 ++ [d]) ++ List.replicate z 48 from eg]; exact List.mem_append_left _ hx), by simp; omega, ?_, eq⟩
  · cases G0 with
    | nil =>
      refine ⟨d, [], rfl, ?_⟩
      rw [e] at eg
      have : c = d := by
        have := congrArg List.head? eg
        simpa using this
      rw [← this]
      exact ⟨c1, c2⟩
    | cons x G1 =>
      refine ⟨x, G1 ++ [d], rfl, ?_⟩
      rw [e] at eg
      have : c = x := by
        have := congrArg List.head? eg
        simpa using this
      rw [← this]
      exact ⟨c1, c2⟩
  · have v := TL.numL_val (shF t b)
    rw [show TL.numL (shF t b) = (G0 ++ [d]) ++ List.replicate z 48 from eg, dv_app] at v
    rw [show 14 - (G0 ++ [d]).length = z by simp; omega]
    exact v
end Up

set_option Elab.async false
set_option linter.all false
set_option maxRecDepth 100000
set_option maxHeartbeats 4000000
set_option exponentiation.threshold 200000
namespace Up
open PySem PySem.Spec PyProof.Rows L2
/-! ### the forms of a text of a number -/
abbrev Dg (l : List Nat) : Prop := ∀ c ∈ l, 48 ≤ c ∧ c ≤ 57
abbrev LNz (l : List Nat) : Prop := ∃ G0 c, l = G0 ++ [c] ∧ c ≠ 48
abbrev Zs (n : Nat) : List Nat := List.replicate n 48
theorem dg_zs (n : Nat) : Dg (Zs n) := fun c h => by rw [(List.mem_replicate.mp h).2]; omega
theorem dg_app {a b : List Nat} (h : Dg a) (g : Dg b) : Dg (a ++ b) := fun c m => (List.mem_append.mp m).elim (h c) (g c)
theorem dv_zs (l : List Nat) : ∀ z : Nat, NumText.digitsVal (Zs z ++ l) = NumText.digitsVal l
  | 0 => rfl
  | z + 1 => dv_zs l z
inductive Prt : List Nat → List Nat → Int → Prop where
  | low (z c : Nat) (r : List Nat) : z ≤ 3 → Dg (c :: r) → c ≠ 48 → LNz (c :: r) → Prt ([48] ++ 46 :: (Zs z ++ c :: r)) (c :: r) (-1 - (z : Int))
  | mid (c : Nat) (r U : List Nat) : r.length ≤ 13 → Dg (c :: r) → Dg U → c ≠ 48 → (U = [48] ∨ LNz U) → Prt ((c :: r) ++ 46 :: U) ((c :: r) ++ U) (r.length : Nat)
  | exp (c s : Nat) (U N : List Nat) (p : Int) : Dg (c :: U) → c ≠ 48 → (U = [] ∨ LNz U) → Dg N → 2 ≤ N.length → (2 < N.length → N.getD 0 0 ≠ 48) → (s = 43 ∧ p = (NumText.digitsVal N : Nat) ∨ s = 45 ∧ p = 0 - ((NumText.digitsVal N : Nat) : Int)) → p < -4 ∨ 13 < p → Prt (([c] ++ if U = [] then [] else 46 :: U) ++ 101 :: s :: N) (c :: U) p
theorem hd_S (c : Nat) (r : List Nat) : hdS (Sx (c :: r)) = Sx [c] := rfl
theorem cut_from (l : List Nat) {i : Int} (h : 0 ≤ i) : cutS (Sx l) (some i) none = Sx (l.drop i.toNat) := by rw [C8.cutS_slice]; exact SX.slice_from h
theorem cut_to (l : List Nat) {i : Int} (h : 0 ≤ i) : cutS (Sx l) none (some i) = Sx (l.take i.toNat) := by rw [C8.cutS_slice]; exact SX.slice_to h
theorem fr_S (p : Int) : frS p = Sx (nL p.natAbs) := by
  unfold frS
  rw [show (if p < 0 then -p else p) = ((p.natAbs : Nat) : Int) by split <;> omega]
  exact dg_S _
theorem far_ok {n : Nat} (h1 : 4 < n) (h2 : n ≤ 500) : Dg (Zs (2 - (nL n).length) ++ nL n) ∧ 2 ≤ (Zs (2 - (nL n).length) ++ nL n).length ∧ (Zs (2 - (nL n).length) ++ nL n).length ≤ 3 ∧ (2 < (Zs (2 - (nL n).length) ++ nL n).length → (Zs (2 - (nL n).length) ++ nL n).getD 0 0 ≠ 48) ∧ NumText.digitsVal (Zs (2 - (nL n).length) ++ nL n) = n := by
  have l1 := nL_pos n
  have l2 : (nL n).length ≤ 3 := nL_le (by decide) (by omega)
  have len : (Zs (2 - (nL n).length) ++ nL n).length = (2 - (nL n).length) + (nL n).length := by rw [List.length_append, List.length_replicate]
  refine ⟨dg_app (dg_zs _) (TL.numL_digits n), by omega, by omega, fun h => ?_, ?_⟩
  · rw [show 2 - (nL n).length = 0 by omega]
    obtain ⟨c, r, e, c1, c2⟩ := nL_head (n := n) (by omega)
    rw [e]
    show c ≠ 48
    omega
  · rw [dv_zs]
    exact TL.numL_val n
theorem prt_ex {t b : Nat} {G : List Nat} {p : Int} (F : Figs t b G) (p1 : -450 ≤ p) (p2 : p ≤ 450) : ∃ l k, shV p (Sx G) = Sx l ∧ Prt l (G ++ Zs k) p ∧ k ≤ 14 ∧ l.length ≤ 40 := by
  obtain ⟨c, r, e, c1, c2⟩ := F.hd
  have dig := F.dig
  have tl := F.tl
  have len := F.len
  have len1 : 1 ≤ G.length := by rw [e]; exact Nat.le_add_left _ _
  unfold shV
  by_cases h1 : p < -4 ∨ 14 ≤ p
  · rw [if_pos h1]
    unfold shX
    obtain ⟨f1, f2, f5, f3, f4⟩ := far_ok (n := p.natAbs) (by omega) (by omega)
    have ep : ptS (Sx (c :: r)) = Sx (if r = [] then [] else [46]) := by
      unfold ptS
      rw [Sx_len, List.length_cons]
      by_cases z : r = []
      · rw [if_pos z, if_neg (by rw [z]; decide), litN]
      · have : 0 < r.length := List.length_pos_iff.mpr z
        rw [if_neg z, if_pos (by omega), litP]
    have es : sgS p = Sx [if p < 0 then 45 else 43] := by
      unfold sgS
      split
      · exact litM
      · exact litA
    rw [e, hd_S, ep, cut_from _ (by decide), litE, es, fr_S, Sx_len, rep_S, show ((2 : Int) - ((nL p.natAbs).length : Int)).toNat = 2 - (nL p.natAbs).length by omega]
    rw [Sx_cat, Sx_cat, Sx_cat, Sx_cat, Sx_cat, Sx_cat]
    rw [show (c :: r).drop (Int.toNat 1) = r from rfl]
    have lU : r = [] ∨ LNz r := by
      cases r with
      | nil => exact .inl rfl
      | cons d r2 =>
        right
        obtain ⟨G0, x, ex, hx⟩ := tl
        rw [e] at ex
        cases G0 with
        | nil => cases ex
        | cons y G1 => exact ⟨G1, x, (List.cons.inj ex).2, hx⟩
    have P := Prt.exp c (if p < 0 then 45 else 43) r _ p (by rw [← e]; exact dig) (by omega) lU f1 f2 f3 (by rw [f4]; split <;> omega) (by omega)
    refine ⟨_, 0, rfl, ?_, by omega, ?_⟩
    · rw [show Zs 0 = [] from rfl, List.append_nil]
      have eq : ((((((([c] ++ if r = [] then [] else [46]) ++ r) ++ [101]) ++ [if p < 0 then 45 else 43]) ++ List.replicate (2 - (nL p.natAbs).length) 48) ++ nL p.natAbs)) = (([c] ++ if r = [] then [] else 46 :: r) ++ 101 :: (if p < 0 then 45 else 43) :: (Zs (2 - (nL p.natAbs).length) ++ nL p.natAbs)) := by
        by_cases z : r = []
        · rw [z]; simp
        · rw [if_neg z, if_neg z]; simp
      rw [eq]
      exact P
    · rw [List.length_append] at f5
      have e1 : (if r = [] then ([] : List Nat) else [46]).length ≤ 1 := by split <;> simp
      have e2 : r.length + 1 ≤ 14 := by rw [e] at len; exact len
      simp only [List.length_append, List.length_cons, List.length_nil]
      rw [List.length_replicate] at f5 ⊢
      omega
  · rw [if_neg h1]
    by_cases h2 : p < 0
    · rw [if_pos h2, litZ, rep_S, Sx_cat, Sx_cat]
      have P := Prt.low (0 - p - 1).toNat c r (by omega) (by rw [← e]; exact dig) (by omega) (by rw [← e]; exact tl)
      rw [show (-1 - ((0 - p - 1).toNat : Int)) = p by omega] at P
      refine ⟨_, 0, rfl, ?_, by omega, ?_⟩
      · rw [show Zs 0 = [] from rfl, List.append_nil, e]
        have eq : ([48, 46] ++ List.replicate (0 - p - 1).toNat 48) ++ c :: r = [48] ++ 46 :: (Zs (0 - p - 1).toNat ++ c :: r) := by simp
        rw [eq]
        exact P
      · simp only [List.length_append, List.length_cons, List.length_nil, List.length_replicate]
        omega
    · rw [if_neg h2, Sx_len, rep_S, Sx_cat]
      unfold shW
      rw [cut_to _ (by omega), cut_from _ (by omega), litP]
      obtain ⟨m, hm⟩ : ∃ m : Nat, p = m := ⟨p.toNat, by omega⟩
      subst hm
      rw [show ((m : Int) + 1).toNat = m + 1 by omega, show ((m : Int) + 1 - (G.length : Int)).toNat = m + 1 - G.length by omega]
      unfold orS
      rw [Sx_len]
      by_cases z : G.length ≤ m + 1
      · have ly : (G ++ Zs (m + 1 - G.length)).length = m + 1 := by rw [List.length_append, List.length_replicate]; omega
        have d0 : (G ++ List.replicate (m + 1 - G.length) 48).drop (m + 1) = [] := List.drop_eq_nil_of_le (Nat.le_of_eq ly)
        have d1 : (G ++ List.replicate (m + 1 - G.length) 48).take (m + 1) = G ++ List.replicate (m + 1 - G.length) 48 := List.take_of_length_le (Nat.le_of_eq ly)
        rw [d0, d1, if_pos (show ([] : List Nat).length = 0 from rfl), lit0, Sx_cat, Sx_cat]
        refine ⟨_, m + 1 - G.length + 1, rfl, ?_, by omega, ?_⟩
        · have lG : G.length = r.length + 1 := by rw [e]; rfl
          have e3 : (r ++ Zs (m + 1 - G.length)).length = m := by
            rw [List.length_append, List.length_replicate]
            omega
          have P := Prt.mid c (r ++ Zs (m + 1 - G.length)) [48] (by rw [e3]; omega) (by rw [← List.cons_append, ← e]; exact dg_app dig (dg_zs _)) (by intro x hx; rw [List.mem_singleton.mp hx]; omega) (by omega) (.inl rfl)
          rw [e3, ← List.cons_append, ← e] at P
          have eq : ((G ++ List.replicate (m + 1 - G.length) 48) ++ [46]) ++ [48] = (G ++ Zs (m + 1 - G.length)) ++ 46 :: [48] := by simp
          rw [eq]
          have eq2 : (G ++ Zs (m + 1 - G.length)) ++ [48] = G ++ Zs (m + 1 - G.length + 1) := by rw [List.append_assoc]; congr 1; exact (List.replicate_succ' ..).symm
          rw [eq2] at P
          exact P
        · rw [List.length_append, List.length_append]
          have : (G ++ List.replicate (m + 1 - G.length) 48).length = m + 1 := ly
          simp only [List.length_cons, List.length_nil]
          omega
      · rw [show m + 1 - G.length = 0 by omega, show List.replicate 0 48 = ([] : List Nat) from rfl, List.append_nil]
        rw [if_neg (by rw [List.length_drop]; omega), Sx_cat, Sx_cat]
        refine ⟨_, 0, rfl, ?_, by omega, ?_⟩
        · have lU : LNz (G.drop (m + 1)) := by
            obtain ⟨G0, x, ex, hx⟩ := tl
            have : G.length = G0.length + 1 := by rw [ex]; simp
            refine ⟨G0.drop (m + 1), x, ?_, hx⟩
            rw [ex, List.drop_append_of_le_length (by omega)]
          have P := Prt.mid c (r.take m) (G.drop (m + 1)) (by rw [List.length_take]; omega) (by
              intro x hx
              refine dig x ?_
              rw [e]
              rcases List.mem_cons.mp hx with rfl | hx
              · exact List.mem_cons_self
              · exact List.mem_cons_of_mem _ (List.mem_of_mem_take hx)) (fun x hx => dig x (List.mem_of_mem_drop hx)) (by omega) (.inr lU)
          have e3 : (r.take m).length = m := by
            rw [e, List.length_cons] at z
            rw [List.length_take]
            omega
          rw [e3] at P
          have e4 : G.take (m + 1) = c :: r.take m := by rw [e]; rfl
          rw [← e4, List.take_append_drop] at P
          rw [show Zs 0 = [] from rfl, List.append_nil]
          have eq : (G.take (m + 1) ++ [46]) ++ G.drop (m + 1) = G.take (m + 1) ++ 46 :: G.drop (m + 1) := by simp
          rw [eq]
          exact P
        · simp only [List.length_append, List.length_cons, List.length_nil, List.length_take, List.length_drop]
          omega
/-- the text of a fraction above 0 -/
theorem shS_ex {t b : Nat} (t0 : 0 < t) (b0 : 0 < b) (ht : t < 2 ^ 1200) (hb : b < 2 ^ 1200) : ∃ G l k, Figs t b G ∧ shS t b = Sx l ∧ Prt l (G ++ Zs k) (shP t b) ∧ k ≤ 14 ∧ l.length ≤ 40 := by
  obtain ⟨G, F⟩ := figs_ex t0 b0
  have ps := pcF_small ht hb
  obtain ⟨l, k, e, P, hk, hl⟩ := prt_ex F (p := shP t b) (by unfold shP; split <;> omega) (by unfold shP; split <;> omega)
  refine ⟨G, l, k, F, ?_, P, hk, hl⟩
  unfold shS
  rw [F.eq]
  exact e
end Up

set_option Elab.async false
set_option linter.all false
set_option pp.maxSteps 600
set_option maxRecDepth 100000
set_option maxHeartbeats 4000000
namespace Up
open PySem PySem.Spec PyProof.Rows L2 PySem.W
/-! ### own exceptions over ArithmeticError, their __init__ walked as a def -/
structure AxC (K : PySem.W.Frag) (C : Addr) : Prop where
  ini : excInitIn K C aeT "ArithmeticError.__new__" = true
  ov : excOver K C aeT = true
  hd : hasDictIn K C = true
  sa : findIn K (.ref C) "__setattr__" = some (some (.builtin "object.__setattr__"))
  exC : subIn K (.ref C) (.type "BaseException") = some true
  tyC : typeIn K (.ref C) = some (.type "type")
  kC : keepIn K (.ref C) = true
section
variable {prog : Program} {w : World} {A : Around} {R : Result → Shared → Prop} {K : PySem.W.Frag} {x C : Addr} {name : Str} {tk : Tok} {v : Value} {hp : Heap} {g : Array GenState} {d : Drawn} {t : Nat} {os : OsState}
/-- the first field: the dict is laid -/
theorem ax_set0 {fv : Array Value} (T : AxC K C) (Y : K.In hp) (hx : hp.get? x = some { cls := .ref C, data := .fields fv }) (ht : takerIn K C name = some none)
    (q : ∀ h' tk' dx, (∀ b o, b ≠ x → hp.get? b = some o → h'.get? b = some o) → hp.objs.size ≤ dx → dx ≠ x → h'.get? x = some { cls := .ref C, dict := some dx, data := .fields fv } → h'.Ns1 dx (fun y => if y = name then some v else none) → R (.ok (.ret .none)) ⟨h', g, d, tk', os⟩) :
    codeAny (model prog w) A (.call (.builtin "object.__setattr__") ⟨[.ref x, .str name tk, v], []⟩) R ⟨hp, g, d, t, os⟩ := by
  refine osa_openX (s := ⟨hp, g, d, t, os⟩) (od := none) PySem.F.store_ArithmeticError Y ⟨hx, rfl, rfl, trivial⟩ T.ov ht fun b => ?_
  obtain ⟨cd, hc, hd'⟩ := any_some T.hd
  have ne : x ≠ hp.objs.size := Nat.ne_of_lt (Heap.lt_size hx)
  have hcl : Looks (model prog w) hp (classData C) cd := looks_clsIn Y hc
  obtain ⟨c1, c2, c3, c4, c5, c6, c7, c8, c9, c10, c11⟩ := cd
  have hd2 : c6 = true := hd'
  subst hd2
  unfold Builtin.ObjectAttr.storeInOwnDict Builtin.ObjectAttr.ownDictForStores
  repeat (first | with_reducible refine HandSPX.store_in_new ?_ ?_ | with_reducible refine wpAny_loadPart_at hx ?_ | with_reducible refine hcl.at ?_ | wp_step)
  · exact ⟨_, #[], _, (Heap.get?_update_ne _ _ _ _ ne.symm).trans (Heap.get?_push_at rfl rfl), rfl, fun e he => absurd he (by simp), fun _ => rfl⟩
  · intro h' tk' n1 sb
    have hx1 : (hp.push { cls := .type "dict", data := .dict #[] }).get? x = some { cls := .ref C, data := .fields fv } := Heap.get?_push_of_some _ hx
    exact q h' tk' hp.objs.size (fun b o hb ho => (sb.2 b (Nat.ne_of_lt (Heap.lt_size ho))).trans ((Heap.get?_update_ne _ _ _ _ hb).trans (Heap.get?_push_of_some _ ho))) (Nat.le_refl _) ne.symm
      ((sb.2 x ne).trans (Heap.get?_update_self _ hx1 rfl)) n1
/-- a later one -/
theorem ax_setD {fv : Array Value} {dx : Addr} {m0 : Str → Option Value} {nl : List Str} (T : AxC K C) (Y : K.In hp) (hx : hp.get? x = some { cls := .ref C, dict := some dx, data := .fields fv }) (hn : hp.Ns1 dx m0) (hw : Within m0 nl) (hz : nl.length ≤ 1000) (ht : takerIn K C name = some none)
    (q : ∀ h' tk', (∀ b o, b ≠ dx → hp.get? b = some o → h'.get? b = some o) → h'.Ns1 dx (fun y => if y = name then some v else m0 y) → R (.ok (.ret .none)) ⟨h', g, d, tk', os⟩) :
    codeAny (model prog w) A (.call (.builtin "object.__setattr__") ⟨[.ref x, .str name tk, v], []⟩) R ⟨hp, g, d, t, os⟩ := by
  obtain ⟨oD, esD, epD, hoD, hdD, _⟩ := hn.count hw
  refine osa_openX (s := ⟨hp, g, d, t, os⟩) (od := some oD) PySem.F.store_ArithmeticError Y ⟨hx, rfl, rfl, hoD⟩ T.ov ht fun b => ?_
  obtain ⟨cd, hc, hd'⟩ := any_some T.hd
  have hcl : Looks (model prog w) hp (classData C) cd := looks_clsIn Y hc
  obtain ⟨c1, c2, c3, c4, c5, c6, c7, c8, c9, c10, c11⟩ := cd
  have hd2 : c6 = true := hd'
  subst hd2
  unfold Builtin.ObjectAttr.storeInOwnDict Builtin.ObjectAttr.ownDictForStores
  repeat (first | with_reducible refine OEX.store_in_old hn hw hz ?_ | with_reducible refine wpAny_loadPart_at hx ?_ | with_reducible refine hcl.at ?_ | wp_step)
  intro h' tk' n1 sb
  exact q h' tk' (fun b o hb ho => (sb.2 b hb).trans ho) n1
end
theorem taker_none {K : PySem.W.Frag} {C : Addr} {f : Str} (h : findIn K (.ref C) f = some none) : takerIn K C f = some none := by
  unfold takerIn
  rw [h]
  rfl
section
variable {X : Cx} {pins : List (Addr × Obj)} {σ : L2.St} {H : Hp} {s : Shared} {a C dx : Addr} {f : Str} {y : V} {u : Value} {fs : List (Str × V)} {Q : Unit → Shared → Prop} {E : Value → Shared → Prop} {A : Around}
theorem ax_new (T : AxC X.K C) (I : L2.Inv X pins σ H s) (ea : H a = some (exo a C none)) (hno : findIn X.K (.ref C) f = some none) (ry : L2.RelV y u)
    (h : ∀ dx s', H dx = none → dx ≠ a → L2.Inv X pins σ (upd (upd H dx (exd dx [(f, y)])) a (exo a C (some dx))) s' → Q () s') : wpAny (model X.prog X.w) A (setAttr (.ref a) f u) Q E s := by
  obtain ⟨t1, oa⟩ := exo_at I.hok ea
  obtain ⟨hp, gg, dr, tt, oo⟩ := s
  refine set_plain I.kIn (ox := { cls := .ref C, dict := none, data := .fields #[.ref t1, .none, .none, .none, .bool false, .none] }) (od := none) ⟨oa, rfl, rfl, trivial⟩ T.sa (ax_set0 T I.kIn oa (taker_none hno) fun h' tk' dx kp dn dne hx hn => ?_)
  have fr : H dx = none := I.hok.fresh dn
  have old : ∀ {b : Addr} {o : Obj}, hp.get? b = some o → b ≠ dx := fun {b o} z => Nat.ne_of_lt (Nat.lt_of_lt_of_le (Heap.lt_size z) dn)
  have nota : ∀ {b : Addr}, H b = none → b ≠ a := fun {b} n z => by
    subst z
    exact absurd (ea.symm.trans n) (by simp)
  refine h dx _ fr dne (I.un (t' := tk') ⟨fun b o z n _ _ => kp b o (nota n) z, fun b o z n _ _ => ⟨o.slots, kp b o (nota n) z⟩, fun b o z n _ => ?_, fun b o z _ => ?_, fun b xs z => ?_, fun b o v z => ?_, fun b ps z => ?_⟩ fun b o z => ?_)
  · rw [upd_ne (nota n), upd_ne (old z), n]
  · by_cases hb : b = a
    · subst hb; exact ⟨_, hx⟩
    · exact ⟨o, kp b o hb z⟩
  · rw [upd_ne (at_ne ea z exo_tup), upd_ne (ne_of_none z fr), z]
  · rw [upd_ne (at_ne ea z exo_frz), upd_ne (ne_of_none z fr), z]
  · refine ⟨#[], ?_⟩
    rw [upd_ne (at_ne ea z exo_tbl), upd_ne (ne_of_none z fr), z]
    simp
  · by_cases hb : b = a
    · subst hb
      rw [upd_same] at z
      cases z
      exact exo_ok hx
    · rw [upd_ne hb] at z
      by_cases hd : b = dx
      · subst hd
        rw [upd_same] at z
        cases z
        exact exd_ok hn (relO_put (fs := []) ry fun _ => trivial)
      · rw [upd_ne hd] at z
        refine (I.hok b o z).stay (fun c v hc r => kp c v ?_ r) (fun c hc => ?_) (fun c xs hc => ?_)
        · rcases hc with hc | hc
          · rw [hc]; exact hb
          · exact at_ne ea hc exo_own
        · rw [upd_ne (at_ne ea hc exo_own), upd_ne (ne_of_none hc fr), hc]
        · rw [upd_ne (at_ne ea hc exo_tup), upd_ne (ne_of_none hc fr), hc]
theorem ax_old (T : AxC X.K C) (I : L2.Inv X pins σ H s) (ea : H a = some (exo a C (some dx))) (ed : H dx = some (exd dx fs)) (hl : fs.length ≤ 900) (hno : findIn X.K (.ref C) f = some none) (ry : L2.RelV y u)
    (h : ∀ s', L2.Inv X pins σ (upd H dx (exd dx ((f, y) :: fs))) s' → Q () s') : wpAny (model X.prog X.w) A (setAttr (.ref a) f u) Q E s := by
  obtain ⟨t1, oa⟩ := exo_at I.hok ea
  obtain ⟨mA, hns, rel⟩ := exd_at I.hok ed
  obtain ⟨hp, gg, dr, tt, oo⟩ := s
  have hw := within_of rel
  obtain ⟨oD, _, _, hoD, _, _⟩ := hns.count hw
  refine set_plain I.kIn (ox := { cls := .ref C, dict := some dx, data := .fields #[.ref t1, .none, .none, .none, .bool false, .none] }) (od := some oD) ⟨oa, rfl, rfl, hoD⟩ T.sa
    (ax_setD T I.kIn oa hns hw (by rw [List.length_map]; omega) (taker_none hno) fun h' tk' kp hn => ?_)
  have there : ∃ o, h'.get? dx = some o := by
    obtain ⟨o, _, _, z, _⟩ := hn
    exact ⟨o, z⟩
  exact h _ (I.write (t' := tk') (x := dx) (e := dx) (o := exd dx ((f, y) :: fs)) (by rw [ed]; trivial) (.inl rfl) kp there (exd_ok hn (relO_put ry rel)))
/-- ArithmeticError.__init__(self, ..) -/
theorem ax_init {us : List Value} {Q : Value → Shared → Prop} (T : AxC X.K C) (I : L2.Inv X pins σ H s) (ea : H a = some (exo a C none)) (hl : us.length ≤ sizeLine) (h : ∀ s', L2.Inv X pins σ H s' → Q .none s') :
    wpAny (model X.prog X.w) A (call (.builtin "ArithmeticError.__init__") (.ref a :: us)) Q E s := by
  obtain ⟨nm, N, qn, bs, bm, hd, sn, sub, ab, col, dd, k0, k1, k2, k3, k5, hC, hT⟩ := excInit_of I.kIn T.ini
  obtain ⟨t1, oa⟩ := exo_at I.hok ea
  obtain ⟨hp, gg, dr, tt, oo⟩ := s
  refine wpAny_call (HandSPX.init_base PySem.F.excBase_ArithmeticError hT hC oa hl fun h' t2 kp hx => ?_)
  have J := I.write (t' := tt) (x := a) (e := a) (o := exo a C none) (by rw [ea]; trivial) (.inl rfl) kp ⟨_, hx⟩ (exo_ok hx)
  have same : upd H a (exo a C none) = H := funext fun b => by
    by_cases hb : b = a
    · subst hb; rw [upd_same, ea]
    · rw [upd_ne hb]
  rw [same] at J
  exact h _ J
end
theorem typ_AE : typeOf (.type "ArithmeticError") = pure (.type "type") := by kernel_rfl
/-! readings and rules -/
def tAxI (K : PySem.W.Frag) (ta : TA) : TE := fun σ H Q => ta σ H fun vs H1 => ∃ (a C : Addr) (ws : List V), vs = .ref a :: ws ∧ ws.length ≤ 1000 ∧ AxC K C ∧ H1 a = some (exo a C none) ∧ Q .non H1
def AxNew (H : Hp) (a C : Addr) (f : Str) (y : V) (R : Hp → Prop) : Prop := ∀ dx H', H dx = none → dx ≠ a → H' a = some (exo a C (some dx)) → H' dx = some (exd dx [(f, y)]) → (∀ b, b ≠ a → b ≠ dx → H' b = H b) → R H'
def AxOld (H : Hp) (a dx : Addr) (fs : List (Str × V)) (f : Str) (y : V) (R : Hp → Prop) : Prop := ∀ H', H' dx = some (exd dx ((f, y) :: fs)) → (∀ b, b ≠ dx → H' b = H b) → R H'
def tAxS (K : PySem.W.Frag) (f : Str) (to te : TE) : TS := fun D σ H => te σ H fun y H1 => to σ H1 fun x H2 => ∃ a C : Addr, x = .ref a ∧ AxC K C ∧ findIn K (.ref C) f = some none ∧
  ((H2 a = some (exo a C none) ∧ AxNew H2 a C f y (D.nx σ)) ∨ ∃ (dx : Addr) (fs : List (Str × V)), H2 a = some (exo a C (some dx)) ∧ H2 dx = some (exd dx fs) ∧ fs.length ≤ 900 ∧ AxOld H2 a dx fs f y (D.nx σ))
section
variable {X : Cx} {o e : Expr} {es : List Expr} {to te : TE} {ta : TA} {f : Str} {p p' p1 p2 pos : Pos}
theorem pe_axI {pl : Sem Bool} (hm : X.mg "ArithmeticError" = none) (vV : findCls X.K (.type "ArithmeticError") (.type "type") "__init__" = some (.val (.builtin "ArithmeticError.__init__"))) (ha : PA X (e :: es) ta) (hg : Gl X "ArithmeticError" := by rfl)
    (hc : eval (.Call (.Attribute (.Name "ArithmeticError" p1) "__init__" p2) (e :: es) [] pos) X.env = (do
      let ov ← eval (.Name "ArithmeticError" p1) X.env
      standAt p2.atName
      let (f, first) ← holding [ov] (getMethod ov "__init__" pl)
      callWith pos f first (backTo pos (starEach (e :: es) X.env)) (backToKw pos (keywordEach [] X.env))) := by rfl)
    (he : starEach (e :: es) X.env = (false, eval e X.env) :: starEach es X.env := by rfl) (hpl : (backTo pos (starEach es X.env)).any (·.1) = false := by rfl) :
    PE X (.Call (.Attribute (.Name "ArithmeticError" p1) "__init__" p2) (e :: es) [] pos) (tAxI X.K ta) := by
  refine ⟨fun pins s σ H Q I h => methodCall_KW (ld_blt I hg hm PyProof.Rows.Boot.«ArithmeticError» ?_ (by decide) (by decide)) hc⟩
  obtain ⟨m, fr⟩ := I.fr
  refine method_type fr I.ok.mod.kin typ_AE (by decide +kernel) vV (by decide +kernel) ?_
  show wpAny _ _ (callWith pos (Value.builtin "ArithmeticError.__init__") [] (backTo pos (starEach (e :: es) X.env)) []) _ _ _
  refine PyProof.Rows.callWith_method1 (thn (ha.run pos pins _ σ H _ (I.tok _) h) fun us s1 ⟨vs, H1, I1, r1, a, C, ws, ev, hl, T, ea, q⟩ => ?_) he hpl
  subst ev
  cases r1 with
  | @cons _ u0 _ ur ra rr =>
    cases (show u0 = Value.ref a from ra)
    have n := Paired.length rr
    exact ax_init T I1 ea (by rw [← n, sizeLine_eq]; omega) fun s' J => ⟨.non, H1, J, rfl, q⟩
theorem ps_axS (ho : PE X o to) (he : PE X e te) (hs : swapsWith e (some (.Attribute o f p')) pos.line X.env = pure false := by rfl) : PS X (.Assign [.Attribute o f p'] e pos) (tAxS X.K f to te) := by
  refine ⟨fun pins s σ H D I h => plainObj_wpAny_Assign_Attribute (thn (he.run pins s σ H _ I h) fun v s1 ⟨y, H1, I1, r1, q1⟩ => thn (ho.run pins s1 σ H1 _ I1 q1) fun u s2 ⟨x, H2, I2, r2, a, C, ex, T, hno, q⟩ => ?_) hs⟩
  subst ex
  cases (show u = Value.ref a from r2)
  rcases q with ⟨ea, q⟩ | ⟨dx, fs, ea, ed, hl, q⟩
  · exact ax_new T I2 ea hno r1 fun dx s' n ne J => ⟨σ, _, J, q dx _ n ne upd_same ((upd_ne ne).trans upd_same) fun b b1 b2 => (upd_ne b1).trans (upd_ne b2)⟩
  · exact ax_old T I2 ea ed hl hno r1 fun s' J => ⟨σ, _, J, q _ upd_same fun b b1 => upd_ne b1⟩
/-- C(..) of such a class -/
theorem pmk_ax {CX : CXT} {x : Str} {C fI : Addr} {k : Nat} {fd : FuncData} {ps : List Str} {sp : Sp} {ds : List Value} {dvs : List V} (T : AxC X.K C) (iC : findIn X.K (.ref C) "__init__" = some (some (.ref fI))) (tI : typeIn X.K (.ref fI) = some (.type "function"))
    (F1 : FnOk X.prog X.w X.K X.mg X.base CX k fI fd ps sp) (hr : Room (k + 1) X.A) (hb : Binds X.K fd ps ds) (hd : Vals dvs ds) (hx : Passes CX X (fun _ _ _ => False)) (hm : X.mg x = some (.ref C)) (ha : PA X (e :: es) ta) (hg : Gl X x := by rfl)
    (hdb : (x == ("__debug__" : Str)) = false := by decide) (he : starEach (e :: es) X.env = (false, eval e X.env) :: starEach es X.env := by rfl) (hpl : (backTo pos (starEach es X.env)).any (·.1) = false := by rfl) :
    PMk X (.Call (.Name x p) (e :: es) [] pos) (tMkO C sp dvs ta) := by
  intro pins s σ H Q I h
  refine wpAny_Call_Name_kw (ld_glob I hg hm ?_ hdb)
  refine callWith_K (h₀ := X.base) I.ok.mod.kin T.kC (thn (ha.run pos pins s σ H _ I h) fun us s1 ⟨vs, H1, I1, r1, hz, q1⟩ => ⟨I1.kIn, ?_⟩) he hpl
  show wpAny _ _ (call (.ref C) us) _ _ _
  obtain ⟨hp, gg, dr, tk, oo⟩ := s1
  obtain ⟨nm, N, qn, bs, bm, hdc, sn, sub, ab, col, dd, k0, k1, k2, k3, k5, hC, hT⟩ := excInit_of I1.kIn T.ini
  have le1 : hp.objs.size ≤ hp.objs.size + 1 := Nat.le_succ _
  have free1 : H1 (hp.objs.size + 1) = none := I1.hok.fresh le1
  have todo := q1 (hp.objs.size + 1) free1
  have kp : ∀ b o, hp.get? b = some o → ((hp.push (kdv_tup us)).push (HandSPX.excO C hp.objs.size)).get? b = some o := fun b o z => Heap.get?_push_of_some _ (Heap.get?_push_of_some _ z)
  have at1 : ((hp.push (kdv_tup us)).push (HandSPX.excO C hp.objs.size)).get? (hp.objs.size + 1) = some (HandSPX.excO C hp.objs.size) := by heap_get
  have I2 := I1.laid (t' := tk) (a := hp.objs.size + 1) (o := exo (hp.objs.size + 1) C none) (h' := (hp.push (kdv_tup us)).push (HandSPX.excO C hp.objs.size)) kp le1 (exo_ok at1)
  have rels : Vals (V.ref (hp.objs.size + 1) :: (vs ++ dvs)) (Value.ref (hp.objs.size + 1) :: (us ++ ds)) := .cons rfl (r1.append hd)
  have len : (Value.ref (hp.objs.size + 1) :: us ++ ds).length = ps.length := by
    have z := rels.length
    rw [F1.len _ _ _ _ todo] at z
    exact z.symm
  have lus : us.length ≤ sizeLine := by
    have z := Paired.length r1
    rw [sizeLine_eq]
    omega
  have fun1 := F1.run _ X.stack _ _ ⟨Value.ref (hp.objs.size + 1) :: us, []⟩ (Value.ref (hp.objs.size + 1) :: (us ++ ds)) _ _ (fun _ _ _ => False) (hr.make C us []) (I2.env0.make C us []) (hb _ (Value.ref (hp.objs.size + 1) :: us) I2.kIn len) rels todo
  refine wpAny_call (HandSPX.call_own PySem.F.excBase_ArithmeticError hT hC (looks_findIn I1.kIn iC) (fun self => bind_fn I1.kIn self tI) lus (codeAny_mono fun1 fun r s' z => ?_))
  cases r with
  | error er => exact hx pins σ _ _ er s' I2 z
  | ok fl =>
    cases fl
    case ret u =>
      obtain ⟨v, H2, os2, bare2, un2, hok2, rv, ev, d, fs, ea, ed, hd1, q2⟩ := z
      subst ev
      obtain ⟨h2, g2, d2, t2, o2⟩ := s'
      exact ⟨rv, mk_end (raises_own T.exC T.tyC) I1 le1 kp un2 hok2 os2 bare2 ea ed hd1 q2⟩
    all_goals exact False.elim z
end
end Up

set_option Elab.async false
set_option linter.all false
set_option maxRecDepth 100000
set_option maxHeartbeats 4000000
set_option exponentiation.threshold 200000
namespace Up
open PySem PySem.Spec PyProof.Rows L2
theorem pe_gstr {X : Cx} {x : Str} {z : Str} {pos : Pos} (h : ∃ t, X.mg x = some (.str z t)) (hg : Gl X x := by rfl) (hd : (x == ("__debug__" : Str)) = false := by decide) : PE X (.Name x pos) (tC (.str z)) := by
  obtain ⟨t, h⟩ := h
  exact pe_glob hg h ⟨_, rfl⟩ hd
/-! ### signs and parts of texts -/
def isD (c : Nat) : Bool := decide (48 ≤ c) && decide (c ≤ 57)
def isX (c : Nat) : Bool := isD c || (decide (97 ≤ c) && decide (c ≤ 102))
def isBk (c : Nat) : Bool := decide (c = 32) || decide (c = 9) || decide (c = 10)
def dropE (p : Nat → Bool) (l : List Nat) : List Nat := (l.reverse.dropWhile p).reverse
def stripL (p : Nat → Bool) (l : List Nat) : List Nat := dropE p (l.dropWhile p)
theorem dropW_eq {p : Nat → Bool} : ∀ {l : List Nat} {n : Nat}, n ≤ l.length → (∀ k, k < n → p (l.getD k 0) = true) → (n = l.length ∨ p (l.getD n 0) = false) → l.dropWhile p = l.drop n := by
  intro l
  induction l with
  | nil => intro n h _ _; have : n = 0 := by simpa using h
           subst this; rfl
  | cons c r ih =>
    intro n h1 h2 h3
    cases n with
    | zero =>
      rcases h3 with h3 | h3
      · cases h3
      · have h3 : p c = false := h3
        rw [List.dropWhile_cons, h3]
        rfl
    | succ n =>
      have hc : p c = true := h2 0 (Nat.succ_pos _)
      rw [List.dropWhile_cons, hc, if_pos rfl, List.drop_succ_cons]
      refine ih (by simpa using h1) (fun k hk => h2 (k + 1) (by omega)) ?_
      rcases h3 with h3 | h3
      · exact .inl (by simpa using h3)
      · exact .inr h3
theorem getD_rev {l : List Nat} {k : Nat} (h : k < l.length) : l.reverse.getD k 0 = l.getD (l.length - 1 - k) 0 := by
  rw [List.getD_eq_getElem?_getD, List.getD_eq_getElem?_getD, List.getElem?_reverse h]
theorem dropE_eq {p : Nat → Bool} {l : List Nat} {m : Nat} (h1 : m ≤ l.length) (h2 : ∀ k, m ≤ k → k < l.length → p (l.getD k 0) = true) (h3 : m = 0 ∨ p (l.getD (m - 1) 0) = false) : dropE p l = l.take m := by
  have a1 : ∀ k, k < l.length - m → p (l.reverse.getD k 0) = true := fun k hk => by
    rw [getD_rev (by omega)]
    exact h2 _ (by omega) (by omega)
  have a2 : l.length - m = l.reverse.length ∨ p (l.reverse.getD (l.length - m) 0) = false := by
    by_cases hm : m = 0
    · left; rw [List.length_reverse]; omega
    · right
      rw [getD_rev (by omega), show l.length - 1 - (l.length - m) = m - 1 by omega]
      exact h3.resolve_left hm
  unfold dropE
  rw [dropW_eq (by rw [List.length_reverse]; omega) a1 a2, List.drop_reverse, List.reverse_reverse]
  congr 1
  omega
theorem getD_drop' {l : List Nat} {i k : Nat} : (l.drop i).getD k 0 = l.getD (i + k) 0 := by
  rw [List.getD_eq_getElem?_getD, List.getD_eq_getElem?_getD, List.getElem?_drop]
theorem strip_S {p : Nat → Bool} (l b : List Nat) (hb : ∀ c, (Sx b).cps.contains c = p c) : Txt.stripChars (Sx l) (Sx b) = Sx (stripL p l) := by
  unfold Txt.stripChars
  have hg : (fun c => (Sx b).cps.contains c) = p := funext hb
  rw [show ((Sx b).cps.contains : Nat → Bool) = p from hg, stripBy_eq]
  obtain ⟨h1, h2, h3⟩ := lo_facts p (Sx l)
  obtain ⟨g1, g2, g3, g4⟩ := hi_facts p (Sx l) (stripLo p true (Sx l)) h1
  generalize stripHi p true (Sx l) (stripLo p true (Sx l)) = hi at *
  generalize stripLo p true (Sx l) = lo at *
  rw [Sx_len] at h1 h3 g2 g3
  rw [sub_S]
  congr 1
  unfold stripL
  rw [dropW_eq h1 (fun k hk => by rw [← Sx_getD]; exact h2 k hk) (h3.imp id fun z => by rw [← Sx_getD]; exact z)]
  have a1 : ∀ k, hi - lo ≤ k → k < (l.drop lo).length → p ((l.drop lo).getD k 0) = true := fun k k1 k2 => by
    rw [getD_drop', ← Sx_getD]
    rw [List.length_drop] at k2
    exact g3 _ (by omega) (by omega)
  have a2 : hi - lo = 0 ∨ p ((l.drop lo).getD (hi - lo - 1) 0) = false := by
    by_cases hh : hi - lo = 0
    · exact .inl hh
    · right
      rw [getD_drop', ← Sx_getD, show lo + (hi - lo - 1) = hi - 1 by omega]
      exact g4.resolve_left (by omega)
  rw [dropE_eq (m := hi - lo) (by rw [List.length_drop]; omega) a1 a2]
theorem lstrip_gen {p : Nat → Bool} (l b : List Nat) (hb : ∀ c, (Sx b).cps.contains c = p c) : Txt.lstripChars (Sx l) (Sx b) = Sx (l.dropWhile p) := by
  unfold Txt.lstripChars
  rw [show ((Sx b).cps.contains : Nat → Bool) = p from funext hb, stripBy_eq]
  obtain ⟨h1, h2, h3⟩ := lo_facts p (Sx l)
  have hi : ∀ lo, stripHi p false (Sx l) lo = (Sx l).length := fun lo => by simp [stripHi]
  rw [hi]
  generalize stripLo p true (Sx l) = lo at *
  rw [Sx_len] at h1 h3 ⊢
  rw [sub_S]
  congr 1
  rw [dropW_eq h1 (fun k hk => by rw [← Sx_getD]; exact h2 k hk) (h3.imp id fun z => by rw [← Sx_getD]; exact z)]
  exact List.take_of_length_le (by rw [List.length_drop]; exact Nat.le_refl _)
theorem has_S (b : List Nat) (c : Nat) : (Sx b).cps.contains c = decide (c ∈ b) := by
  show (b.toArray).contains c = _
  by_cases h : c ∈ b
  · rw [decide_eq_true h]; simp [h]
  · rw [decide_eq_false h]; simp [h]
theorem litB : (" \t\n" : Str) = Sx [32, 9, 10] := by decide +kernel
theorem litH : ("0123456789abcdef" : Str) = Sx [48, 49, 50, 51, 52, 53, 54, 55, 56, 57, 97, 98, 99, 100, 101, 102] := by decide +kernel
theorem litDg : ("0123456789" : Str) = Sx [48, 49, 50, 51, 52, 53, 54, 55, 56, 57] := by decide +kernel
theorem litHU : ("0123456789abcdefABCDEF" : Str) = Sx [48, 49, 50, 51, 52, 53, 54, 55, 56, 57, 97, 98, 99, 100, 101, 102, 65, 66, 67, 68, 69, 70] := by decide +kernel
theorem lit0x : ("0x" : Str) = Sx [48, 120] := by decide +kernel
theorem lit0X : ("0X" : Str) = Sx [48, 88] := by decide +kernel
theorem litEU : ("E" : Str) = Sx [69] := by decide +kernel
theorem mem_dg {c : Nat} : decide (c ∈ [48, 49, 50, 51, 52, 53, 54, 55, 56, 57]) = isD c := by
  unfold isD
  rw [← Bool.decide_and]
  congr 1
  simp only [List.mem_cons, List.not_mem_nil, or_false, eq_iff_iff]
  omega
theorem mem_hx {c : Nat} : decide (c ∈ [48, 49, 50, 51, 52, 53, 54, 55, 56, 57, 97, 98, 99, 100, 101, 102]) = isX c := by
  unfold isX isD
  rw [← Bool.decide_and, ← Bool.decide_and, ← Bool.decide_or]
  congr 1
  simp only [List.mem_cons, List.not_mem_nil, or_false, eq_iff_iff]
  omega
theorem mem_bl {c : Nat} : decide (c ∈ [32, 9, 10]) = isBk c := by
  unfold isBk
  rw [← Bool.decide_or, ← Bool.decide_or]
  congr 1
  simp only [List.mem_cons, List.not_mem_nil, or_false, eq_iff_iff]
  omega
theorem strip_bl (l : List Nat) : Txt.stripChars (Sx l) " \t\n" = Sx (stripL isBk l) := by
  rw [litB]
  exact strip_S l _ fun c => by rw [has_S, mem_bl]
theorem strip_z (l : List Nat) : Txt.stripChars (Sx l) "0" = Sx (stripL (fun c => decide (c = 48)) l) := by
  rw [lit0]
  exact strip_S l _ fun c => by rw [has_S]; simp
theorem lstrip_z (l : List Nat) : Txt.lstripChars (Sx l) "0" = Sx (l.dropWhile (fun c => decide (c = 48))) := by
  rw [lit0]
  exact lstrip_gen l _ fun c => by rw [has_S]; simp
theorem in_one (b : List Nat) (c : Nat) : (!(Builtin.Str.occurrences (Sx b) (⟨#[c]⟩ : Str) 0 (Sx b).length 1).isEmpty) = decide (c ∈ b) := by
  rw [show (⟨#[c]⟩ : Str) = SX.S [c] from rfl]
  exact SX.in_one b c
theorem in_D (c : Nat) : (!(Builtin.Str.occurrences ("0123456789" : Str) (⟨#[c]⟩ : Str) 0 ("0123456789" : Str).length 1).isEmpty) = isD c := by rw [litDg, in_one, mem_dg]
theorem in_X (c : Nat) : (!(Builtin.Str.occurrences ("0123456789abcdef" : Str) (⟨#[c]⟩ : Str) 0 ("0123456789abcdef" : Str).length 1).isEmpty) = isX c := by rw [litH, in_one, mem_hx]
/-! parted at a sign -/
def parL (c : Nat) (l : List Nat) : List Nat × List Nat × List Nat := (l.takeWhile (fun x => decide (x ≠ c)), if c ∈ l then [c] else [], (l.dropWhile (fun x => decide (x ≠ c))).drop 1)
theorem tw_all {p : Nat → Bool} : ∀ {l : List Nat}, (∀ x ∈ l, p x = true) → l.takeWhile p = l ∧ l.dropWhile p = []
  | [], _ => ⟨rfl, rfl⟩
  | x :: r, h => by
    have hx := h x List.mem_cons_self
    obtain ⟨h1, h2⟩ := tw_all (l := r) fun y hy => h y (List.mem_cons_of_mem _ hy)
    rw [List.takeWhile_cons, List.dropWhile_cons, hx, if_pos rfl, if_pos rfl, h1]
    exact ⟨rfl, h2⟩
theorem tw_app {p : Nat → Bool} : ∀ {l r : List Nat}, (∀ x ∈ l, p x = true) → (l ++ r).takeWhile p = l ++ r.takeWhile p ∧ (l ++ r).dropWhile p = r.dropWhile p
  | [], _, _ => ⟨rfl, rfl⟩
  | x :: l, r, h => by
    have hx := h x List.mem_cons_self
    obtain ⟨h1, h2⟩ := tw_app (l := l) (r := r) fun y hy => h y (List.mem_cons_of_mem _ hy)
    rw [List.cons_append, List.takeWhile_cons, List.dropWhile_cons, hx, if_pos rfl, if_pos rfl, h1]
    exact ⟨rfl, h2⟩
theorem parL_yes {c : Nat} {p q : List Nat} (h : c ∉ p) : parL c (p ++ c :: q) = (p, [c], q) := by
  have hp : ∀ x ∈ p, decide (x ≠ c) = true := fun x hx => decide_eq_true fun z => h (by rw [← z]; exact hx)
  obtain ⟨e1, e2⟩ := tw_app (r := c :: q) hp
  unfold parL
  rw [e1, e2, if_pos (by simp), List.takeWhile_cons, List.dropWhile_cons]
  simp
theorem parL_no {c : Nat} {p : List Nat} (h : c ∉ p) : parL c p = (p, [], []) := by
  have hp : ∀ x ∈ p, decide (x ≠ c) = true := fun x hx => decide_eq_true fun z => h (by rw [← z]; exact hx)
  obtain ⟨e1, e2⟩ := tw_all hp
  unfold parL
  rw [e1, e2, if_neg h]
  rfl
theorem split_at {c : Nat} : ∀ {l : List Nat}, c ∈ l → ∃ p q, c ∉ p ∧ l = p ++ c :: q := by
  intro l
  induction l with
  | nil => intro h; cases h
  | cons x r ih =>
    intro h
    by_cases e : x = c
    · subst e; exact ⟨[], r, by simp, rfl⟩
    · rcases List.mem_cons.mp h with h | h
      · exact absurd h.symm e
      · obtain ⟨p, q, h1, h2⟩ := ih h
        refine ⟨x :: p, q, fun z => ?_, by rw [h2]; rfl⟩
        rcases List.mem_cons.mp z with z | z
        · exact e z.symm
        · exact h1 z
theorem part_S (c : Nat) (l : List Nat) : Txt.partition (Sx l) (Sx [c]) = (Sx (parL c l).1, Sx (parL c l).2.1, Sx (parL c l).2.2) := by
  by_cases h : c ∈ l
  · obtain ⟨p, q, h1, rfl⟩ := split_at h
    rw [parL_yes h1]
    exact SX.partition_some (by simp) (SX.par_head (sep := []) q h1)
  · rw [parL_no h]
    exact SX.partition_none (by simp) (SX.par_head_none h)
end Up

set_option Elab.async false
set_option linter.all false
set_option pp.maxSteps 600
set_option maxRecDepth 100000
set_option maxHeartbeats 4000000
/-! list(text): its signs -/
namespace PySem
open Sem (wp)
section
variable {prog : Program} {w : World} {A : Around} {E : Value → Shared → Prop} {s : Shared} {x : Str} {t : Tok}
theorem Up.hint_str {Q : Bool → Shared → Prop} (hl : x.length ≤ 2 ^ 24) (h : ∀ b k, Q b { s with toks := k }) : wpAny (model prog w) A (Builtin.List.listLengthHint (.str x t)) Q E s := by
  unfold Builtin.List.listLengthHint
  refine wpAny_bind (wpAny_specialOf (typeIs_str s x t) F.slot_str_len.lookup ?_)
  generalize hid : ("str.__len__" : String) = id0
  wp_delta
  rw [show splitId id0 = some ("str", "__len__") from by subst hid; decide +kernel]
  subst hid
  refine wpAny_bind (wpAny_isInstance (T := "str") (b := true) (typeIs_str s x t) (by rw [isSubtype_type]; kernel_rfl) ?_)
  refine wpAny_ite_split (fun hab => absurd hab (by decide)) (fun _ => ?_)
  refine wpAny_ite_split (fun _ => ?_) (fun hab => absurd (by decide +kernel) hab)
  exact wpAny_bind (wpAny_typeOf (typeIs_str s x t) (wpAny_pure (h _ s.toks)))
theorem Up.extend_str {R : Result → Shared → Prop} (hh : A.handled = none) (hl : x.length ≤ 2 ^ 24) (S : Addr) (res : Value) (c₀ : Nat) (hS : s.heap.get? S = some { cls := .type "list", data := .seq #[] c₀ })
    (hR : ∀ h' tk acc' c', (∀ b o, b ≠ S → s.heap.get? b = some o → h'.get? b = some o) → h'.get? S = some { cls := .type "list", dict := none, data := .seq acc' c', slots := #[] } →
      ItemsOf (SignAt x) acc' x.cps.size → R (.ok (.ret res)) { s with heap := h', toks := tk }) :
    wpAny (model prog w) A.in1 (Builtin.List.listExtendWith (.ref S) (.str x t) res)
      (fun fin s' => match fin with | .done f => R (.ok f) s' | .again c' => c'.quiet = true ∧ codeAny (model prog w) A c' R s') (fun e s' => R (.error e) s') s := by
  have hSlt : S < s.heap.objs.size := Heap.lt_size hS
  have hSI : S ≠ s.heap.objs.size := Nat.ne_of_lt hSlt
  have hSf : S ∉ [s.heap.objs.size] := fun hm => hSI (List.mem_singleton.mp hm)
  unfold Builtin.List.listExtendWith
  refine wpAny_bind (wpAny_typeOf (T := "str") (typeIs_str s x t) ?_)
  have h1 : Builtin.List.listSameRef (.ref S) (.str x t) = false := by simp [Builtin.List.listSameRef]
  have h2 : (Value.type "str" == Value.type "list") = false := by decide
  have h3 : (Value.type "str" == Value.type "tuple") = false := by decide
  simp only [h1, h2, h3, Bool.or_false, Bool.false_eq_true, if_false]
  refine wpAny_bind (wpAny_pyIter_str fun o St W0 st0 => ?_)
  have W := (W0 A.in1 hh).toS
  have key : ∀ (h : Heap) (c₁ tk : Nat), St 0 h → (∀ b o, b ≠ S → s.heap.get? b = some o → h.get? b = some o) →
      h.get? S = some { cls := .type "list", data := .seq #[] c₁ } → codeAny (model prog w) A (.builtin "list.extend.loop" ⟨[.ref S, .ref s.heap.objs.size, res], []⟩) R { s with heap := h, toks := tk } := by
    intro h c₁ tk hit hk hS₁
    refine codeAny_extend_loopS W (by rw [sizeLine_eq]; exact Nat.le_trans hl (by decide)) S hSf res x.cps.size 0 _ #[] c₁ rfl (Nat.zero_le _) hit hS₁ (ItemsOf.nil _) fun s' acc' c' hm hS' hacc => ?_
    rw [Moved.eq_with hm]
    refine hR s'.heap s'.toks acc' c' (fun b o hb e => hm.heap b o (fun hmem => ?_) (hk b o hb e)) hS' hacc
    rcases List.mem_cons.mp hmem with e' | hmem
    · exact hb e'
    · exact absurd (Heap.lt_size e) (by rw [List.mem_singleton.mp hmem]; exact Nat.lt_irrefl _)
  refine wpAny_bind (wpAny_holding (Up.hint_str hl fun b k => ?_))
  have hS₁ := Heap.get?_push_of_some o hS
  refine wpAny_ite_split (fun _ => ?_) (fun _ => wpAny_pure ⟨plainId_quiet F.plain_extend_loop _, key _ c₀ _ st0 (fun b o _ e => Heap.get?_push_of_some _ e) hS₁⟩)
  refine wpAny_bind (wpAny_rule ?_)
  refine wpAny_bind ?_
  show wpAny _ _ (updateSeq S (·.push .none) >>= fun _ => updateSeq S (·.pop)) _ _ _
  refine wpAny_bind (wpAny_updateSeq hS₁ rfl ?_)
  have hS₂ := Heap.get?_update_self (Obj.mapSeq (·.push Value.none)) hS₁ rfl
  refine wpAny_updateSeq (hz := by seq_fits) hS₂ rfl ?_
  have hS₃ := Heap.get?_update_self (Obj.mapSeq (·.pop)) hS₂ rfl
  refine wpAny_pure ⟨plainId_quiet F.plain_extend_loop _, key _ _ _ ?_ (fun b o hb e => ?_) hS₃⟩
  · exact (W0 A.in1 hh).frame 0 _ _ st0 fun b hb o e => (Heap.get?_update_other _ _ (by rw [List.mem_singleton.mp hb]; exact hSI)).trans ((Heap.get?_update_other _ _ (by rw [List.mem_singleton.mp hb]; exact hSI)).trans e)
  · exact (Heap.get?_update_other _ _ (Ne.symm hb)).trans ((Heap.get?_update_other _ _ (Ne.symm hb)).trans (Heap.get?_push_of_some _ e))
theorem Up.list_init_str {R : Result → Shared → Prop} (hh : A.handled = none) (hl : x.length ≤ 2 ^ 24) (S : Addr) (hS : s.heap.get? S = some { cls := .type "list", data := .seq #[] })
    (hR : ∀ h' tk acc' c', (∀ b o, b ≠ S → s.heap.get? b = some o → h'.get? b = some o) → h'.get? S = some { cls := .type "list", dict := none, data := .seq acc' c', slots := #[] } →
      ItemsOf (SignAt x) acc' x.cps.size → R (.ok (.ret .none)) { s with heap := h', toks := tk }) :
    wpAny (model prog w) A.in1 (Builtin.«list.__init__» ⟨[.ref S, .str x t], []⟩)
      (fun fin s' => match fin with | .done f => R (.ok f) s' | .again c' => c'.quiet = true ∧ codeAny (model prog w) A c' R s') (fun e s' => R (.error e) s') s := by
  show wpAny _ _ (do let old ← Builtin.List.listItems (.ref S); Builtin.List.listUpdate (.ref S) (fun _ => #[]); letGo old.toList.reverse; Builtin.List.listExtendWith (.ref S) (.str x t) .none) _ _ s
  refine wpAny_bind ?_
  unfold Builtin.List.listItems
  refine wpAny_bind (wpAny_seqItems hS rfl (wpAny_pure ?_))
  show wpAny _ _ (updateSeq S (fun _ => #[]) >>= fun _ => letGo (#[] : Array Value).toList.reverse >>= fun _ => Builtin.List.listExtendWith (.ref S) (.str x t) .none) _ _ s
  refine wpAny_bind (wpAny_updateSeq hS rfl ?_)
  have hS₂ := Heap.get?_update_self (Obj.mapSeq (fun _ => (#[] : Array Value))) hS rfl
  have oth : ∀ b o, b ≠ S → s.heap.get? b = some o → (s.heap.update S (Obj.mapSeq (fun _ => (#[] : Array Value)))).get? b = some o :=
    fun b o hb e => (Heap.get?_update_other _ _ (Ne.symm hb)).trans e
  refine wpAny_bind (wpAny_letGo ?_)
  refine Up.extend_str hh hl S .none _ hS₂ fun h' tk acc' c' hk hS' hacc => ?_
  exact hR h' tk acc' c' (fun b o hb e => hk b o hb (oth b o hb e)) hS' hacc
theorem Up.call_list_strS {Q : Value → Shared → Prop} (hh : A.handled = none) (hl : x.length ≤ 2 ^ 24)
    (hQ : ∀ h' tk acc' c', (∀ b o, s.heap.get? b = some o → h'.get? b = some o) →
      h'.get? s.heap.objs.size = some { cls := .type "list", dict := none, data := .seq acc' c', slots := #[] } → ItemsOf (SignAt x) acc' x.cps.size → Q (.ref s.heap.objs.size) { s with heap := h', toks := tk }) :
    wpAny (model prog w) A (call (.type "list") [.str x t]) Q E s := by
  refine callType_codes (Q₁ := fun obj s₁ => obj = .ref s.heap.objs.size ∧ s₁ = { s with heap := s.heap.push { cls := .type "list", data := .seq #[] } }) F.called_list (F.typeCall_list_1 _) F.entry_list_init
    (code_list_new _ ⟨rfl, rfl⟩) fun obj s₁ h₁ => ?_
  obtain ⟨rfl, rfl⟩ := h₁
  have hS : (s.heap.push { cls := .type "list", data := .seq #[] }).get? s.heap.objs.size = some { cls := .type "list", data := .seq #[] } := Heap.get?_push_size _ rfl
  refine ⟨⟨_, hS, rfl⟩, F.args_list_init_2 _ _, Up.list_init_str (A := A.in1) hh hl _ hS fun h' tk acc' c' hk hS' hacc => ?_⟩
  exact ⟨rfl, hQ h' tk acc' c' (fun b o e => hk b o (Nat.ne_of_lt (Heap.lt_size e)) (Heap.get?_push_of_some _ e)) hS' hacc⟩
end
end PySem
namespace Up
open PySem PySem.Spec PyProof.Rows L2
/-- the signs of a text -/
def sgV (l : List Nat) : List V := l.map fun c => V.str (Sx [c])
theorem call_list_S {X : Cx} (hc : X.calm = true) : CallR X (.type "list") (fun xs H Q => ∃ l, xs = [.str (Sx l)] ∧ l.length ≤ 100000 ∧ ∀ p, H p = none → Q (.ref p) (upd H p (.lst (sgV l)))) := by
  intro pins s σ H xs us Q I r h
  obtain ⟨l, rfl, hl, q⟩ := h
  obtain ⟨u, rfl, t, rfl⟩ := vals1 r
  refine Up.call_list_strS (I.ok.hd hc) (by rw [Sx_len]; exact Nat.le_trans hl (by decide)) fun h' tk acc' c' hk hS' hacc => ?_
  have hs : (Sx l).cps.size = l.length := by simp [Sx, SX.S]
  rw [hs] at hacc
  refine ⟨.ref s.heap.objs.size, upd H s.heap.objs.size (.lst (sgV l)), I.laid hk (Nat.le_refl _) (show ObjOk X.prog X.w _ _ _ (.lst (sgV l)) from ⟨?_, acc'.toList, c', ?_, ?_⟩), rfl, q _ (I.hok.fresh (Nat.le_refl _))⟩
  · unfold sgV
    rw [List.length_map]
    exact Nat.le_trans hl (by decide)
  · have e : acc'.toList.length = l.length := by rw [Array.length_toList]; exact hacc.1
    have : sgV l = (List.range acc'.toList.length).map fun i => V.str (Sx [l.getD i 0]) := by
      unfold sgV
      rw [e]
      apply List.ext_getElem
      · simp
      · intro i h1 h2
        simp [List.getD_eq_getElem?_getD]
        rw [List.getElem?_eq_getElem (by simpa using h1)]
        rfl
    rw [this]
    refine vals_of_get acc'.toList _ fun j u hj => ?_
    obtain ⟨c, t', ec, rfl⟩ := hacc.2 j u (by rw [← hj, Array.getElem?_toList])
    refine ⟨t', ?_⟩
    have ec : l[j]? = some c := by simpa [Sx, SX.S] using ec
    rw [List.getD_eq_getElem?_getD, ec]
    rfl
  · rw [Array.toArray_toList]; exact hS'
end Up

set_option Elab.async false
set_option linter.all false
set_option maxRecDepth 100000
set_option maxHeartbeats 4000000
namespace Up
open PySem PySem.Spec PyProof.Rows L2
/-! ### the source of draws: a list of three ints that each draw changes -/
def Well (H : Hp) (w : Addr) : Prop := ∃ a b c : Int, H w = some (.lst [.int a, .int b, .int c]) ∧ 0 ≤ a ∧ 0 ≤ b ∧ b < 2147483647 ∧ 0 ≤ c
/-- all but the list at w stands -/
def Stp (w : Addr) (H H' : Hp) : Prop := ∀ b o, b ≠ w → H b = some o → H' b = some o
theorem Stp.refl (w : Addr) (H : Hp) : Stp w H H := fun _ _ _ h => h
theorem Stp.trans {w : Addr} {H H1 H2 : Hp} (a : Stp w H H1) (b : Stp w H1 H2) : Stp w H H2 := fun c o n h => b c o n (a c o n h)
theorem Stp.of {w : Addr} {H H' : Hp} (s : Same H H') : Stp w H H' := fun b o _ h => s b o h
theorem Well.same {w : Addr} {H H' : Hp} (h : Well H w) (s : Same H H') : Well H' w := by
  obtain ⟨a, b, c, h, r⟩ := h
  exact ⟨a, b, c, s _ _ h, r⟩
theorem Well.ne_none {w p : Addr} {H : Hp} (h : Well H w) (n : H p = none) : p ≠ w := by
  obtain ⟨a, b, c, h, _⟩ := h
  exact fun z => by rw [z, h] at n; cases n
/-- a place that holds no list -/
theorem Well.ne {w p : Addr} {H : Hp} {o : HO} (h : Well H w) (e : H p = some o) (n : ∀ xs, o ≠ .lst xs) : p ≠ w := by
  obtain ⟨a, b, c, h, _⟩ := h
  exact fun z => by
    rw [z, h] at e
    exact n _ (Option.some.inj e).symm
theorem Stp.ins {w p C dx : Addr} {H H' : Hp} {fs : List (Str × V)} (s : Stp w H H') (h : Well H w) (e : H p = some (.ins C dx fs)) : H' p = some (.ins C dx fs) := s _ _ (h.ne e fun _ z => by cases z) e
theorem Stp.free {w p : Addr} {H H' : Hp} (s : Stp w H H') (h : Well H' w) (e : H' p = none) : H p = none := by
  cases q : H p with
  | none => rfl
  | some o =>
    have n : p ≠ w := h.ne_none e
    rw [s p o n q] at e
    cases e
end Up

set_option Elab.async false
set_option linter.all false
set_option maxRecDepth 100000
set_option maxHeartbeats 4000000
set_option exponentiation.threshold 200000
namespace Up
open PySem PySem.Spec PyProof.Rows L2
local macro_rules | `(tactic| walk_at "u") => `(tactic| first
  | with_reducible refine g_seq ?_
  | with_reducible refine g_asg ?_
  | with_reducible refine g_op ?_
  | ((with_reducible show tVar _ _ _ _); apply g_var; exact rfl)
  | with_reducible refine g_c ?_
  | with_reducible refine g_name ?_
  | with_reducible refine g_ifs ?_
  | with_reducible refine g_tt ?_
  | with_reducible refine g_tB ?_
  | with_reducible refine g_bl ?_
  | with_reducible refine g_ret ?_
  | with_reducible refine g_cb ?_
  | with_reducible refine g_cons ?_
  | with_reducible refine g_nil ?_
  | with_reducible refine g_call ?_
  | with_reducible refine g_and ?_
  | with_reducible refine g_or ?_
  | with_reducible refine g_not ?_
  | with_reducible refine g_andV ?_
  | with_reducible refine g_orV ?_
  | with_reducible refine g_notV ?_
  | with_reducible refine g_if ?_
  | with_reducible refine g_un ?_
  | with_reducible refine g_neg ?_
  | with_reducible refine g_addI ?_
  | with_reducible refine g_subI ?_
  | with_reducible refine g_subB ?_
  | with_reducible refine g_I0 ?_
  | with_reducible refine g_cmpI ?_
  | with_reducible refine g_eqI ?_
  | with_reducible refine g_neI ?_
  | with_reducible refine g_eqS ?_
  | with_reducible refine g_neS ?_
  | with_reducible refine g_eqB ?_
  | with_reducible refine g_neB ?_
  | with_reducible refine g_bits ?_
  | with_reducible refine g_bitsI ?_
  | with_reducible refine g_fld ?_
  | with_reducible refine g_tup ?_
  | with_reducible refine g_lst ?_
  | with_reducible refine g_gtup ?_
  | with_reducible refine g_make ?_
  | with_reducible refine g_lc ?_
  | with_reducible refine g_yesT ?_
  | with_reducible refine g_intI ?_
  | with_reducible refine g_intB ?_
  | with_reducible refine g_max2 ?_
  | with_reducible refine g_abs1 ?_
  | with_reducible refine g_for ?_
  | with_reducible refine g_iList ?_
  | with_reducible refine g_iTup ?_
  | with_reducible refine g_iRng1 ?_
  | with_reducible refine g_iEnum ?_
  | with_reducible refine g_slice ?_
  | with_reducible refine g_po0 ?_
  | with_reducible refine g_po1 ?_
  | with_reducible refine g_gsub ?_
  | with_reducible refine g_par ?_
  | with_reducible refine g_par2 ?_
  | with_reducible refine g_rfl ?_
  | with_reducible refine g_meth ?_
  | with_reducible refine g_gcons ?_
  | with_reducible refine g_gnil ?_
  | with_reducible refine g_gfld ?_
  | with_reducible refine g_sfld ?_
  | with_reducible refine g_drop ?_
  | with_reducible refine g_next ?_
  | with_reducible refine iteT ?_
  | with_reducible refine iteF ?_)
local macro_rules | `(tactic| walk_at "go") => `(tactic| (repeat walk_at "u"))

section
variable {P : Program} {w : World} {K : PySem.W.Frag} {mg : Str → Option Value} {base : Heap} {C : Addr}
/-! _law_well -/
theorem sc_Lwell : FnScope ["_law_cell"] ["_law_cell"] (defScope s_Lwell) := ⟨rfl, rfl, rfl, by decide +kernel, rfl, by decide +kernel, by decide +kernel⟩
def sp_Lwell : Sp := fun vs H Q _ => ∃ n, vs = [.int n] ∧ ∀ a H', H a = none → Same H H' → Well H' a → Q (.ref a) H'
theorem fmod_lt {x m : Int} (h : 0 < m) : 0 ≤ x.fmod m ∧ x.fmod m < m := by
  rw [Int.fmod_eq_emod_of_nonneg _ (by omega)]
  exact ⟨Int.emod_nonneg _ (by omega), Int.emod_lt_of_pos _ h⟩
theorem fdiv_nn {x m : Int} (hx : 0 ≤ x) (h : 0 < m) : 0 ≤ x.fdiv m := by
  rw [Int.fdiv_eq_ediv_of_nonneg _ (by omega)]
  exact Int.ediv_nonneg hx (by omega)
theorem ok_Lwell {f : Addr} {fd : FuncData} (F : FunD K "_law_well" "_law_well" (defArgs s_Lwell) (defBody s_Lwell) (defScope s_Lwell) [] [] f fd) (B : Blt mg) : FnOk P w K mg base CX0 1 f fd ["_law_cell"] sp_Lwell := by
  refine F.ok sc_Lwell (fun vs H Q E h => ?_) (fun cdv A outer s H vs Q E hr h => ?_)
  · obtain ⟨n, rfl, _⟩ := h; rfl
  · obtain ⟨n, rfl, q⟩ := h
    refine ⟨_, PSs.nox (pss_one (ps_ret (pe_lstN (pa_cons (pe_op op_oMul (pv 0) (pe_callTy call_int1 (by rfl) B.int (by decide +kernel) (pa_cons (pe_cmpR op_oGe (pv 0) (pe_op op_oPow pe_int pe_int) (nomark _)) pa_nil))) (pa_cons (pe_op op_oMod (pe_callTy call_int1 (by rfl) B.int (by decide +kernel) (pa_cons (pv 0) pa_nil)) pe_int) (pa_cons pe_int pa_nil)))))), ?_⟩
    walk_at "go"
    refine g_II ⟨by decide, by decide, by decide⟩ ?_
    walk_at "go"
    refine g_mulI (.of_right (by by_cases h : ((10 : Int) ^ (18 : Int).toNat ≤ n) <;> simp only [h, decide_true, decide_false] <;> decide)) ?_
    walk_at "go"
    refine g_modI (by decide) ?_
    walk_at "go"
    refine g_new (sz rfl) fun a H1 na s1 ha _ => ?_
    refine q a H1 na s1 ⟨_, _, _, ha, ?_, (fmod_lt (by decide)).1, (fmod_lt (by decide)).2, by decide⟩
    by_cases h : ((10 : Int) ^ (18 : Int).toNat ≤ n)
    · simp only [h, decide_true, if_true]
      have : (0 : Int) ≤ 10 ^ (18 : Int).toNat := by decide
      omega
    · rw [if_neg (by simpa using h), Int.mul_zero]
      decide
/-! _law_draw -/
theorem sc_Ldraw : FnScope ["_law_well_here", "_law_many", "_law_digit", "_law_number"] ["_law_well_here", "_law_many"] (defScope s_Ldraw) := ⟨rfl, rfl, rfl, by decide +kernel, rfl, by decide +kernel, by decide +kernel⟩
def sp_Ldraw : Sp := fun vs H Q _ => ∃ (a : Addr) (m : Int), vs = [.ref a, .int m] ∧ 0 < m ∧ m < 2 ^ 62 ∧ Well H a ∧ ∀ k H', 0 ≤ k → k < m → Stp a H H' → Well H' a → Q (.int k) H'
theorem small_div {m : Int} (h : 0 < m) (h2 : m < 2 ^ 62) : m.natAbs.log2 < 9000 := Nat.lt_trans (log2_lt (k := 62) (by omega) (by decide)) (by decide)
theorem sm31 {x : Int} (h0 : 0 ≤ x) (h1 : x < 2147483648) (y : Int) : IntMulOk x y := .of_left (intBits_le_64 (by omega) (by omega))
theorem sm31r {x : Int} (h0 : 0 ≤ x) (h1 : x < 2147483648) (y : Int) : IntMulOk y x := .of_right (intBits_le_64 (by omega) (by omega))
theorem ok_Ldraw {f : Addr} {fd : FuncData} (F : FunD K "_law_draw" "_law_draw" (defArgs s_Ldraw) (defBody s_Ldraw) (defScope s_Ldraw) [] [] f fd) (B : Blt mg) : FnOk P w K mg base CX0 1 f fd ["_law_well_here", "_law_many"] sp_Ldraw := by
  refine F.ok sc_Ldraw (fun vs H Q E h => ?_) (fun cdv A outer s H vs Q E hr h => ?_)
  · obtain ⟨a, m, rfl, _⟩ := h; rfl
  · obtain ⟨a, m, rfl, m0, m1, ⟨x, y, z, hw, x0, y0, y1, z0⟩, q⟩ := h
    refine ⟨_, PSs.nox (pss_cons (ps_if (pt_cmpR op_oGt (pe_ix ix_seq (pv 0) pe_int (fun _ _ => rfl)) pe_int (nomark _)) (pss_cons (ps_set (i := 2) sc_Ldraw.nd rfl (Or.inl rfl) (pe_op op_oMod (pe_callTy call_int1 (by rfl) B.int (by decide +kernel) (pa_cons (pe_ix ix_seq (pv 0) pe_int (fun _ _ => rfl)) pa_nil)) (pv 1)))
  (pss_cons (ps_asg (pe_op op_oDiv (pe_ix ix_seq (pv 0) pe_int (fun _ _ => rfl)) (pv 1)) (pg_sub (pv 0) pe_int set_list))
  (pss_one (ps_ret (pv 2))))) pss_nil)
  (pss_cons (ps_asg (pe_op op_oAdd (pe_ix ix_seq (pv 0) pe_int (fun _ _ => rfl)) pe_int) (pg_sub (pv 0) pe_int set_list))
  (pss_cons (ps_set (i := 3) sc_Ldraw.nd rfl (Or.inl rfl) (pe_op op_oMod (pe_callTy call_int1 (by rfl) B.int (by decide +kernel) (pa_cons (pe_op op_oAdd (pe_op op_oAdd (pe_op op_oMul (pe_ix ix_seq (pv 0) pe_int (fun _ _ => rfl)) pe_int) (pe_op op_oMul pe_int (pe_ix ix_seq (pv 0) pe_int (fun _ _ => rfl)))) pe_int) pa_nil)) pe_int))
  (pss_cons (ps_set (i := 3) sc_Ldraw.nd rfl (Or.inl rfl) (pe_op op_oMod (pe_callTy call_int1 (by rfl) B.int (by decide +kernel) (pa_cons (pe_op op_oMul (pv 3) (pe_op op_oAdd (pe_op op_oDiv (pv 3) pe_int) pe_int)) pa_nil)) pe_int))
  (pss_cons (ps_set (i := 3) sc_Ldraw.nd rfl (Or.inl rfl) (pe_op op_oMod (pe_callTy call_int1 (by rfl) B.int (by decide +kernel) (pa_cons (pe_op op_oMul (pv 3) (pe_op op_oAdd (pe_op op_oAdd (pe_op op_oDiv (pv 3) pe_int) pe_int) (pe_ix ix_seq (pv 0) pe_int (fun _ _ => rfl)))) pa_nil)) pe_int))
  (pss_one (ps_ret (pe_op op_oMod (pe_callTy call_int1 (by rfl) B.int (by decide +kernel) (pa_cons (pe_op op_oDiv (pv 3) pe_int) pa_nil)) (pv 1))))))))), ?_⟩
    walk_at "go"
    refine g_ixL hw rfl ?_
    walk_at "go"
    refine g_ite (fun hx => ?_) fun hx => ?_
    · walk_at "go"
      refine g_ixL hw rfl ?_
      walk_at "go"
      refine g_modI (by omega) ?_
      walk_at "go"
      refine g_ixL hw rfl ?_
      walk_at "go"
      refine g_divI (by omega) (small_div m0 m1) ?_
      walk_at "go"
      refine g_setL hw rfl fun H1 h1 k1 => ?_
      walk_at "go"
      exact q _ H1 (fmod_lt m0).1 (fmod_lt m0).2 (fun b o n e => (k1 b n).trans e) ⟨_, _, _, h1, fdiv_nn x0 m0, y0, y1, z0⟩
    · walk_at "go"
      refine g_ixL hw rfl ?_
      walk_at "go"
      refine g_setL hw rfl fun H1 h1 k1 => ?_
      walk_at "go"
      refine g_ixL h1 rfl ?_
      walk_at "go"
      refine g_mulI (.of_right (by decide)) ?_
      walk_at "go"
      refine g_ixL h1 rfl ?_
      refine g_mulI (.of_left (by decide)) ?_
      walk_at "go"
      refine g_modI (by decide) ?_
      walk_at "go"
      have b1 := fmod_lt (x := y * 48271 + 30103 * (z + 1) + 11) (m := 2147483647) (by decide)
      refine g_divI (by decide) (by decide) ?_
      walk_at "go"
      refine g_mulI (sm31 b1.1 (by omega) _) ?_
      walk_at "go"
      refine g_modI (by decide) ?_
      walk_at "go"
      generalize (y * 48271 + 30103 * (z + 1) + 11).fmod 2147483647 = u1 at *
      have b2 := fmod_lt (x := u1 * (u1.fdiv 1009 + 69621)) (m := 2147483629) (by decide)
      refine g_divI (by decide) (by decide) ?_
      walk_at "go"
      refine g_ixL h1 rfl ?_
      walk_at "go"
      refine g_mulI (sm31 b2.1 (by omega) _) ?_
      walk_at "go"
      refine g_modI (by decide) ?_
      walk_at "go"
      refine g_divI (by decide) (by decide) ?_
      walk_at "go"
      refine g_modI (by omega) ?_
      exact q _ H1 (fmod_lt m0).1 (fmod_lt m0).2 (fun b o n e => (k1 b n).trans e) ⟨_, _, _, h1, x0, y0, y1, by omega⟩
/-! _law_one -/
theorem sc_Lone : FnScope ["_law_well_here", "_law_some"] ["_law_well_here", "_law_some"] (defScope s_Lone) := ⟨rfl, rfl, rfl, by decide +kernel, rfl, by decide +kernel, by decide +kernel⟩
def sp_Lone : Sp := fun vs H Q _ => ∃ (a l : Addr) (xs : List V), vs = [.ref a, .ref l] ∧ Well H a ∧ H l = some (.lst xs) ∧ l ≠ a ∧ 0 < xs.length ∧ xs.length < 1000 ∧ ∀ v H', v ∈ xs → Stp a H H' → Well H' a → Q v H'
theorem ok_Lone {f : Addr} {fd : FuncData} (F : FunD K "_law_one" "_law_one" (defArgs s_Lone) (defBody s_Lone) (defScope s_Lone) [] [] f fd) (B : Blt mg) (c_Ldraw : Fn P w K mg base CX0 1 "_law_draw" ["_law_well_here", "_law_many"] [] sp_Ldraw) : FnOk P w K mg base CX0 2 f fd ["_law_well_here", "_law_some"] sp_Lone := by
  refine F.ok sc_Lone (fun vs H Q E h => ?_) (fun cdv A outer s H vs Q E hr h => ?_)
  · obtain ⟨a, l, xs, rfl, _⟩ := h; rfl
  · obtain ⟨a, l, xs, rfl, hw, hl, ne, x0, x1, q⟩ := h
    refine ⟨_, PSs.nox (pss_one (ps_ret (pe_ix ix_seq (pv 1) (pe_fn c_Ldraw (hr.mono (by first | decide | omega)) pass0 (pa_cons (pv 0) (pa_cons (pe_callB call_len_seq (by rfl) B.len (by decide +kernel) (pa_cons (pv 1) pa_nil)) pa_nil))) (fun _ _ => rfl)))), ?_⟩
    walk_at "go"
    refine g_lenL hl ?_
    walk_at "go"
    refine ⟨a, _, rfl, by omega, by omega, hw, fun k H1 k0 k1 s1 hw1 => ?_⟩
    have hi : k.toNat < xs.length := by omega
    refine g_ixL (s1 _ _ ne hl) (v := xs[k.toNat]) ?_ (q _ _ (List.getElem_mem hi) s1 hw1)
    have e : ixN xs.length k = some k.toNat := by unfold ixN; rw [if_pos k0, if_pos k1]
    unfold atI
    rw [e]
    simp [hi]
/-! _law_great -/
theorem sc_Lgreat : FnScope ["_law_well_here", "_law_bits", "_law_number", "_law_k"] ["_law_well_here", "_law_bits"] (defScope s_Lgreat) := ⟨rfl, rfl, rfl, by decide +kernel, rfl, by decide +kernel, by decide +kernel⟩
def sp_Lgreat : Sp := fun vs H Q _ => ∃ (a : Addr) (m : Int), vs = [.ref a, .int m] ∧ 0 ≤ m ∧ m ≤ 1000 ∧ Well H a ∧ ∀ k H', 0 ≤ k → k < 2 ^ m.toNat → Stp a H H' → Well H' a → Q (.int k) H'
theorem ok_Lgreat {f : Addr} {fd : FuncData} (F : FunD K "_law_great" "_law_great" (defArgs s_Lgreat) (defBody s_Lgreat) (defScope s_Lgreat) [] [] f fd) (B : Blt mg) (c_Ldraw : Fn P w K mg base CX0 1 "_law_draw" ["_law_well_here", "_law_many"] [] sp_Ldraw) : FnOk P w K mg base CX0 2 f fd ["_law_well_here", "_law_bits"] sp_Lgreat := by
  refine F.ok sc_Lgreat (fun vs H Q E h => ?_) (fun cdv A outer s H vs Q E hr h => ?_)
  · obtain ⟨a, m, rfl, _⟩ := h; rfl
  · obtain ⟨a, m, rfl, m0, m1, hw, q⟩ := h
    refine ⟨_, PSs.nox (pss_cons (ps_set (i := 2) sc_Lgreat.nd rfl (Or.inl rfl) pe_int)
  (pss_cons (ps_for PassesOwn.never rfl (pi_range1 (by rfl) B.range (pa_cons (pe_op op_oAdd pe_int (pe_op op_oDiv (pv 1) pe_int)) pa_nil)) (pg_name (i := 3) sc_Lgreat.nd rfl (Or.inl rfl))
    (pss_one (ps_set (i := 2) sc_Lgreat.nd rfl (Or.inl rfl) (pe_op op_oAdd (pe_op op_oMul (pv 2) pe_int) (pe_fn c_Ldraw (hr.mono (by first | decide | omega)) pass0 (pa_cons (pv 0) (pa_cons pe_int pa_nil)))))))
  (pss_one (ps_ret (pe_op op_oMod (pe_callTy call_int1 (by rfl) B.int (by decide +kernel) (pa_cons (pv 2) pa_nil)) (pe_op op_oShl pe_int (pv 1))))))), ?_⟩
    walk_at "go"
    refine g_divI (by decide) (by decide) ?_
    walk_at "go"
    have e0 : m.fdiv 20 = m / 20 := Int.fdiv_eq_ediv_of_nonneg _ (by decide)
    refine ⟨by omega, by omega, ?_⟩
    refine for_range (fun i σ' H' => ∃ (n : Int) (v : Option V), σ' = [some (.ref a), some (.int m), some (.int n), v] ∧ Stp a H H' ∧ Well H' a) ⟨0, none, rfl, Stp.refl _ _, hw⟩ ?_ ?_
    · rintro i _ H1 hi ⟨n, v, rfl, s1, hw1⟩
      walk_at "go"
      refine g_mulI (.of_right (by decide)) ?_
      walk_at "go"
      refine ⟨a, _, rfl, by decide, by decide, hw1, fun k H2 k0 k1 s2 hw2 => ?_⟩
      walk_at "go"
      exact ⟨_, _, rfl, s1.trans s2, hw2⟩
    · rintro _ H1 ⟨n, v, rfl, s1, hw1⟩
      walk_at "go"
      refine g_II (shl_small m0 (by omega) (lt_pow_mono (a := 1) (by decide) (by decide))) ?_
      rw [Int.one_mul]
      have hp : (0 : Int) < 2 ^ m.toNat := Int.pow_pos (by decide)
      refine g_modI (by omega) ?_
      exact q _ H1 (fmod_lt hp).1 (fmod_lt hp).2 s1 hw1
end
end Up

set_option Elab.async false
set_option linter.all false
set_option maxRecDepth 100000
set_option maxHeartbeats 4000000
set_option exponentiation.threshold 200000
namespace Up
open PySem PySem.Spec PyProof.Rows L2
local macro_rules | `(tactic| walk_at "u") => `(tactic| first
  | with_reducible refine g_seq ?_
  | with_reducible refine g_asg ?_
  | with_reducible refine g_op ?_
  | ((with_reducible show tVar _ _ _ _); apply g_var; exact rfl)
  | with_reducible refine g_c ?_
  | with_reducible refine g_name ?_
  | with_reducible refine g_ifs ?_
  | with_reducible refine g_tt ?_
  | with_reducible refine g_tB ?_
  | with_reducible refine g_bl ?_
  | with_reducible refine g_ret ?_
  | with_reducible refine g_cb ?_
  | with_reducible refine g_cons ?_
  | with_reducible refine g_nil ?_
  | with_reducible refine g_call ?_
  | with_reducible refine g_and ?_
  | with_reducible refine g_or ?_
  | with_reducible refine g_not ?_
  | with_reducible refine g_andV ?_
  | with_reducible refine g_orV ?_
  | with_reducible refine g_notV ?_
  | with_reducible refine g_if ?_
  | with_reducible refine g_un ?_
  | with_reducible refine g_neg ?_
  | with_reducible refine g_addI ?_
  | with_reducible refine g_subI ?_
  | with_reducible refine g_subB ?_
  | with_reducible refine g_I0 ?_
  | with_reducible refine g_cmpI ?_
  | with_reducible refine g_eqI ?_
  | with_reducible refine g_neI ?_
  | with_reducible refine g_eqS ?_
  | with_reducible refine g_neS ?_
  | with_reducible refine g_eqB ?_
  | with_reducible refine g_neB ?_
  | with_reducible refine g_bits ?_
  | with_reducible refine g_bitsI ?_
  | with_reducible refine g_fld ?_
  | with_reducible refine g_tup ?_
  | with_reducible refine g_lst ?_
  | with_reducible refine g_gtup ?_
  | with_reducible refine g_make ?_
  | with_reducible refine g_lc ?_
  | with_reducible refine g_yesT ?_
  | with_reducible refine g_intI ?_
  | with_reducible refine g_intB ?_
  | with_reducible refine g_max2 ?_
  | with_reducible refine g_abs1 ?_
  | with_reducible refine g_for ?_
  | with_reducible refine g_iList ?_
  | with_reducible refine g_iTup ?_
  | with_reducible refine g_iRng1 ?_
  | with_reducible refine g_iEnum ?_
  | with_reducible refine g_slice ?_
  | with_reducible refine g_po0 ?_
  | with_reducible refine g_po1 ?_
  | with_reducible refine g_gsub ?_
  | with_reducible refine g_par ?_
  | with_reducible refine g_par2 ?_
  | with_reducible refine g_rfl ?_
  | with_reducible refine g_meth ?_
  | with_reducible refine g_gcons ?_
  | with_reducible refine g_gnil ?_
  | with_reducible refine g_gfld ?_
  | with_reducible refine g_sfld ?_
  | with_reducible refine g_drop ?_
  | with_reducible refine g_next ?_
  | with_reducible refine iteT ?_
  | with_reducible refine iteF ?_)
local macro_rules | `(tactic| walk_at "go") => `(tactic| (repeat walk_at "u"))

section
variable {P : Program} {w : World} {K : PySem.W.Frag} {mg : Str → Option Value} {base : Heap} {C : Addr}
/-! _law_finite -/
theorem sc_Lfinite : FnScope ["_law_well_here", "_law_sign", "_law_way", "_law_some"] ["_law_well_here"] (defScope s_Lfinite) := ⟨rfl, rfl, rfl, by decide +kernel, rfl, by decide +kernel, by decide +kernel⟩
def FinD (s t p : Int) : Prop := (s = 1 ∨ s = -1) ∧ 0 ≤ t ∧ t < 2 ^ 53 ∧ -1074 ≤ p ∧ p ≤ 971
def sp_Lfinite : Sp := fun vs H Q _ => ∃ (a : Addr), vs = [.ref a] ∧ Well H a ∧ ∀ b H' s t p, H b = none → Stp a H H' → Well H' a → H' b = some (.tup [.int s, .int t, .int p]) → FinD s t p → Q (.ref b) H'
theorem pow53 {k : Int} {n : Nat} (h : k < 2 ^ n) (hn : n ≤ 53) : k < 2 ^ 53 := by
  have : (2 : Int) ^ n ≤ 2 ^ 53 := by exact_mod_cast Nat.pow_le_pow_right (show 0 < 2 by decide) hn
  omega
theorem ok_Lfinite {f : Addr} {fd : FuncData} (F : FunD K "_law_finite" "_law_finite" (defArgs s_Lfinite) (defBody s_Lfinite) (defScope s_Lfinite) [] [] f fd) (B : Blt mg) (c_Ldraw : Fn P w K mg base CX0 1 "_law_draw" ["_law_well_here", "_law_many"] [] sp_Ldraw) (c_Lone : Fn P w K mg base CX0 2 "_law_one" ["_law_well_here", "_law_some"] [] sp_Lone)
    (c_Lgreat : Fn P w K mg base CX0 2 "_law_great" ["_law_well_here", "_law_bits"] [] sp_Lgreat) : FnOk P w K mg base CX0 3 f fd ["_law_well_here"] sp_Lfinite := by
  refine F.ok sc_Lfinite (fun vs H Q E h => ?_) (fun cdv A outer s H vs Q E hr h => ?_)
  · obtain ⟨a, rfl, _⟩ := h; rfl
  · obtain ⟨a, rfl, hw, q⟩ := h
    refine ⟨_, PSs.nox (pss_cons (ps_par (i := 1) (j := 2) rfl sc_Lfinite.nd rfl rfl (by decide) rfl rfl (pa_cons (pe_fn c_Lone (hr.mono (by first | decide | omega)) pass0 (pa_cons (pv 0) (pa_cons (pe_lstN (pa_cons pe_int (pa_cons (pe_un un_neg pe_int) pa_nil))) pa_nil))) (pa_cons (pe_fn c_Ldraw (hr.mono (by first | decide | omega)) pass0 (pa_cons (pv 0) (pa_cons pe_int pa_nil))) pa_nil)) (by rfl))
  (pss_cons (ps_if (pt_cmpR (op_oEq hr.units) (pv 2) pe_int (nomark _)) (pss_one (ps_ret (pe_tupN (pa_cons (pv 1) (pa_cons pe_int (pa_cons pe_int pa_nil)))))) pss_nil)
  (pss_cons (ps_if (pt_cmpR op_oLt (pv 2) pe_int (nomark _)) (pss_one (ps_ret (pe_tupN (pa_cons (pv 1) (pa_cons (pe_fn c_Ldraw (hr.mono (by first | decide | omega)) pass0 (pa_cons (pv 0) (pa_cons pe_int pa_nil))) (pa_cons (pe_fn c_Lone (hr.mono (by first | decide | omega)) pass0 (pa_cons (pv 0) (pa_cons (pe_lstN (pa_cons pe_int (pa_cons pe_int (pa_cons (pe_un un_neg pe_int) (pa_cons (pe_un un_neg pe_int) pa_nil))))) pa_nil))) pa_nil)))))) pss_nil)
  (pss_cons (ps_set (i := 3) sc_Lfinite.nd rfl (Or.inl rfl) (pe_lstN (pa_cons (pe_op op_oSub (pe_fn c_Ldraw (hr.mono (by first | decide | omega)) pass0 (pa_cons (pv 0) (pa_cons pe_int pa_nil))) pe_int) (pa_cons (pe_op op_oSub pe_int (pe_fn c_Ldraw (hr.mono (by first | decide | omega)) pass0 (pa_cons (pv 0) (pa_cons pe_int pa_nil)))) (pa_cons (pe_fn c_Ldraw (hr.mono (by first | decide | omega)) pass0 (pa_cons (pv 0) (pa_cons pe_int pa_nil))) (pa_cons (pe_op op_oSub pe_int (pe_fn c_Ldraw (hr.mono (by first | decide | omega)) pass0 (pa_cons (pv 0) (pa_cons pe_int pa_nil)))) pa_nil))))))
  (pss_cons (ps_set (i := 3) sc_Lfinite.nd rfl (Or.inl rfl) (pe_op op_oAdd (pv 3) (pe_lstN (pa_cons (pe_op op_oSub (pe_un un_neg pe_int) (pe_fn c_Ldraw (hr.mono (by first | decide | omega)) pass0 (pa_cons (pv 0) (pa_cons pe_int pa_nil)))) (pa_cons (pe_op op_oSub (pe_fn c_Ldraw (hr.mono (by first | decide | omega)) pass0 (pa_cons (pv 0) (pa_cons pe_int pa_nil))) pe_int) pa_nil)))))
  (pss_one (ps_ret (pe_tupN (pa_cons (pv 1) (pa_cons (pe_fn c_Lgreat (hr.mono (by first | decide | omega)) pass0 (pa_cons (pv 0) (pa_cons (pe_fn c_Lone (hr.mono (by first | decide | omega)) pass0 (pa_cons (pv 0) (pa_cons (pe_lstN (pa_cons pe_int (pa_cons pe_int (pa_cons pe_int (pa_cons pe_int pa_nil))))) pa_nil))) pa_nil))) (pa_cons (pe_callB (call_min2 rfl) (by rfl) B.min (by decide +kernel) (pa_cons pe_int (pa_cons (pe_fn c_Lone (hr.mono (by first | decide | omega)) pass0 (pa_cons (pv 0) (pa_cons (pv 3) pa_nil))) pa_nil))) pa_nil))))))))))), ?_⟩
    walk_at "go"
    refine g_new (sz rfl) fun l1 H1 n1 s1 h1 _ => ?_
    refine ⟨a, l1, _, rfl, hw.same s1, h1, hw.ne_none n1, by decide, by decide, fun v H2 hv s2 hw2 => ?_⟩
    have S2 := (Stp.of (w := a) s1).trans s2
    obtain ⟨sg, rfl, hs⟩ : ∃ sg, v = .int sg ∧ (sg = 1 ∨ sg = -1) := by
      simp only [List.mem_cons, List.not_mem_nil, or_false] at hv
      rcases hv with rfl | rfl
      · exact ⟨_, rfl, .inl rfl⟩
      · exact ⟨_, rfl, .inr rfl⟩
    walk_at "go"
    refine ⟨a, _, rfl, by decide, by decide, hw2, fun k H3 k0 k1 s3 hw3 => ?_⟩
    have S3 := S2.trans s3
    walk_at "go"
    refine g_ite (fun hk => ?_) fun hk => ?_
    · walk_at "go"
      refine g_new (sz rfl) fun b H4 n4 s4 h4 _ => ?_
      exact q b H4 _ _ _ (S3.free hw3 n4) (S3.trans (Stp.of s4)) (hw3.same s4) h4 ⟨hs, by decide, by decide, by decide, by decide⟩
    · walk_at "go"
      refine g_ite (fun hk4 => ?_) fun hk4 => ?_
      · walk_at "go"
        refine ⟨a, _, rfl, by decide, by decide, hw3, fun t H4 t0 t1 s4 hw4 => ?_⟩
        have S4 := S3.trans s4
        walk_at "go"
        refine g_new (sz rfl) fun l5 H5 n5 s5 h5 _ => ?_
        refine ⟨a, l5, _, rfl, hw4.same s5, h5, hw4.ne_none n5, by decide, by decide, fun v H6 hv s6 hw6 => ?_⟩
        have S6 := (S4.trans (Stp.of s5)).trans s6
        obtain ⟨p, rfl, hp⟩ : ∃ p, v = .int p ∧ -1074 ≤ p ∧ p ≤ 971 := by
          simp only [List.mem_cons, List.not_mem_nil, or_false] at hv
          rcases hv with rfl | rfl | rfl | rfl <;> exact ⟨_, rfl, by decide, by decide⟩
        walk_at "go"
        refine g_new (sz rfl) fun b H7 n7 s7 h7 _ => ?_
        exact q b H7 _ _ _ (S6.free hw6 n7) (S6.trans (Stp.of s7)) (hw6.same s7) h7 ⟨hs, t0, by omega, hp.1, hp.2⟩
      · walk_at "go"
        refine ⟨a, _, rfl, by decide, by decide, hw3, fun d1 H4 a1 b1 s4 hw4 => ?_⟩
        walk_at "go"
        refine ⟨a, _, rfl, by decide, by decide, hw4, fun d2 H5 a2 b2 s5 hw5 => ?_⟩
        walk_at "go"
        refine ⟨a, _, rfl, by decide, by decide, hw5, fun d3 H6 a3 b3 s6 hw6 => ?_⟩
        walk_at "go"
        refine ⟨a, _, rfl, by decide, by decide, hw6, fun d4 H7 a4 b4 s7 hw7 => ?_⟩
        have S7 := (((S3.trans s4).trans s5).trans s6).trans s7
        walk_at "go"
        refine g_new (sz rfl) fun l8 H8 n8 s8 h8 _ => ?_
        have S8 := S7.trans (Stp.of s8)
        have hw8 := hw7.same s8
        have l8a := hw7.ne_none n8
        walk_at "go"
        refine ⟨a, _, rfl, by decide, by decide, hw8, fun d5 H9 a5 b5 s9 hw9 => ?_⟩
        walk_at "go"
        refine ⟨a, _, rfl, by decide, by decide, hw9, fun d6 H10 a6 b6 s10 hw10 => ?_⟩
        have S10 := (S8.trans s9).trans s10
        have h8b := s10 _ _ l8a (s9 _ _ l8a h8)
        walk_at "go"
        refine g_new (sz rfl) fun l11 H11 n11 s11 h11 _ => ?_
        refine .inl ⟨l8, l11, _, _, rfl, rfl, SqL.of (s11 _ _ h8b), SqL.of h11, sz rfl, fun l12 H12 n12 s12 h12 _ => ?_⟩
        have S12 := (S10.trans (Stp.of s11)).trans (Stp.of s12)
        have hw12 := (hw10.same s11).same s12
        have l12a := (hw10.same s11).ne_none n12
        walk_at "go"
        refine g_new (sz rfl) fun l13 H13 n13 s13 h13 _ => ?_
        refine ⟨a, l13, _, rfl, hw12.same s13, h13, hw12.ne_none n13, by decide, by decide, fun v H14 hv s14 hw14 => ?_⟩
        have S14 := (S12.trans (Stp.of s13)).trans s14
        obtain ⟨p, rfl, hp⟩ : ∃ p, v = .int p ∧ 0 ≤ p ∧ p ≤ 53 := by
          simp only [List.mem_cons, List.not_mem_nil, or_false] at hv
          rcases hv with rfl | rfl | rfl | rfl <;> exact ⟨_, rfl, by decide, by decide⟩
        walk_at "go"
        refine ⟨a, p, rfl, hp.1, by omega, hw14, fun t H15 t0 t1 s15 hw15 => ?_⟩
        have S15 := S14.trans s15
        have h12b := s15 _ _ l12a (s14 _ _ l12a (s13 _ _ h12))
        walk_at "go"
        refine ⟨a, l12, _, rfl, hw15, h12b, l12a, Nat.lt_of_lt_of_le (by decide : 0 < 6) (Nat.le_refl _), Nat.lt_of_le_of_lt (Nat.le_refl 6) (by decide), fun v H16 hv s16 hw16 => ?_⟩
        have S16 := S15.trans s16
        obtain ⟨u, rfl, hu⟩ : ∃ u, v = .int u ∧ -1074 ≤ u ∧ u ≤ 971 := by
          simp only [List.mem_append, List.mem_cons, List.not_mem_nil, or_false] at hv
          rcases hv with (rfl | rfl | rfl | rfl) | (rfl | rfl) <;> exact ⟨_, rfl, by omega, by omega⟩
        walk_at "go"
        refine g_new (sz rfl) fun b H17 n17 s17 h17 _ => ?_
        refine q b H17 _ _ _ (S16.free hw16 n17) (S16.trans (Stp.of s17)) (hw16.same s17) h17 ⟨hs, t0, pow53 t1 (by omega), ?_, ?_⟩
        · split <;> omega
        · split <;> omega
/-! _law_float -/
theorem sc_Lfloat : FnScope ["_law_well_here", "_law_sign", "_law_top", "_law_power"] ["_law_well_here"] (defScope s_Lfloat) := ⟨rfl, rfl, rfl, by decide +kernel, rfl, by decide +kernel, by decide +kernel⟩
theorem FlAt.stp {a b : Addr} {H H' : Hp} {s : Int} {t : V} {p : Int} (h : FlAt C H b s t p) (hw : Well H a) (e : Stp a H H') : FlAt C H' b s t p := by
  obtain ⟨dx, h⟩ := h
  exact ⟨dx, e.ins hw h⟩
theorem NumAt.stp {a : Addr} {H H' : Hp} {v : V} (hw : Well H a) (e : Stp a H H') : ∀ {n : Nm}, NumAt C H v n → NumAt C H' v n
  | .i _, h => h
  | .f _ _ _, ⟨b, z, h, k⟩ => ⟨b, z, h.stp hw e, k⟩
theorem mk_nan : MkOk 1 (.str "nan") 0 := ⟨.inl rfl, .inl ⟨rfl, rfl, rfl⟩⟩
theorem FinD.mk {s t p : Int} (h : FinD s t p) : MkOk s (.int t) p := by
  obtain ⟨hs, t0, t1, p0, p1⟩ := h
  obtain ⟨n, rfl⟩ := Int.eq_ofNat_of_zero_le t0
  have hb : bitsN n ≤ 53 := bits_le (by omega)
  exact mk_of_flok hs (by omega) p0 (by omega)
def sp_Lfloat (C : Addr) : Sp := fun vs H Q _ => ∃ (a : Addr), vs = [.ref a] ∧ Well H a ∧ ∀ v H' s t p, Stp a H H' → Well H' a → NumAt C H' v (.f s t p) → Q v H'
theorem ok_Lfloat {f : Addr} {fd : FuncData} (F : FunD K "_law_float" "_law_float" (defArgs s_Lfloat) (defBody s_Lfloat) (defScope s_Lfloat) [] [] f fd) (B : Blt mg) (c_Float : CnF P w K mg base C) (c_Ldraw : Fn P w K mg base CX0 1 "_law_draw" ["_law_well_here", "_law_many"] [] sp_Ldraw) (c_Lone : Fn P w K mg base CX0 2 "_law_one" ["_law_well_here", "_law_some"] [] sp_Lone)
    (c_Lfinite : Fn P w K mg base CX0 3 "_law_finite" ["_law_well_here"] [] sp_Lfinite) : FnOk P w K mg base CX0 4 f fd ["_law_well_here"] (sp_Lfloat C) := by
  refine F.ok sc_Lfloat (fun vs H Q E h => ?_) (fun cdv A outer s H vs Q E hr h => ?_)
  · obtain ⟨a, rfl, _⟩ := h; rfl
  · obtain ⟨a, rfl, hw, q⟩ := h
    refine ⟨_, PSs.nox (pss_cons (ps_if (pt_cmpR (op_oEq hr.units) (pe_fn c_Ldraw (hr.mono (by first | decide | omega)) pass0 (pa_cons (pv 0) (pa_cons pe_int pa_nil))) pe_int (nomark _)) (pss_one (ps_ret (pe_fn c_Lone (hr.mono (by first | decide | omega)) pass0 (pa_cons (pv 0) (pa_cons (pe_lstN (pa_cons (pe_cn c_Float (hr.mono (by first | decide | omega)) pass0 (pa_cons pe_int (pa_cons pe_str (pa_cons pe_int pa_nil)))) (pa_cons (pe_cn c_Float (hr.mono (by first | decide | omega)) pass0 (pa_cons (pe_un un_neg pe_int) (pa_cons pe_str (pa_cons pe_int pa_nil)))) (pa_cons (pe_cn c_Float (hr.mono (by first | decide | omega)) pass0 (pa_cons pe_int (pa_cons pe_str (pa_cons pe_int pa_nil)))) pa_nil)))) pa_nil))))) pss_nil)
  (pss_cons (ps_asg (pe_fn c_Lfinite (hr.mono (by first | decide | omega)) pass0 (pa_cons (pv 0) pa_nil)) (pg_tup rfl (pgs_cons (pg_name (i := 1) sc_Lfloat.nd rfl (Or.inl rfl)) (pgs_cons (pg_name (i := 2) sc_Lfloat.nd rfl (Or.inl rfl)) (pgs_cons (pg_name (i := 3) sc_Lfloat.nd rfl (Or.inl rfl)) pgs_nil)))))
  (pss_one (ps_ret (pe_cn c_Float (hr.mono (by first | decide | omega)) pass0 (pa_cons (pv 1) (pa_cons (pv 2) (pa_cons (pv 3) pa_nil)))))))), ?_⟩
    walk_at "go"
    refine ⟨a, _, rfl, by decide, by decide, hw, fun k H1 k0 k1 s1 hw1 => ?_⟩
    walk_at "go"
    refine g_ite (fun hk => ?_) fun hk => ?_
    · walk_at "go"
      refine mkF (mk_inf (.inl rfl)) fun H2 x2 n2 s2 h2 => ?_
      walk_at "go"
      refine mkF (mk_inf (.inr rfl)) fun H3 x3 n3 s3 h3 => ?_
      walk_at "go"
      refine mkF mk_nan fun H4 x4 n4 s4 h4 => ?_
      walk_at "go"
      refine g_new (sz rfl) fun l5 H5 n5 s5 h5 _ => ?_
      have S5 := ((s2.trans s3).trans s4).trans s5
      have hw4 := hw1.same ((s2.trans s3).trans s4)
      refine ⟨a, l5, _, rfl, hw4.same s5, h5, hw4.ne_none n5, by simp, by simp, fun v H6 hv s6 hw6 => ?_⟩
      have g : ∀ x (sg : Int) (tp : V) (p : Int), MkOk sg tp p → FlAt C H5 x sg (redV tp p).1 (redV tp p).2 → NumAt C H6 (.ref x) (.f sg (redV tp p).1 (redV tp p).2) := fun x sg tp p hm h => ⟨x, rfl, h.stp (hw4.same s5) s6, mk_flok hm⟩
      have T6 := (s1.trans (Stp.of S5)).trans s6
      simp only [List.mem_cons, List.not_mem_nil, or_false] at hv
      rcases hv with rfl | rfl | rfl
      · exact q _ _ _ _ _ T6 hw6 (g _ _ _ _ (mk_inf (.inl rfl)) (h2.same ((s3.trans s4).trans s5)))
      · exact q _ _ _ _ _ T6 hw6 (g _ _ _ _ (mk_inf (.inr rfl)) (h3.same (s4.trans s5)))
      · exact q _ _ _ _ _ T6 hw6 (g _ _ _ _ mk_nan (h4.same s5))
    · walk_at "go"
      refine ⟨a, rfl, hw1, fun b H2 sg t p n2 s2 hw2 h2 hd => ?_⟩
      walk_at "go"
      refine ⟨b, _, rfl, SqT.of h2, rfl, ?_⟩
      walk_at "go"
      refine mkF hd.mk fun H3 x3 n3 s3 h3 => ?_
      exact q _ _ _ _ _ ((s1.trans s2).trans (Stp.of s3)) (hw2.same s3) ⟨x3, rfl, h3, mk_flok hd.mk⟩
end
end Up

set_option Elab.async false
set_option linter.all false
set_option maxRecDepth 100000
set_option maxHeartbeats 4000000
set_option exponentiation.threshold 200000
namespace Up
open PySem
/-! ### the nearest float is the nearest: all scaled by 2 ^ 2000 -/
def scW (e : Int) : Nat := 2 ^ (e + 2000).toNat
theorem scW_pos (e : Int) : 0 < scW e := Nat.two_pow_pos _
theorem scW_succ {e : Int} (h : -2000 ≤ e) : scW (e + 1) = 2 * scW e := by
  unfold scW
  rw [show (e + 1 + 2000).toNat = (e + 2000).toNat + 1 by omega, Nat.pow_succ, Nat.mul_comm]
theorem nr_rel (t b : Nat) : t * 2 ^ 2000 * nrB2 t b = nrT t (nrP t b) * (scW (nrP2 t b) * b) := by
  have hlo := nrP_lo t b
  unfold nrB2 nrP2 nrT nrB
  generalize nrP t b = p at *
  have key : ∀ (g : Bool), t * 2 ^ 2000 * (if g = true then (if p < 0 then b else b * 2 ^ p.toNat) * 2 else (if p < 0 then b else b * 2 ^ p.toNat)) =
      (if p < 0 then t * 2 ^ (0 - p).toNat else t) * (scW (if g = true then p + 1 else p) * b) := by
    intro g
    have e1 : scW (p + 1) = 2 * scW p := scW_succ (by omega)
    by_cases hp : p < 0
    · rw [if_pos hp, if_pos hp]
      have e2 : 2 ^ (0 - p).toNat * scW p = 2 ^ 2000 := by
        unfold scW
        rw [← Nat.pow_add]
        congr 1
        omega
      cases g
      · simp only [Bool.false_eq_true, if_false]
        rw [← e2]
        simp only [Nat.mul_assoc, Nat.mul_comm, Nat.mul_left_comm]
      · simp only [if_true]
        rw [e1, ← e2]
        simp only [Nat.mul_assoc, Nat.mul_comm, Nat.mul_left_comm]
    · rw [if_neg hp, if_neg hp]
      have e2 : scW p = 2 ^ p.toNat * 2 ^ 2000 := by
        unfold scW
        rw [← Nat.pow_add]
        congr 1
        omega
      cases g
      · simp only [Bool.false_eq_true, if_false]
        rw [e2]
        simp only [Nat.mul_assoc, Nat.mul_comm, Nat.mul_left_comm]
      · simp only [if_true]
        rw [e1, e2]
        simp only [Nat.mul_assoc, Nat.mul_comm, Nat.mul_left_comm]
  exact key (nrBig t b)
/-- T = q U + the r-th part of b2 of U -/
theorem nr_split (t b : Nat) : (t * 2 ^ 2000) * nrB2 t b = nrQ t b * (scW (nrP2 t b) * b) * nrB2 t b + nrR t b * (scW (nrP2 t b) * b) := by
  rw [nr_rel]
  have e : nrT t (nrP t b) = nrQ t b * nrB2 t b + nrR t b := by
    unfold nrQ nrR
    rw [Nat.mul_comm]
    exact (Nat.div_add_mod _ _).symm
  rw [e, Nat.add_mul]
  congr 1
  simp only [Nat.mul_assoc, Nat.mul_comm, Nat.mul_left_comm]
theorem nr_round {T U q r B : Nat} (hB : 0 < B) (hU : 0 < U) (hr : r < B) (h : T * B = q * U * B + r * U) :
    q * U ≤ T ∧ T < (q + 1) * U ∧ (B < 2 * r ↔ (2 * q + 1) * U < 2 * T) ∧ (2 * r = B ↔ (2 * q + 1) * U = 2 * T) := by
  have h1 : q * U ≤ T := by
    have : q * U * B ≤ T * B := by omega
    exact Nat.le_of_mul_le_mul_right this hB
  obtain ⟨d, hd⟩ := Nat.exists_eq_add_of_le h1
  have h2 : d * B = r * U := by
    rw [hd, Nat.add_mul] at h
    omega
  have h3 : d < U := by
    have : d * B < U * B := by
      rw [h2, Nat.mul_comm U B]
      exact Nat.mul_lt_mul_of_pos_right hr hU
    exact Nat.lt_of_mul_lt_mul_right this
  have e1 : (2 * q + 1) * U = 2 * (q * U) + U := by rw [Nat.add_mul, Nat.one_mul, Nat.mul_assoc]
  have e2 : (q + 1) * U = q * U + U := by rw [Nat.add_mul, Nat.one_mul]
  refine ⟨h1, by omega, ?_, ?_⟩
  · rw [e1, hd]
    constructor
    · intro hb
      have : U * B < 2 * d * B := by
        rw [Nat.mul_assoc, h2, ← Nat.mul_assoc, Nat.mul_comm U B]
        exact Nat.mul_lt_mul_of_pos_right hb hU
      have := Nat.lt_of_mul_lt_mul_right this
      omega
    · intro hb
      have h5 : U < 2 * d := by omega
      have : B * U < 2 * r * U := by
        rw [Nat.mul_assoc 2 r, ← h2, ← Nat.mul_assoc, Nat.mul_comm B U]
        exact Nat.mul_lt_mul_of_pos_right h5 hB
      exact Nat.lt_of_mul_lt_mul_right this
  · rw [e1, hd]
    constructor
    · intro hb
      have : 2 * d * B = U * B := by rw [Nat.mul_assoc, h2, ← Nat.mul_assoc, hb, Nat.mul_comm]
      have := Nat.eq_of_mul_eq_mul_right hB this
      omega
    · intro hb
      have h5 : 2 * d = U := by omega
      have : 2 * r * U = B * U := by rw [Nat.mul_assoc 2 r, ← h2, ← Nat.mul_assoc, h5, Nat.mul_comm]
      exact Nat.eq_of_mul_eq_mul_right hU this
structure NearAt (T U q : Nat) : Prop where
  hi : 2 * T ≤ (2 * q + 1) * U
  hiE : 2 * T = (2 * q + 1) * U → q % 2 = 0
  lo : 2 * q * U ≤ 2 * T + U
  loE : 2 * q * U = 2 * T + U → q % 2 = 0
theorem nr_near {t b : Nat} (hb : 0 < b) : NearAt (t * 2 ^ 2000) (scW (nrP2 t b) * b) (nrW t b) := by
  have hB := nrB2_pos (t := t) hb
  have hU : 0 < scW (nrP2 t b) * b := Nat.mul_pos (scW_pos _) hb
  have hr : nrR t b < nrB2 t b := Nat.mod_lt _ hB
  obtain ⟨h1, h2, h3, h4⟩ := nr_round hB hU hr (nr_split t b)
  generalize t * 2 ^ 2000 = T at *
  generalize scW (nrP2 t b) * b = U at *
  unfold nrW nrUp
  generalize nrQ t b = q at *
  generalize nrR t b = r at *
  generalize nrB2 t b = B at *
  have e1 : (2 * q + 1) * U = 2 * (q * U) + U := by rw [Nat.add_mul, Nat.one_mul, Nat.mul_assoc]
  have e2 : (q + 1) * U = q * U + U := by rw [Nat.add_mul, Nat.one_mul]
  have e3 : 2 * q * U = 2 * (q * U) := Nat.mul_assoc _ _ _
  have e4 : (2 * (q + 1) + 1) * U = 2 * (q * U) + 3 * U := by
    rw [show 2 * (q + 1) + 1 = 2 * q + 3 by omega, Nat.add_mul, e3]
  have e5 : 2 * (q + 1) * U = 2 * (q * U) + 2 * U := by rw [Nat.mul_add, Nat.add_mul, e3]
  rw [e1] at h3 h4
  rw [e2] at h2
  by_cases c1 : B < 2 * r
  · rw [decide_eq_true c1]
    simp only [Bool.true_or, if_true]
    have := h3.mp c1
    exact ⟨by rw [e4]; omega, by rw [e4]; omega, by rw [e5]; omega, by rw [e5]; omega⟩
  · rw [decide_eq_false c1]
    have n3 : ¬ 2 * (q * U) + U < 2 * T := fun z => c1 (h3.mpr z)
    by_cases c2 : 2 * r = B
    · rw [decide_eq_true c2]
      have t2 := h4.mp c2
      by_cases c3 : q % 2 = 1
      · rw [decide_eq_true c3]
        simp only [Bool.true_and, Bool.false_or, if_true]
        exact ⟨by rw [e4]; omega, by rw [e4]; omega, by rw [e5]; omega, by intro _; omega⟩
      · rw [decide_eq_false c3]
        simp only [Bool.and_false, Bool.false_or, Bool.false_eq_true, if_false]
        exact ⟨by rw [e1]; omega, by intro _; omega, by rw [e3]; omega, by rw [e3]; omega⟩
    · rw [decide_eq_false c2]
      simp only [Bool.false_and, Bool.or_self, Bool.false_eq_true, if_false]
      have n4 : ¬ 2 * (q * U) + U = 2 * T := fun z => c2 (h4.mpr z)
      exact ⟨by rw [e1]; omega, by rw [e1]; omega, by rw [e3]; omega, by rw [e3]; omega⟩
/-- above the least power the quotient has its 53 bits -/
theorem nrQ_ge {t b : Nat} (ht : 0 < t) (hb : 0 < b) (hp : -1074 < nrP2 t b) : 2 ^ 52 ≤ nrQ t b := by
  unfold nrQ nrB2
  by_cases hg : nrBig t b = true
  · rw [if_pos hg, ← Nat.div_div_eq_div_mul]
    have h2 : 9007199254740992 ≤ nrT t (nrP t b) / nrB b (nrP t b) := of_decide_eq_true hg
    omega
  · rw [if_neg hg]
    unfold nrP2 at hp
    rw [if_neg hg] at hp
    have hx : nrP t b = (bitsN t : Int) - (bitsN b : Int) - 53 := by
      have hp' := hp
      unfold nrP at hp' ⊢
      split at hp' <;> rename_i hc
      · omega
      · rw [if_neg hc]
    rw [Nat.le_div_iff_mul_le (nrB_pos hb _)]
    have h1 := bits_ge (n := t) (by omega)
    have h3 := bits_pos (n := t) (by omega)
    have h2 := bits_lt b
    unfold nrT nrB
    by_cases hp : nrP t b < 0
    · rw [if_pos hp, if_pos hp]
      have e1 : 2 ^ (bitsN t - 1) * 2 ^ (0 - nrP t b).toNat ≤ t * 2 ^ (0 - nrP t b).toNat := Nat.mul_le_mul_right _ h1
      rw [← Nat.pow_add] at e1
      have e2 : 2 ^ (52 + bitsN b) = 2 ^ (bitsN t - 1 + (0 - nrP t b).toNat) := by congr 1; omega
      have e3 : 2 ^ 52 * b ≤ 2 ^ 52 * 2 ^ bitsN b := Nat.mul_le_mul_left _ (Nat.le_of_lt h2)
      rw [← Nat.pow_add, e2] at e3
      omega
    · rw [if_neg hp, if_neg hp]
      have e1 : b * 2 ^ (nrP t b).toNat ≤ 2 ^ bitsN b * 2 ^ (nrP t b).toNat := Nat.mul_le_mul_right _ (Nat.le_of_lt h2)
      have e3 : 2 ^ 52 * (b * 2 ^ (nrP t b).toNat) ≤ 2 ^ 52 * (2 ^ bitsN b * 2 ^ (nrP t b).toNat) := Nat.mul_le_mul_left _ e1
      rw [← Nat.pow_add, ← Nat.pow_add] at e3
      have e2 : 2 ^ (52 + (bitsN b + (nrP t b).toNat)) = 2 ^ (bitsN t - 1) := by congr 1; omega
      rw [e2] at e3
      omega
theorem nr_lt {t b : Nat} (hb : 0 < b) : t * 2 ^ 2000 < (nrQ t b + 1) * (scW (nrP2 t b) * b) ∧ nrQ t b * (scW (nrP2 t b) * b) ≤ t * 2 ^ 2000 := by
  have hB := nrB2_pos (t := t) hb
  have hU : 0 < scW (nrP2 t b) * b := Nat.mul_pos (scW_pos _) hb
  obtain ⟨h1, h2, _, _⟩ := nr_round hB hU (Nat.mod_lt _ hB) (nr_split t b)
  exact ⟨h2, h1⟩
end Up

set_option Elab.async false
set_option linter.all false
set_option maxRecDepth 100000
set_option maxHeartbeats 4000000
set_option exponentiation.threshold 200000
namespace Up
open PySem
def TT (t : Nat) : Nat := t * 2 ^ 2000
/-! ### the float's own whole number of 53 bits, and what is near to it -/
structure Norm (t b n : Nat) (p : Int) (M : Nat) (e : Int) (v : Nat) : Prop where
  eq : n * 2 ^ v = M
  pe : p = e + v
  lt : M < 2 ^ 53
  lo : -1074 ≤ e
  hi : e ≤ 971
  big : 2 ^ 52 ≤ M ∨ e = -1074
  up : 2 * TT t ≤ (2 * M + 1) * (scW e * b)
  upE : 2 * TT t = (2 * M + 1) * (scW e * b) → M % 2 = 0
  dn : M = 2 ^ 52 → -1074 < e → 4 * M * (scW e * b) ≤ 4 * TT t + scW e * b
  dn' : ¬ (M = 2 ^ 52 ∧ -1074 < e) → 2 * M * (scW e * b) ≤ 2 * TT t + scW e * b ∧ (2 * M * (scW e * b) = 2 * TT t + scW e * b → M % 2 = 0)
theorem nrW_ge {t b : Nat} (ht : 0 < t) (hb : 0 < b) (hp : -1074 < nrP2 t b) : 2 ^ 52 ≤ nrW t b := by
  have := nrQ_ge ht hb hp
  unfold nrW; split <;> omega
theorem nrW_two (t b : Nat) : nrW t b = nrQ t b ∨ nrW t b = nrQ t b + 1 := by
  unfold nrW; split
  · exact .inr rfl
  · exact .inl rfl
theorem norm_of {t b : Nat} (ht : 0 < t) (hb : 0 < b) (h0 : nrW t b ≠ 0) (hf : (bitsN (nrW t b) : Int) + nrP2 t b ≤ 1024) :
    ∃ M e v, Norm t b (nrW t b / 2 ^ tz (nrW t b)) (nrP2 t b + (tz (nrW t b) : Int)) M e v ∧ 0 < M := by
  have N : NearAt (TT t) (scW (nrP2 t b) * b) (nrW t b) := nr_near hb
  have hle := nrW_le (t := t) hb
  have hlo := nrP2_lo t b
  have hge := nrW_ge ht hb
  have hq := nrQ_ge ht hb
  have h2 := nrW_two t b
  have hql : nrQ t b * (scW (nrP2 t b) * b) ≤ TT t := (nr_lt hb).2
  obtain ⟨_, _, _, i4⟩ := land_pred _ h0
  by_cases hw : nrW t b < 2 ^ 53
  · refine ⟨nrW t b, nrP2 t b, tz (nrW t b), ⟨i4, rfl, hw, hlo, ?_, ?_, N.hi, N.hiE, ?_, fun _ => ⟨N.lo, N.loE⟩⟩, by omega⟩
    · rcases Int.lt_or_le (-1074) (nrP2 t b) with h | h
      · have := le_bits (hge h)
        omega
      · omega
    · rcases Int.lt_or_le (-1074) (nrP2 t b) with h | h
      · exact .inl (hge h)
      · exact .inr (by omega)
    · intro hM he
      have h3 := hq he
      have h4 : nrQ t b = 2 ^ 52 := by omega
      have h5 := hql
      rw [h4] at h5
      rw [hM]
      generalize scW (nrP2 t b) * b = U at *
      generalize TT t = Z at *
      omega
  · have hW : nrW t b = 2 ^ 53 := by omega
    have hP : nrP2 t b + 54 ≤ 1024 := by
      have : bitsN (2 ^ 53) = 54 := bits_pow 53
      rw [hW, this] at hf
      omega
    have e0 : nrW t b / 2 ^ tz (nrW t b) = 1 ∧ tz (nrW t b) = 53 := by
      rw [hW]
      have hk : ∀ k, tz (2 ^ k) = k := by
        intro k
        induction k with
        | zero => exact tz_odd (by decide)
        | succ k ih =>
          rw [tz_even (Nat.ne_of_gt (Nat.two_pow_pos _)) (by rw [Nat.pow_succ]; omega)]
          rw [Nat.pow_succ, Nat.mul_div_cancel _ (by decide), ih]
      rw [hk]
      exact ⟨Nat.div_self (Nat.two_pow_pos _), rfl⟩
    rw [e0.1, e0.2]
    have eS : scW (nrP2 t b + 1) = 2 * scW (nrP2 t b) := scW_succ (by omega)
    have n1 := N.hi
    have n3 := N.lo
    rw [hW] at n1 n3
    refine ⟨2 ^ 52, nrP2 t b + 1, 52, ⟨by decide, by omega, by decide, by omega, by omega, .inl (Nat.le_refl _), ?_, fun _ => by decide, ?_, fun h => absurd ⟨rfl, by omega⟩ h⟩, by decide⟩
    · rw [eS, Nat.mul_assoc 2]
      generalize scW (nrP2 t b) * b = U at *
      generalize TT t = Z at *
      omega
    · intro _ _
      rw [eS, Nat.mul_assoc 2]
      generalize scW (nrP2 t b) * b = U at *
      generalize TT t = Z at *
      omega
/-- nothing is left: below the half of the least float -/
theorem norm_zero {t b : Nat} (ht : 0 < t) (hb : 0 < b) (h0 : nrW t b = 0) : 2 * TT t ≤ scW (-1074) * b := by
  have N : 2 * TT t ≤ (2 * nrW t b + 1) * (scW (nrP2 t b) * b) := (nr_near hb).hi
  have hp : nrP2 t b = -1074 := by
    rcases Int.lt_or_le (-1074) (nrP2 t b) with h | h
    · have := nrW_ge ht hb h
      omega
    · have := nrP2_lo t b
      omega
  rw [h0, hp] at N
  omega
/-- the bound beyond which all is infinite -/
def edgeN : Nat := 2 ^ 970 * (2 ^ 54 - 1)
theorem edge_sc : edgeN * 2 ^ 2000 = (2 ^ 54 - 1) * scW 970 := by
  unfold edgeN scW
  rw [show (970 + 2000 : Int).toNat = 970 + 2000 by decide, Nat.pow_add 2 970 2000, Nat.mul_comm (2 ^ 970) (2 ^ 54 - 1), Nat.mul_assoc]
theorem scW_mono {e f : Int} (h : e ≤ f) : scW e ≤ scW f := Nat.pow_le_pow_right (by decide) (by omega)
theorem edge_yes {t b : Nat} (ht : 0 < t) (hb : 0 < b) (hf : ¬ (bitsN (nrW t b) : Int) + nrP2 t b ≤ 1024) : edgeN * b ≤ t := by
  have N : NearAt (TT t) (scW (nrP2 t b) * b) (nrW t b) := nr_near hb
  have hle := nrW_le (t := t) hb
  have h2 := nrW_two t b
  have hql : nrQ t b * (scW (nrP2 t b) * b) ≤ TT t := (nr_lt hb).2
  have hlo := nrP2_lo t b
  have hb54 : bitsN (nrW t b) ≤ 54 := bits_le (by omega)
  have hp : -1074 < nrP2 t b := by omega
  have hge := nrW_ge ht hb hp
  have hq := nrQ_ge ht hb hp
  refine Nat.le_of_mul_le_mul_right (c := 2 ^ 2000) ?_ (Nat.two_pow_pos _)
  rw [Nat.mul_assoc, Nat.mul_comm b, ← Nat.mul_assoc, edge_sc]
  show _ ≤ TT t
  have s1 : scW 971 = 2 * scW 970 := scW_succ (e := 970) (by decide)
  have s2 : scW 972 = 2 * scW 971 := scW_succ (e := 971) (by decide)
  by_cases hw : nrW t b < 2 ^ 53
  · have h53 : bitsN (nrW t b) ≤ 53 := bits_le hw
    have hm := scW_mono (e := 972) (f := nrP2 t b) (by omega)
    have h5 : 2 ^ 52 * (scW 972 * b) ≤ nrQ t b * (scW (nrP2 t b) * b) := Nat.mul_le_mul hq (Nat.mul_le_mul_right _ hm)
    rw [s2, s1] at h5
    have h6 : (2 ^ 54 - 1) * scW 970 * b ≤ 2 ^ 52 * (2 * (2 * scW 970) * b) := by
      rw [show 2 ^ 52 * (2 * (2 * scW 970) * b) = 2 ^ 54 * (scW 970 * b) by rw [← Nat.mul_assoc 2 2, Nat.mul_assoc (2 * 2), ← Nat.mul_assoc (2 ^ 52)], Nat.mul_assoc]
      exact Nat.mul_le_mul_right _ (by decide)
    omega
  · have hW : nrW t b = 2 ^ 53 := by omega
    have hm := scW_mono (e := 971) (f := nrP2 t b) (by omega)
    have n3 := N.lo
    rw [hW] at n3
    have h5 : scW 971 * b ≤ scW (nrP2 t b) * b := Nat.mul_le_mul_right _ hm
    rw [s1, Nat.mul_assoc] at h5
    rw [Nat.mul_assoc]
    generalize scW (nrP2 t b) * b = U at *
    generalize scW 970 * b = G at *
    generalize TT t = Z at *
    omega
theorem edge_no {t b : Nat} (ht : 0 < t) (hb : 0 < b) (hf : (bitsN (nrW t b) : Int) + nrP2 t b ≤ 1024) : t < edgeN * b := by
  have N : NearAt (TT t) (scW (nrP2 t b) * b) (nrW t b) := nr_near hb
  have hle := nrW_le (t := t) hb
  have hlo := nrP2_lo t b
  refine Nat.lt_of_mul_lt_mul_right (a := 2 ^ 2000) ?_
  rw [Nat.mul_assoc edgeN, Nat.mul_comm b, ← Nat.mul_assoc, edge_sc]
  show TT t < _
  have s1 : scW 971 = 2 * scW 970 := scW_succ (e := 970) (by decide)
  have hG : 0 < scW 970 * b := Nat.mul_pos (scW_pos _) hb
  have n1 := N.hi
  have n2 := N.hiE
  rcases Int.lt_or_le (-1074) (nrP2 t b) with hp | hp
  · have hge := nrW_ge ht hb hp
    have h53 := le_bits hge
    by_cases hw : nrW t b < 2 ^ 53
    · have hm : scW (nrP2 t b) * b ≤ scW 971 * b := Nat.mul_le_mul_right _ (scW_mono (by omega))
      rw [s1, Nat.mul_assoc] at hm
      rw [Nat.mul_assoc]
      by_cases hx : nrW t b = 2 ^ 53 - 1
      · rw [hx] at n1 n2
        generalize scW (nrP2 t b) * b = U at *
        generalize scW 970 * b = G at *
        generalize TT t = Z at *
        have : (2 ^ 53 - 1) % 2 ≠ 0 := by decide
        have n3 : ¬ 2 * Z = (2 * (2 ^ 53 - 1) + 1) * U := fun z => this (n2 z)
        omega
      · have h6 : (2 * nrW t b + 1) * (scW (nrP2 t b) * b) ≤ (2 ^ 54 - 3) * (scW (nrP2 t b) * b) := Nat.mul_le_mul_right _ (by omega)
        generalize scW (nrP2 t b) * b = U at *
        generalize scW 970 * b = G at *
        generalize TT t = Z at *
        omega
    · have hW : nrW t b = 2 ^ 53 := by omega
      have e54 : bitsN (2 ^ 53) = 54 := bits_pow 53
      rw [hW, e54] at hf
      rw [hW] at n1
      have hm : scW (nrP2 t b) * b ≤ scW 970 * b := Nat.mul_le_mul_right _ (scW_mono (by omega))
      rw [Nat.mul_assoc]
      generalize scW (nrP2 t b) * b = U at *
      generalize scW 970 * b = G at *
      generalize TT t = Z at *
      omega
  · have hm : scW (nrP2 t b) * b ≤ scW 970 * b := Nat.mul_le_mul_right _ (scW_mono (by omega))
    have h6 : (2 * nrW t b + 1) * (scW (nrP2 t b) * b) ≤ (2 ^ 54 + 1) * (scW (nrP2 t b) * b) := Nat.mul_le_mul_right _ (by omega)
    rw [Nat.mul_assoc]
    generalize scW (nrP2 t b) * b = U at *
    generalize scW 970 * b = G at *
    generalize TT t = Z at *
    omega
/-! ### a power of two as a fraction -/
def scN (e : Int) : Nat := if 0 ≤ e then 2 ^ e.toNat else 1
def scD (e : Int) : Nat := if 0 ≤ e then 1 else 2 ^ (0 - e).toNat
theorem sc_frac {e : Int} (h : -2000 ≤ e) : ∃ c, 0 < c ∧ scD e * c = 2 ^ 2000 ∧ scN e * c = scW e := by
  unfold scD scN scW
  by_cases h0 : 0 ≤ e
  · rw [if_pos h0, if_pos h0]
    refine ⟨2 ^ 2000, Nat.two_pow_pos _, by omega, ?_⟩
    rw [← Nat.pow_add]
    congr 1
    omega
  · rw [if_neg h0, if_neg h0]
    refine ⟨2 ^ (e + 2000).toNat, Nat.two_pow_pos _, ?_, by omega⟩
    rw [← Nat.pow_add]
    congr 1
    omega
/-- above or below k times the power, asked of the scaled parts -/
theorem sc_lt {t b k : Nat} {e : Int} (h : -2000 ≤ e) : ((0 : Int) < (t : Int) * scD e - (k * scN e : Nat) * b ↔ k * (scW e * b) < TT t) ∧ ((t : Int) * scD e - (k * scN e : Nat) * b = 0 ↔ k * (scW e * b) = TT t) := by
  obtain ⟨c, c0, c1, c2⟩ := sc_frac h
  have e1 : TT t = t * scD e * c := by unfold TT; rw [← c1, Nat.mul_assoc]
  have e2 : k * (scW e * b) = k * scN e * b * c := by
    rw [← c2]
    simp only [Nat.mul_assoc, Nat.mul_comm, Nat.mul_left_comm]
  rw [e1, e2]
  have f1 : (t : Int) * scD e = ((t * scD e : Nat) : Int) := by rw [Int.natCast_mul]
  have f2 : ((k * scN e : Nat) : Int) * b = ((k * scN e * b : Nat) : Int) := by rw [Int.natCast_mul (k * scN e)]
  rw [f1, f2]
  generalize t * scD e = X
  generalize k * scN e * b = Y
  constructor
  · constructor
    · intro z
      exact Nat.mul_lt_mul_of_pos_right (by omega) c0
    · intro z
      have := Nat.lt_of_mul_lt_mul_right z
      omega
  · constructor
    · intro z
      have : X = Y := by omega
      rw [this]
    · intro z
      have := Nat.eq_of_mul_eq_mul_right c0 z
      omega
end Up

set_option Elab.async false
set_option linter.all false
set_option maxRecDepth 100000
set_option maxHeartbeats 4000000
set_option exponentiation.threshold 200000
namespace Up
open PySem PySem.Spec PyProof.Rows L2
local macro_rules | `(tactic| walk_at "u") => `(tactic| first
  | with_reducible refine g_seq ?_
  | with_reducible refine g_asg ?_
  | with_reducible refine g_op ?_
  | ((with_reducible show tVar _ _ _ _); apply g_var; exact rfl)
  | with_reducible refine g_c ?_
  | with_reducible refine g_name ?_
  | with_reducible refine g_ifs ?_
  | with_reducible refine g_tt ?_
  | with_reducible refine g_tB ?_
  | with_reducible refine g_bl ?_
  | with_reducible refine g_ret ?_
  | with_reducible refine g_cb ?_
  | with_reducible refine g_cons ?_
  | with_reducible refine g_nil ?_
  | with_reducible refine g_call ?_
  | with_reducible refine g_and ?_
  | with_reducible refine g_or ?_
  | with_reducible refine g_not ?_
  | with_reducible refine g_andV ?_
  | with_reducible refine g_orV ?_
  | with_reducible refine g_notV ?_
  | with_reducible refine g_if ?_
  | with_reducible refine g_un ?_
  | with_reducible refine g_neg ?_
  | with_reducible refine g_addI ?_
  | with_reducible refine g_subI ?_
  | with_reducible refine g_subB ?_
  | with_reducible refine g_I0 ?_
  | with_reducible refine g_cmpI ?_
  | with_reducible refine g_eqI ?_
  | with_reducible refine g_neI ?_
  | with_reducible refine g_eqS ?_
  | with_reducible refine g_neS ?_
  | with_reducible refine g_eqB ?_
  | with_reducible refine g_neB ?_
  | with_reducible refine g_bits ?_
  | with_reducible refine g_bitsI ?_
  | with_reducible refine g_fld ?_
  | with_reducible refine g_tup ?_
  | with_reducible refine g_lst ?_
  | with_reducible refine g_gtup ?_
  | with_reducible refine g_make ?_
  | with_reducible refine g_lc ?_
  | with_reducible refine g_yesT ?_
  | with_reducible refine g_intI ?_
  | with_reducible refine g_intB ?_
  | with_reducible refine g_max2 ?_
  | with_reducible refine g_abs1 ?_
  | with_reducible refine g_for ?_
  | with_reducible refine g_iList ?_
  | with_reducible refine g_iTup ?_
  | with_reducible refine g_iRng1 ?_
  | with_reducible refine g_iEnum ?_
  | with_reducible refine g_slice ?_
  | with_reducible refine g_po0 ?_
  | with_reducible refine g_po1 ?_
  | with_reducible refine g_gsub ?_
  | with_reducible refine g_par ?_
  | with_reducible refine g_par2 ?_
  | with_reducible refine g_rfl ?_
  | with_reducible refine g_meth ?_
  | with_reducible refine g_gcons ?_
  | with_reducible refine g_gnil ?_
  | with_reducible refine g_gfld ?_
  | with_reducible refine g_sfld ?_
  | with_reducible refine g_drop ?_
  | with_reducible refine g_next ?_
  | with_reducible refine iteT ?_
  | with_reducible refine iteF ?_)
local macro_rules | `(tactic| walk_at "go") => `(tactic| (repeat walk_at "u"))
local macro_rules | `(tactic| walk_at "f") => `(tactic| (repeat (first
  | walk_at "u"
  | with_reducible refine g_chain ?_
  | with_reducible refine g_par3 ?_
  | with_reducible refine g_par3' ?_
  | ((with_reducible refine show_ex ?_); first
    | refine fT (by assumption) (by assumption) ?_
    | refine fS (by assumption) (by assumption) ?_
    | refine fP (by assumption) (by assumption) ?_))))

section
variable {P : Program} {w : World} {K : PySem.W.Frag} {mg : Str → Option Value} {base : Heap} {C : Addr}
/-! _law_ratio -/
theorem sc_Lratio : FnScope ["_law_number"] ["_law_number"] (defScope s_Lratio) := ⟨rfl, rfl, rfl, by decide +kernel, rfl, by decide +kernel, by decide +kernel⟩
def mg' (x : FL) : Int := if x.p < 0 then nI x.t else nI x.t * 2 ^ x.p.toNat
theorem nx_mg (x : FL) : nx x = x.s * mg' x := by
  unfold nx ratN mg'
  split <;> rfl
def sp_Lratio (C : Addr) : Sp := fun vs H Q _ => ∃ v x n, vs = [v] ∧ FA C H v x ∧ x.ok ∧ x.t = .int n ∧ RetT H [.int (mg' x), .int (dx x)] Q
theorem ok_Lratio {f : Addr} {fd : FuncData} (F : FunD K "_law_ratio" "_law_ratio" (defArgs s_Lratio) (defBody s_Lratio) (defScope s_Lratio) [] [] f fd) (B : Blt mg) (T : FlC K mg C) : FnOk P w K mg base CX0 1 f fd ["_law_number"] (sp_Lratio C) := by
  refine F.ok sc_Lratio (fun vs H Q E h => ?_) (fun cdv A outer s H vs Q E hr h => ?_)
  · obtain ⟨_, _, _, rfl, _⟩ := h; rfl
  · obtain ⟨_, x, n, rfl, ⟨a, rfl, ha⟩, ox, en, q⟩ := h
    have ox' : FlOk x.s (.int n) x.p := en ▸ ox
    have hf := fin_of ox'
    have hhi := hf.hi
    obtain ⟨f1, f2, f3, f4, f5⟩ := hf
    unfold mg' dx ratD at q
    rw [en] at q ha
    refine ⟨_, PSs.nox (pss_cons (ps_if (pt_cmpR op_oLt (pe_fld (pv 0) rfl) pe_int (nomark _)) (pss_one (ps_ret (pe_tupN (pa_cons (pe_fld (pv 0) rfl) (pa_cons (pe_op op_oShl pe_int (pe_op op_oSub pe_int (pe_fld (pv 0) rfl))) pa_nil))))) pss_nil)
  (pss_one (ps_ret (pe_tupN (pa_cons (pe_op op_oShl (pe_fld (pv 0) rfl) (pe_fld (pv 0) rfl)) (pa_cons pe_int pa_nil)))))), ?_⟩
    walk_at "f"
    refine g_ite (fun hp => ?_) fun hp => ?_
    · walk_at "f"
      refine g_II (shl_small (by omega) (by omega) (lt_pow_mono (a := 1) (by decide) (by decide))) ?_
      walk_at "f"
      refine g_new (sz rfl) fun b H2 nb s2 hb _ => ?_
      rw [if_pos hp, if_pos hp] at q
      rw [Int.one_mul] at hb
      exact q _ _ nb s2 hb
    · walk_at "f"
      refine g_II (shl_small (by omega) (by omega) (lt_pow_mono (a := 53) (by omega) (by decide))) ?_
      walk_at "f"
      refine g_new (sz rfl) fun b H2 nb s2 hb _ => ?_
      rw [if_neg hp, if_neg hp] at q
      exact q _ _ nb s2 hb
/-! _law_scaled -/
theorem sc_Lscaled : FnScope ["_law_number", "_law_power"] ["_law_number", "_law_power"] (defScope s_Lscaled) := ⟨rfl, rfl, rfl, by decide +kernel, rfl, by decide +kernel, by decide +kernel⟩
def sp_Lscaled : Sp := fun vs H Q _ => ∃ k e, vs = [.int k, .int e] ∧ -2000 ≤ e ∧ e ≤ 2000 ∧ k.natAbs < 2 ^ 100 ∧ RetT H [.int (k * (scN e : Nat)), .int (scD e : Nat)] Q
theorem ok_Lscaled {f : Addr} {fd : FuncData} (F : FunD K "_law_scaled" "_law_scaled" (defArgs s_Lscaled) (defBody s_Lscaled) (defScope s_Lscaled) [] [] f fd) (B : Blt mg) : FnOk P w K mg base CX0 1 f fd ["_law_number", "_law_power"] sp_Lscaled := by
  refine F.ok sc_Lscaled (fun vs H Q E h => ?_) (fun cdv A outer s H vs Q E hr h => ?_)
  · obtain ⟨_, _, rfl, _⟩ := h; rfl
  · obtain ⟨k, e, rfl, e1, e2, hk, q⟩ := h
    unfold scN scD at q
    refine ⟨_, PSs.nox (pss_one (ps_ret (pe_ifExp (pt_cmpR op_oGe (pv 1) pe_int (nomark _)) (pe_tupN (pa_cons (pe_op op_oShl (pv 0) (pv 1)) (pa_cons pe_int pa_nil))) (pe_tupN (pa_cons (pv 0) (pa_cons (pe_op op_oShl pe_int (pe_op op_oSub pe_int (pv 1))) pa_nil)))))), ?_⟩
    walk_at "f"
    refine g_ite (fun hp => ?_) fun hp => ?_
    · rw [if_pos hp, if_pos hp] at q
      walk_at "f"
      refine g_II (shl_small (by omega) (by omega) (lt_pow_mono hk (by decide))) ?_
      walk_at "f"
      refine g_new (sz rfl) fun b H2 nb s2 hb _ => ?_
      rw [Int.natCast_pow] at q
      exact q _ _ nb s2 hb
    · rw [if_neg hp, if_neg hp] at q
      walk_at "f"
      refine g_II (shl_small (by omega) (by omega) (lt_pow_mono (a := 1) (by decide) (by decide))) ?_
      walk_at "f"
      refine g_new (sz rfl) fun b H2 nb s2 hb _ => ?_
      rw [Int.one_mul] at hb
      rw [Int.natCast_pow, show k * ((1 : Nat) : Int) = k by omega] at q
      exact q _ _ nb s2 hb
/-! _law_is_nearest -/
structure Nrm (t b M : Nat) (e : Int) : Prop where
  lt : M < 2 ^ 53
  lo : -1074 ≤ e
  hi : e ≤ 971
  up : 2 * TT t ≤ (2 * M + 1) * (scW e * b)
  upE : 2 * TT t = (2 * M + 1) * (scW e * b) → M % 2 = 0
  dn : M = 2 ^ 52 → -1074 < e → 4 * M * (scW e * b) ≤ 4 * TT t + scW e * b
  dn' : ¬ (M = 2 ^ 52 ∧ -1074 < e) → 2 * M * (scW e * b) ≤ 2 * TT t + scW e * b ∧ (2 * M * (scW e * b) = 2 * TT t + scW e * b → M % 2 = 0)
theorem Norm.nrm {t b n M v : Nat} {p e : Int} (h : Norm t b n p M e v) : Nrm t b M e := ⟨h.lt, h.lo, h.hi, h.up, h.upE, h.dn, h.dn'⟩
theorem nrm_zero {t b : Nat} (h : 2 * TT t ≤ scW (-1074) * b) : Nrm t b 0 (-1074) := ⟨by decide, by decide, by decide, by omega, fun _ => rfl, fun z => absurd z (by decide), fun _ => ⟨by omega, fun _ => rfl⟩⟩
/-- not above -/
theorem Nrm.above {t b M : Nat} {e : Int} (h : Nrm t b M e) : ¬ (0 : Int) < (t : Int) * scD (e - 1) - ((2 * M + 1 : Nat) : Int) * scN (e - 1) * b ∧ ((t : Int) * scD (e - 1) - ((2 * M + 1 : Nat) : Int) * scN (e - 1) * b = 0 → M % 2 = 0) := by
  have hl := h.lo
  have z := sc_lt (t := t) (b := b) (k := 2 * M + 1) (e := e - 1) (by omega)
  rw [Int.natCast_mul] at z
  have s1 : scW e = 2 * scW (e - 1) := by
    have := scW_succ (e := e - 1) (by omega)
    rw [show e - 1 + 1 = e by omega] at this
    exact this
  have u1 := h.up
  have u2 := h.upE
  have e1 : (2 * M + 1) * (scW e * b) = 2 * ((2 * M + 1) * (scW (e - 1) * b)) := by
    rw [s1]; simp only [Nat.mul_assoc, Nat.mul_comm, Nat.mul_left_comm]
  rw [e1] at u1 u2
  refine ⟨fun y => ?_, fun y => ?_⟩
  · have := z.1.mp y
    omega
  · exact u2 (by have := z.2.mp y; omega)
/-- what low is: below, or as far and even -/
def LowOk (t b M : Nat) (k D : Int) : Prop := (0 < (t : Int) * D - k * b ∨ ((t : Int) * D - k * b = 0 ∧ M % 2 = 0))
theorem Nrm.below {t b M : Nat} {e : Int} (h : Nrm t b M e) (hb : 0 < b) (hn : ¬ (M = 2 ^ 52 ∧ -1074 < e)) : LowOk t b M ((2 * (M : Int) - 1) * scN (e - 1)) (scD (e - 1)) := by
  have hl := h.lo
  have hpos : 0 < scN (e - 1) := by unfold scN; split; exact Nat.two_pow_pos _; decide
  have hposD : 0 < scD (e - 1) := by unfold scD; split; decide; exact Nat.two_pow_pos _
  by_cases h0 : M = 0
  · subst h0
    refine .inl ?_
    have i1 : (0 : Int) ≤ (t : Int) * scD (e - 1) := Int.mul_nonneg (by omega) (by omega)
    have i2 : (0 : Int) < (scN (e - 1) : Int) * b := Int.mul_pos (by omega) (by omega)
    have i3 : (2 * ((0 : Nat) : Int) - 1) * (scN (e - 1) : Int) * b = -((scN (e - 1) : Int) * b) := by
      rw [show (2 * ((0 : Nat) : Int) - 1) = -1 by decide, Int.neg_one_mul, Int.neg_mul]
    rw [i3]
    omega
  · have z := sc_lt (t := t) (b := b) (k := 2 * M - 1) (e := e - 1) (by omega)
    rw [Int.natCast_mul] at z
    have ek : ((2 * M - 1 : Nat) : Int) = 2 * (M : Int) - 1 := by omega
    rw [ek] at z
    have s1 : scW e = 2 * scW (e - 1) := by
      have := scW_succ (e := e - 1) (by omega)
      rw [show e - 1 + 1 = e by omega] at this
      exact this
    obtain ⟨u1, u2⟩ := h.dn' hn
    have e1 : 2 * M * (scW e * b) = 2 * ((2 * M - 1) * (scW (e - 1) * b)) + scW e * b := by
      have : 2 * M = (2 * M - 1) + 1 := by omega
      rw [this, Nat.add_mul, Nat.one_mul, s1, show (2 * M - 1 + 1 - 1) = 2 * M - 1 by omega]
      congr 1
      simp only [Nat.mul_assoc, Nat.mul_comm, Nat.mul_left_comm]
    rw [e1] at u1 u2
    unfold LowOk
    rcases Nat.lt_or_ge ((2 * M - 1) * (scW (e - 1) * b)) (TT t) with y | y
    · exact .inl (z.1.mpr y)
    · have y' : (2 * M - 1) * (scW (e - 1) * b) = TT t := by omega
      exact .inr ⟨z.2.mpr y', u2 (by omega)⟩
theorem Nrm.below' {t b M : Nat} {e : Int} (h : Nrm t b M e) (h1 : M = 2 ^ 52) (h2 : -1074 < e) : LowOk t b M ((4 * (M : Int) - 1) * scN (e - 2)) (scD (e - 2)) := by
  have z := sc_lt (t := t) (b := b) (k := 4 * M - 1) (e := e - 2) (by omega)
  rw [Int.natCast_mul] at z
  have ek : ((4 * M - 1 : Nat) : Int) = 4 * (M : Int) - 1 := by omega
  rw [ek] at z
  have s1 : scW e = 4 * scW (e - 2) := by
    have a := scW_succ (e := e - 2) (by omega)
    have c := scW_succ (e := e - 1) (by omega)
    rw [show e - 2 + 1 = e - 1 by omega] at a
    rw [show e - 1 + 1 = e by omega] at c
    omega
  have u1 := h.dn h1 h2
  have e1 : 4 * M * (scW e * b) = 4 * ((4 * M - 1) * (scW (e - 2) * b)) + scW e * b := by
    have : 4 * M = (4 * M - 1) + 1 := by omega
    rw [this, Nat.add_mul, Nat.one_mul, s1, show (4 * M - 1 + 1 - 1) = 4 * M - 1 by omega]
    congr 1
    simp only [Nat.mul_assoc, Nat.mul_comm, Nat.mul_left_comm]
  rw [e1] at u1
  unfold LowOk
  rcases Nat.lt_or_ge ((4 * M - 1) * (scW (e - 2) * b)) (TT t) with y | y
  · exact .inl (z.1.mpr y)
  · have y' : (4 * M - 1) * (scW (e - 2) * b) = TT t := by omega
    exact .inr ⟨z.2.mpr y', by rw [h1]⟩
end
end Up

set_option Elab.async false
set_option linter.all false
set_option maxRecDepth 100000
set_option maxHeartbeats 4000000
set_option exponentiation.threshold 200000
namespace Up
open PySem PySem.Spec PyProof.Rows L2
local macro_rules | `(tactic| walk_at "u") => `(tactic| first
  | with_reducible refine g_seq ?_
  | with_reducible refine g_asg ?_
  | with_reducible refine g_op ?_
  | ((with_reducible show tVar _ _ _ _); apply g_var; exact rfl)
  | with_reducible refine g_c ?_
  | with_reducible refine g_name ?_
  | with_reducible refine g_ifs ?_
  | with_reducible refine g_tt ?_
  | with_reducible refine g_tB ?_
  | with_reducible refine g_bl ?_
  | with_reducible refine g_ret ?_
  | with_reducible refine g_cb ?_
  | with_reducible refine g_cons ?_
  | with_reducible refine g_nil ?_
  | with_reducible refine g_call ?_
  | with_reducible refine g_and ?_
  | with_reducible refine g_or ?_
  | with_reducible refine g_not ?_
  | with_reducible refine g_andV ?_
  | with_reducible refine g_orV ?_
  | with_reducible refine g_notV ?_
  | with_reducible refine g_if ?_
  | with_reducible refine g_un ?_
  | with_reducible refine g_neg ?_
  | with_reducible refine g_addI ?_
  | with_reducible refine g_subI ?_
  | with_reducible refine g_subB ?_
  | with_reducible refine g_I0 ?_
  | with_reducible refine g_cmpI ?_
  | with_reducible refine g_eqI ?_
  | with_reducible refine g_neI ?_
  | with_reducible refine g_eqS ?_
  | with_reducible refine g_neS ?_
  | with_reducible refine g_eqB ?_
  | with_reducible refine g_neB ?_
  | with_reducible refine g_bits ?_
  | with_reducible refine g_bitsI ?_
  | with_reducible refine g_fld ?_
  | with_reducible refine g_tup ?_
  | with_reducible refine g_lst ?_
  | with_reducible refine g_gtup ?_
  | with_reducible refine g_make ?_
  | with_reducible refine g_lc ?_
  | with_reducible refine g_yesT ?_
  | with_reducible refine g_intI ?_
  | with_reducible refine g_intB ?_
  | with_reducible refine g_max2 ?_
  | with_reducible refine g_abs1 ?_
  | with_reducible refine g_for ?_
  | with_reducible refine g_iList ?_
  | with_reducible refine g_iTup ?_
  | with_reducible refine g_iRng1 ?_
  | with_reducible refine g_iEnum ?_
  | with_reducible refine g_slice ?_
  | with_reducible refine g_po0 ?_
  | with_reducible refine g_po1 ?_
  | with_reducible refine g_gsub ?_
  | with_reducible refine g_par ?_
  | with_reducible refine g_par2 ?_
  | with_reducible refine g_rfl ?_
  | with_reducible refine g_meth ?_
  | with_reducible refine g_gcons ?_
  | with_reducible refine g_gnil ?_
  | with_reducible refine g_gfld ?_
  | with_reducible refine g_sfld ?_
  | with_reducible refine g_drop ?_
  | with_reducible refine g_next ?_
  | with_reducible refine iteT ?_
  | with_reducible refine iteF ?_)
local macro_rules | `(tactic| walk_at "go") => `(tactic| (repeat walk_at "u"))
local macro_rules | `(tactic| walk_at "f") => `(tactic| (repeat (first
  | walk_at "u"
  | with_reducible refine g_chain ?_
  | with_reducible refine g_par3 ?_
  | with_reducible refine g_par3' ?_
  | ((with_reducible refine show_ex ?_); first
    | refine fT (by assumption) (by assumption) ?_
    | refine fS (by assumption) (by assumption) ?_
    | refine fP (by assumption) (by assumption) ?_))))

section
variable {P : Program} {w : World} {K : PySem.W.Frag} {mg : Str → Option Value} {base : Heap} {C : Addr}
abbrev BN : Nat := 30000
theorem sc_Lisnearest : FnScope ["_law_found", "_law_sign", "_law_top", "_law_bottom", "_law_edge", "_law_many", "_law_power", "_law_over", "_law_under", "_law_high", "_law_low", "_law_above", "_law_below", "_law_is_even"] ["_law_found", "_law_sign", "_law_top", "_law_bottom"] (defScope s_Lisnearest) := ⟨rfl, rfl, rfl, by decide +kernel, rfl, by decide +kernel, by decide +kernel⟩
theorem edge_int : (1 : Int) * 2 ^ Int.toNat 1024 - 1 * 2 ^ Int.toNat 970 = ((edgeN : Nat) : Int) := by
  have e1 : (2 : Int) ^ Int.toNat 1024 = 2 ^ 970 * 2 ^ 54 := by
    rw [← Int.pow_add]; rfl
  have e2 : Int.toNat 970 = 970 := rfl
  have e3 : ((edgeN : Nat) : Int) = 2 ^ 970 * (2 ^ 54 - 1) := by
    unfold edgeN
    rw [Int.natCast_mul, Int.natCast_pow]
    rfl
  rw [e1, e2, e3, Int.one_mul, Int.one_mul, Int.mul_sub, Int.mul_one]
theorem edge_small : edgeN < 2 ^ 1100 := by
  unfold edgeN
  have : 2 ^ 970 * (2 ^ 54 - 1) < 2 ^ 970 * 2 ^ 54 := Nat.mul_lt_mul_of_pos_left (by decide) (Nat.two_pow_pos _)
  rw [← Nat.pow_add] at this
  exact Nat.lt_of_lt_of_le this (Nat.pow_le_pow_right (by decide) (by decide))
/-- the float that is near, looked at -/
theorem near_cases {s : Int} {t b : Nat} (ht : 0 < t) (hb : 0 < b) : (nearL s t b = infL s ∧ edgeN * b ≤ t) ∨
    (t < edgeN * b ∧ ((nearL s t b = zeroL s ∧ Nrm t b 0 (-1074)) ∨ ∃ n p M e v, nearL s t b = ⟨s, .int (n : Nat), p⟩ ∧ Norm t b n p M e v ∧ 0 < M)) := by
  unfold nearL nearV
  rw [if_neg (by omega)]
  by_cases h1 : (bitsN (nrW t b) : Int) + nrP2 t b > 1024
  · rw [if_pos h1]
    exact .inl ⟨rfl, edge_yes ht hb (by omega)⟩
  · rw [if_neg h1]
    refine .inr ⟨edge_no ht hb (by omega), ?_⟩
    by_cases h0 : nrW t b = 0
    · refine .inl ⟨?_, nrm_zero (norm_zero ht hb h0)⟩
      rw [h0]; rfl
    · obtain ⟨M, e, v, hN, hM⟩ := norm_of ht hb h0 (by omega)
      refine .inr ⟨_, _, M, e, v, ?_, hN, hM⟩
      unfold mkL
      rw [red_nat h0]
theorem pow52 : (1 : Int) * 2 ^ Int.toNat 52 = 4503599627370496 := by decide
def sp_Lisnearest (C : Addr) : Sp := fun vs H Q _ => ∃ v s t b, vs = [v, .int s, .int ((t : Nat) : Int), .int ((b : Nat) : Int)] ∧ 0 < t ∧ 0 < b ∧ t < 2 ^ BN ∧ b < 2 ^ BN ∧ (s = 1 ∨ s = -1) ∧ FA C H v (nearL s t b) ∧ ∀ H', Same H H' → Q (.bl true) H'
theorem ok_Lisnearest {f : Addr} {fd : FuncData} (F : FunD K "_law_is_nearest" "_law_is_nearest" (defArgs s_Lisnearest) (defBody s_Lisnearest) (defScope s_Lisnearest) [] [] f fd) (B : Blt mg) (T : FlC K mg C) (c_Lscaled : Fn P w K mg base CX0 1 "_law_scaled" ["_law_number", "_law_power"] [] sp_Lscaled) : FnOk P w K mg base CX0 2 f fd ["_law_found", "_law_sign", "_law_top", "_law_bottom"] (sp_Lisnearest C) := by
  refine F.ok sc_Lisnearest (fun vs H Q E h => ?_) (fun cdv A outer s H vs Q E hr h => ?_)
  · obtain ⟨_, _, _, _, rfl, _⟩ := h; rfl
  · obtain ⟨_, sg, t, b, rfl, ht, hb, ht6, hb6, hs, ⟨a, rfl, ha⟩, q⟩ := h
    have me : IntMulOk ((edgeN : Nat) : Int) ((b : Nat) : Int) := mul_small (by rw [Int.natAbs_natCast]; exact lt_pow_mono edge_small (by decide)) (by rw [Int.natAbs_natCast]; exact lt_pow_mono hb6 (by decide))
    refine ⟨_, PSs.nox (pss_cons (ps_if (pt_cmpR (op_oNe hr.units) (pe_fld (pv 0) rfl) (pv 1) (nomark _)) (pss_one (ps_ret pe_bl)) pss_nil)
  (pss_cons (ps_set (i := 4) sc_Lisnearest.nd rfl (Or.inl rfl) (pe_op op_oSub (pe_op op_oShl pe_int pe_int) (pe_op op_oShl pe_int pe_int)))
  (pss_cons (ps_if (pt_cmpR (op_oEq hr.units) (pe_fld (pv 0) rfl) pe_str (nomark _)) (pss_one (ps_ret (pe_cmpR op_oGe (pv 2) (pe_op op_oMul (pv 4) (pv 3)) (nomark _)))) pss_nil)
  (pss_cons (ps_if (PW.pt (pw_or (pt_cmpR (op_oEq hr.units) (pe_fld (pv 0) rfl) pe_str (nomark _)) (pw_or1 (pt_cmpR op_oGe (pv 2) (pe_op op_oMul (pv 4) (pv 3)) (nomark _))))) (pss_one (ps_ret pe_bl)) pss_nil)
  (pss_cons (ps_par (i := 5) (j := 6) rfl sc_Lisnearest.nd rfl rfl (by decide) rfl rfl (pa_cons (pe_fld (pv 0) rfl) (pa_cons (pe_fld (pv 0) rfl) pa_nil)) (by rfl))
  (C8.pss_cut (ps_while PassesOwn.never (PW.pt (pw_and (pt_cmpR op_oGt (pv 5) pe_int (nomark _)) (pw_and (pt_cmpR op_oLt (pv 5) (pe_op op_oShl pe_int pe_int) (nomark _)) (pw_and1 (pt_cmpR op_oGt (pv 6) (pe_un un_neg pe_int) (nomark _))))))
    (pss_one (ps_par (i := 5) (j := 6) rfl sc_Lisnearest.nd rfl rfl (by decide) rfl rfl (pa_cons (pe_op op_oMul (pv 5) pe_int) (pa_cons (pe_op op_oSub (pv 6) pe_int) pa_nil)) (by rfl))))
  (C8.pss_cut (ps_if (pt_cmpR (op_oEq hr.units) (pv 5) pe_int (nomark _)) (pss_one (ps_set (i := 6) sc_Lisnearest.nd rfl (Or.inl rfl) (pe_un un_neg pe_int))) pss_nil)
  (pss_cons (ps_par (i := 7) (j := 8) rfl sc_Lisnearest.nd rfl rfl (by decide) rfl rfl (pa_cons (pe_op op_oAdd (pe_op op_oMul pe_int (pv 5)) pe_int) (pa_cons (pe_op op_oSub (pe_op op_oMul pe_int (pv 5)) pe_int) pa_nil)) (by rfl))
  (pss_cons (ps_par (i := 9) (j := 10) rfl sc_Lisnearest.nd rfl rfl (by decide) rfl rfl (pa_cons (pe_fn c_Lscaled (hr.mono (by first | decide | omega)) pass0 (pa_cons (pv 7) (pa_cons (pe_op op_oSub (pv 6) pe_int) pa_nil))) (pa_cons (pe_fn c_Lscaled (hr.mono (by first | decide | omega)) pass0 (pa_cons (pv 8) (pa_cons (pe_op op_oSub (pv 6) pe_int) pa_nil))) pa_nil)) (by rfl))
  (C8.pss_cut (ps_if (PW.pt (pw_and (pt_cmpR (op_oEq hr.units) (pv 5) (pe_op op_oShl pe_int pe_int) (nomark _)) (pw_and1 (pt_cmpR op_oGt (pv 6) (pe_un un_neg pe_int) (nomark _))))) (pss_one (ps_set (i := 10) sc_Lisnearest.nd rfl (Or.inl rfl) (pe_fn c_Lscaled (hr.mono (by first | decide | omega)) pass0 (pa_cons (pe_op op_oSub (pe_op op_oMul pe_int (pv 5)) pe_int) (pa_cons (pe_op op_oSub (pv 6) pe_int) pa_nil))))) pss_nil)
  (pss_cons (ps_set (i := 11) sc_Lisnearest.nd rfl (Or.inl rfl) (pe_op op_oSub (pe_op op_oMul (pv 2) (pe_ix ix_seq (pv 9) pe_int (fun _ _ => rfl))) (pe_op op_oMul (pe_ix ix_seq (pv 9) pe_int (fun _ _ => rfl)) (pv 3))))
  (pss_cons (ps_set (i := 12) sc_Lisnearest.nd rfl (Or.inl rfl) (pe_op op_oSub (pe_op op_oMul (pv 2) (pe_ix ix_seq (pv 10) pe_int (fun _ _ => rfl))) (pe_op op_oMul (pe_ix ix_seq (pv 10) pe_int (fun _ _ => rfl)) (pv 3))))
  (pss_cons (ps_set (i := 13) sc_Lisnearest.nd rfl (Or.inl rfl) (pe_cmpR (op_oEq hr.units) (pe_op op_oMod (pe_callTy call_int1 (by rfl) B.int (by decide +kernel) (pa_cons (pv 5) pa_nil)) pe_int) pe_int (nomark _)))
  (pss_cons (ps_if (pt_cut (PW.pt (pw_or (pt_cmpR op_oGt (pv 11) pe_int (nomark _)) (pw_or1 (PW.pt (pw_and (pt_cmpR (op_oEq hr.units) (pv 11) pe_int (nomark _)) (pw_and1 (pt_not (pt_val (pv 13)))))))))) (pss_one (ps_ret pe_bl)) pss_nil)
  (pss_one (ps_ret (pe_or (pe_cmpR op_oGt (pv 12) pe_int (nomark _)) (pe_or (pe_and (pe_cmpR (op_oEq hr.units) (pv 12) pe_int (nomark _)) (pe_one (pv 13))) (pe_one (pe_cmpR (op_oEq hr.units) (pv 5) pe_int (nomark _))))))))))))))))))))), ?_⟩
    rcases near_cases (s := sg) ht hb with ⟨en, he⟩ | ⟨he, hc⟩
    · rw [en] at ha
      have ha : FlAt C H a sg (.str "inf") 0 := ha
      walk_at "f"
      refine g_iten (fun z => absurd rfl z) fun _ => ?_
      walk_at "f"
      refine g_II (shl_small (by decide) (by decide) (lt_pow_mono (a := 1) (by decide) (by decide))) ?_
      walk_at "f"
      refine g_II (shl_small (by decide) (by decide) (lt_pow_mono (a := 1) (by decide) (by decide))) ?_
      walk_at "f"
      rw [edge_int]
      refine g_yes rfl ?_
      walk_at "f"
      refine g_mulI me ?_
      walk_at "f"
      have e : decide (((edgeN : Nat) : Int) * ((b : Nat) : Int) ≤ ((t : Nat) : Int)) = true := decide_eq_true (by rw [← Int.natCast_mul]; exact Int.ofNat_le.mpr he)
      rw [e]
      exact q _ (Same.refl _)
    · have he' : ¬ ((edgeN : Nat) : Int) * ((b : Nat) : Int) ≤ ((t : Nat) : Int) := by
        rw [← Int.natCast_mul]
        exact fun z => absurd (Int.ofNat_le.mp z) (Nat.not_le.mpr he)
      obtain ⟨n, p, en, hn, hloop⟩ : ∃ (n : Nat) (p : Int), nearL sg t b = ⟨sg, .int (n : Nat), p⟩ ∧ n < 2 ^ 53 ∧ ((n = 0 ∧ Nrm t b 0 (-1074)) ∨ ∃ M e v, Norm t b n p M e v ∧ 0 < M) := by
        rcases hc with ⟨e1, e2⟩ | ⟨n, p, M, e, v, e1, e2, e3⟩
        · exact ⟨0, 0, e1, by decide, .inl ⟨rfl, e2⟩⟩
        · refine ⟨n, p, e1, ?_, .inr ⟨M, e, v, e2, e3⟩⟩
          have h1 := e2.eq
          have h2 := e2.lt
          have h3 : n * 1 ≤ n * 2 ^ v := Nat.mul_le_mul_left _ (Nat.two_pow_pos _)
          omega
      rw [en] at ha
      have ha : FlAt C H a sg (.int (n : Nat)) p := ha
      walk_at "f"
      refine g_iten (fun z => absurd rfl z) fun _ => ?_
      walk_at "f"
      refine g_II (shl_small (by decide) (by decide) (lt_pow_mono (a := 1) (by decide) (by decide))) ?_
      walk_at "f"
      refine g_II (shl_small (by decide) (by decide) (lt_pow_mono (a := 1) (by decide) (by decide))) ?_
      walk_at "f"
      rw [edge_int]
      refine g_eqV rfl ?_
      walk_at "f"
      refine g_no (by simp) ?_
      walk_at "f"
      refine g_eqV rfl ?_
      walk_at "f"
      refine g_no (by simp) ?_
      walk_at "f"
      refine g_mulI me ?_
      walk_at "f"
      refine g_no he' ?_
      walk_at "f"
      refine g_cut (fun σ' H2 => ∃ (M : Nat) (e : Int), σ' = [some (.ref a), some (.int sg), some (.int t), some (.int b), some (.int (edgeN : Nat)), some (.int M), some (.int e), none, none, none, none, none, none, none] ∧ H = H2 ∧ ((M = 0 ∧ Nrm t b 0 (-1074)) ∨ (0 < M ∧ Nrm t b M e))) ?_ ?_
      · rcases hloop with ⟨rfl, hz⟩ | ⟨M, e, v, N, hM⟩
        · refine g_while (fun m σ' H' => σ' = [some (.ref a), some (.int sg), some (.int t), some (.int b), some (.int (edgeN : Nat)), some (.int (0 : Nat)), some (.int p), none, none, none, none, none, none, none] ∧ H = H') 0 ⟨rfl, rfl⟩ ?_
          rintro m _ _ ⟨rfl, rfl⟩
          walk_at "f"
          refine g_no (by decide) ?_
          walk_at "f"
          exact ⟨0, p, rfl, rfl, .inl ⟨rfl, hz⟩⟩
        · have hn0 : 0 < n := by
            have := N.eq
            rcases Nat.eq_zero_or_pos n with z | z
            · rw [z, Nat.zero_mul] at this; omega
            · exact z
          have N1 := N.eq
          have N2 := N.pe
          have N3 := N.lt
          have N4 := N.lo
          have N5 := N.big
          refine g_while (fun m σ' H' => ∃ (i z : Nat), i + m = v ∧ z = n * 2 ^ i ∧ σ' = [some (.ref a), some (.int sg), some (.int t), some (.int b), some (.int (edgeN : Nat)), some (.int z), some (.int (p - i)), none, none, none, none, none, none, none] ∧ H = H') v ⟨0, n, by omega, by simp, by simp [L2.start], rfl⟩ ?_
          rintro m _ _ ⟨i, y, him, hy, rfl, rfl⟩
          have hpos : 0 < y := by rw [hy]; exact Nat.mul_pos hn0 (Nat.two_pow_pos _)
          have full : i < v → 2 * y ≤ M := fun hlt => by
            rw [← N1, hy]
            have : 2 ^ (i + 1) ≤ 2 ^ v := Nat.pow_le_pow_right (by decide) hlt
            rw [Nat.pow_succ] at this
            have := Nat.mul_le_mul_left n this
            rw [← Nat.mul_assoc] at this
            omega
          have same : i = v → y = M := fun z => by rw [hy, z]; exact N1
          have fin : i = v → ∃ (M : Nat) (e : Int), [some (V.ref a), some (.int sg), some (.int t), some (.int b), some (.int (edgeN : Nat)), some (.int y), some (.int (p - i)), none, none, none, none, none, none, none] = [some (.ref a), some (.int sg), some (.int t), some (.int b), some (.int (edgeN : Nat)), some (.int M), some (.int e), none, none, none, none, none, none, none] ∧ H = H ∧ ((M = 0 ∧ Nrm t b 0 (-1074)) ∨ (0 < M ∧ Nrm t b M e)) := fun z => by
            refine ⟨_, _, rfl, rfl, .inr ⟨hpos, ?_⟩⟩
            rw [same z, show p - (i : Int) = e by omega]
            exact N.nrm
          walk_at "f"
          refine g_yes (by omega) ?_
          walk_at "f"
          refine g_II (shl_small (by decide) (by decide) (lt_pow_mono (a := 1) (by decide) (by decide))) ?_
          rw [pow52]
          walk_at "f"
          with_reducible refine g_ite (fun h1 => ?_) fun h1 => ?_
          · walk_at "f"
            refine g_ite (fun h2 => ?_) fun h2 => ?_
            · walk_at "f"
              refine g_wbody ?_
              have hlt : i < v := by
                rcases Nat.lt_or_ge i v with z | z
                · exact z
                · have := same (by omega)
                  omega
              walk_at "f"
              refine g_mulI (.of_right (by decide)) ?_
              walk_at "f"
              refine ⟨m - 1, by omega, i + 1, y * 2, by omega, by rw [hy, Nat.pow_succ, Nat.mul_assoc], ?_, rfl⟩
              have e1 : ((y : Nat) : Int) * 2 = ((y * 2 : Nat) : Int) := by omega
              rw [e1, show p - (i : Int) - 1 = p - ((i + 1 : Nat) : Int) by omega]
              rfl
            · walk_at "f"
              exact fin (by omega)
          · walk_at "f"
            refine fin ?_
            rcases Nat.lt_or_ge i v with z | z
            · have := full z
              omega
            · omega
      · rintro _ _ ⟨M, e, rfl, rfl, hM⟩
        walk_at "f"
        refine g_cut (fun σ' H2 => ∃ (M : Nat) (e : Int), σ' = [some (.ref a), some (.int sg), some (.int t), some (.int b), some (.int (edgeN : Nat)), some (.int M), some (.int e), none, none, none, none, none, none, none] ∧ H = H2 ∧ Nrm t b M e) ?_ ?_
        · walk_at "f"
          refine g_ite (fun h1 => ?_) fun h1 => ?_
          · walk_at "f"
            rcases hM with ⟨rfl, hz⟩ | ⟨h2, _⟩
            · exact ⟨0, -1074, rfl, rfl, hz⟩
            · omega
          · walk_at "f"
            rcases hM with ⟨rfl, hz⟩ | ⟨h2, hz⟩
            · exact absurd rfl h1
            · exact ⟨M, e, rfl, rfl, hz⟩
        · clear hM
          rintro _ _ ⟨M, e, rfl, rfl, N⟩
          have N1 := N.lt
          have N2 := N.lo
          have N3 := N.hi
          walk_at "f"
          refine g_mulI (.of_left (by decide)) ?_
          walk_at "f"
          refine g_mulI (.of_left (by decide)) ?_
          walk_at "f"
          refine ⟨_, _, rfl, by omega, by omega, lt_pow_mono (a := 60) (by omega) (by decide), fun H1 l1 n1 s1 h1 => ?_⟩
          walk_at "f"
          refine ⟨_, _, rfl, by omega, by omega, lt_pow_mono (a := 60) (by omega) (by decide), fun H2 l2 n2 s2 h2 => ?_⟩
          have h1 := s2 _ _ h1
          walk_at "f"
          have smN : ∀ f : Int, -2000 ≤ f → f ≤ 2000 → scN f < 2 ^ 2001 ∧ scD f < 2 ^ 2001 := fun f f1 f2 => by
            unfold scN scD
            split
            · exact ⟨Nat.pow_lt_pow_right (by decide) (by omega), lt_pow_mono (a := 1) (by decide) (by decide)⟩
            · exact ⟨lt_pow_mono (a := 1) (by decide) (by decide), Nat.pow_lt_pow_right (by decide) (by omega)⟩
          have smK : ∀ (k : Int) (f : Int), k.natAbs < 2 ^ 60 → -2000 ≤ f → f ≤ 2000 → (k * (scN f : Nat)).natAbs < 2 ^ 5000 ∧ ((scD f : Nat) : Int).natAbs < 2 ^ 5000 := fun k f hk f1 f2 => by
            obtain ⟨a1, a2⟩ := smN f f1 f2
            refine ⟨?_, by rw [Int.natAbs_natCast]; exact lt_pow_mono a2 (by decide)⟩
            have := natAbs_mul_lt (y := ((scN f : Nat) : Int)) hk (by rw [Int.natAbs_natCast]; exact a1)
            exact lt_pow_mono this (by decide)
          refine g_cut (fun σ' H3 => ∃ (l : Addr) (k D : Int), σ' = [some (.ref a), some (.int sg), some (.int t), some (.int b), some (.int (edgeN : Nat)), some (.int M), some (.int e), some (.int (2 * (M : Int) + 1)), some (.int (2 * (M : Int) - 1)), some (.ref l1), some (.ref l), none, none, none] ∧ Same H2 H3 ∧ H3 l = some (.tup [.int k, .int D]) ∧ k.natAbs < 2 ^ 5000 ∧ D.natAbs < 2 ^ 5000 ∧ LowOk t b M k D) ?_ ?_
          · walk_at "f"
            refine g_II (shl_small (by decide) (by decide) (lt_pow_mono (a := 1) (by decide) (by decide))) ?_
            rw [pow52]
            walk_at "f"
            with_reducible refine g_ite (fun h3 => ?_) fun h3 => ?_
            · walk_at "f"
              refine g_ite (fun h4 => ?_) fun h4 => ?_
              · walk_at "f"
                refine g_mulI (.of_left (by decide)) ?_
                walk_at "f"
                refine ⟨_, _, rfl, by omega, by omega, lt_pow_mono (a := 60) (by omega) (by decide), fun H3 l3 n3 s3 h3' => ?_⟩
                walk_at "f"
                obtain ⟨z1, z2⟩ := smK (4 * (M : Int) - 1) (e - 2) (by omega) (by omega) (by omega)
                exact ⟨l3, _, _, rfl, s3, h3', z1, z2, N.below' (by omega) h4⟩
              · walk_at "f"
                obtain ⟨z1, z2⟩ := smK (2 * (M : Int) - 1) (e - 1) (by omega) (by omega) (by omega)
                exact ⟨l2, _, _, rfl, Same.refl _, h2, z1, z2, N.below hb fun z => h4 z.2⟩
            · walk_at "f"
              obtain ⟨z1, z2⟩ := smK (2 * (M : Int) - 1) (e - 1) (by omega) (by omega) (by omega)
              exact ⟨l2, _, _, rfl, Same.refl _, h2, z1, z2, N.below hb fun z => h3 (by rw [z.1]; rfl)⟩
          · rintro _ H3 ⟨l, k, D, rfl, s3, h3, k1, k2, low⟩
            have h1 := s3 _ _ h1
            have tm : ((t : Nat) : Int).natAbs < 2 ^ BN := by rw [Int.natAbs_natCast]; exact ht6
            have bm : ((b : Nat) : Int).natAbs < 2 ^ BN := by rw [Int.natAbs_natCast]; exact hb6
            obtain ⟨ab1, ab2⟩ := N.above
            walk_at "f"
            refine g_ixT h1 rfl ?_
            obtain ⟨hi1, hi2⟩ := smK (2 * (M : Int) + 1) (e - 1) (by omega) (by omega) (by omega)
            refine g_mulI (mul_small (lt_pow_mono tm (by decide)) (lt_pow_mono hi2 (by decide))) ?_
            walk_at "f"
            refine g_ixT h1 rfl ?_
            walk_at "f"
            refine g_mulI (mul_small (lt_pow_mono hi1 (by decide)) (lt_pow_mono bm (by decide))) ?_
            walk_at "f"
            refine g_ixT h3 rfl ?_
            refine g_mulI (mul_small (lt_pow_mono tm (by decide)) (lt_pow_mono k2 (by decide))) ?_
            walk_at "f"
            refine g_ixT h3 rfl ?_
            walk_at "f"
            refine g_mulI (mul_small (lt_pow_mono k1 (by decide)) (lt_pow_mono bm (by decide))) ?_
            walk_at "f"
            refine g_modI (by decide) ?_
            walk_at "f"
            have em : (M : Int).fmod 2 = ((M % 2 : Nat) : Int) := by rw [Int.fmod_eq_emod_of_nonneg _ (by decide)]; rfl
            rw [em]
            have ek : ((2 * M + 1 : Nat) : Int) = 2 * (M : Int) + 1 := by omega
            rw [ek] at ab1 ab2
            have Sall : Same H H3 := (s1.trans s2).trans s3
            have ev : M % 2 = 0 → (((M % 2 : Nat) : Int) = 0) := fun z => by rw [z]; rfl
            generalize ((t : Int) * (scD (e - 1) : Nat) - (2 * (M : Int) + 1) * (scN (e - 1) : Nat) * (b : Int)) = ab at *
            unfold LowOk at low
            generalize ((t : Int) * D - k * (b : Int)) = be at *
            have last : Q (.bl true) H3 := q _ Sall
            refine g_cutT (fun c H' => c = false ∧ H3 = H') ?_ ?_
            · walk_at "f"
              refine g_no ab1 ?_
              walk_at "f"
              refine g_ite (fun h5 => ?_) fun h5 => ?_
              · walk_at "f"
                rw [decide_eq_true (ev (ab2 h5))]
                exact ⟨rfl, rfl⟩
              · exact ⟨rfl, rfl⟩
            · rintro _ _ ⟨rfl, rfl⟩
              walk_at "f"
              refine g_ite (fun h5 => ?_) fun h5 => ?_
              · exact last
              · rcases low with z | ⟨z1, z2⟩
                · exact absurd z h5
                · walk_at "f"
                  refine g_yes z1 ?_
                  walk_at "f"
                  rw [decide_eq_true (ev z2)]
                  exact last
end
end Up

set_option Elab.async false
set_option linter.all false
set_option pp.maxSteps 600
set_option maxRecDepth 100000
set_option maxHeartbeats 4000000
set_option exponentiation.threshold 200000
namespace Up
open PySem PySem.Spec PyProof.Rows L2
local macro_rules | `(tactic| walk_at "u") => `(tactic| first
  | with_reducible refine g_seq ?_
  | with_reducible refine g_asg ?_
  | with_reducible refine g_op ?_
  | ((with_reducible show tVar _ _ _ _); apply g_var; exact rfl)
  | with_reducible refine g_c ?_
  | with_reducible refine g_name ?_
  | with_reducible refine g_ifs ?_
  | with_reducible refine g_tt ?_
  | with_reducible refine g_tB ?_
  | with_reducible refine g_bl ?_
  | with_reducible refine g_ret ?_
  | with_reducible refine g_cb ?_
  | with_reducible refine g_cons ?_
  | with_reducible refine g_nil ?_
  | with_reducible refine g_call ?_
  | with_reducible refine g_and ?_
  | with_reducible refine g_or ?_
  | with_reducible refine g_not ?_
  | with_reducible refine g_andV ?_
  | with_reducible refine g_orV ?_
  | with_reducible refine g_notV ?_
  | with_reducible refine g_if ?_
  | with_reducible refine g_un ?_
  | with_reducible refine g_neg ?_
  | with_reducible refine g_addI ?_
  | with_reducible refine g_subI ?_
  | with_reducible refine g_subB ?_
  | with_reducible refine g_I0 ?_
  | with_reducible refine g_cmpI ?_
  | with_reducible refine g_eqI ?_
  | with_reducible refine g_neI ?_
  | with_reducible refine g_eqS ?_
  | with_reducible refine g_neS ?_
  | with_reducible refine g_eqB ?_
  | with_reducible refine g_neB ?_
  | with_reducible refine g_bits ?_
  | with_reducible refine g_bitsI ?_
  | with_reducible refine g_fld ?_
  | with_reducible refine g_tup ?_
  | with_reducible refine g_lst ?_
  | with_reducible refine g_gtup ?_
  | with_reducible refine g_make ?_
  | with_reducible refine g_lc ?_
  | with_reducible refine g_yesT ?_
  | with_reducible refine g_intI ?_
  | with_reducible refine g_intB ?_
  | with_reducible refine g_max2 ?_
  | with_reducible refine g_abs1 ?_
  | with_reducible refine g_for ?_
  | with_reducible refine g_iList ?_
  | with_reducible refine g_iTup ?_
  | with_reducible refine g_iRng1 ?_
  | with_reducible refine g_iEnum ?_
  | with_reducible refine g_slice ?_
  | with_reducible refine g_po0 ?_
  | with_reducible refine g_po1 ?_
  | with_reducible refine g_gsub ?_
  | with_reducible refine g_par ?_
  | with_reducible refine g_par2 ?_
  | with_reducible refine g_rfl ?_
  | with_reducible refine g_meth ?_
  | with_reducible refine g_gcons ?_
  | with_reducible refine g_gnil ?_
  | with_reducible refine g_gfld ?_
  | with_reducible refine g_sfld ?_
  | with_reducible refine g_drop ?_
  | with_reducible refine g_next ?_
  | with_reducible refine iteT ?_
  | with_reducible refine iteF ?_)
local macro_rules | `(tactic| walk_at "go") => `(tactic| (repeat walk_at "u"))

section
variable {P : Program} {w : World} {K : PySem.W.Frag} {mg : Str → Option Value} {base : Heap}
/-! wrapped -/
theorem sc_wrapped : FnScope ["number"] ["number"] (defScope s_wrapped) := ⟨rfl, rfl, rfl, by decide +kernel, rfl, by decide +kernel, by decide +kernel⟩
def wrapI (n : Int) : Int := (n + 9223372036854775808).fmod 18446744073709551616 - 9223372036854775808
def sp_wrapped : Sp := fun vs H Q _ => ∃ n, vs = [.int n] ∧ Q (.int (wrapI n)) H
theorem ok_wrapped {f : Addr} {fd : FuncData} (F : FunD K "wrapped" "wrapped" (defArgs s_wrapped) (defBody s_wrapped) (defScope s_wrapped) [] [] f fd) : FnOk P w K mg base CX0 1 f fd ["number"] sp_wrapped := by
  refine F.ok sc_wrapped (fun vs H Q E h => ?_) (fun cdv A outer s H vs Q E hr h => ?_)
  · obtain ⟨_, rfl, _⟩ := h; rfl
  · obtain ⟨n, rfl, q⟩ := h
    refine ⟨_, PSs.nox (pss_one (ps_ret (pe_op op_oSub (pe_op op_oMod (pe_op op_oAdd (pv 0) (pe_op op_oPow pe_int pe_int)) (pe_op op_oPow pe_int pe_int)) (pe_op op_oPow pe_int pe_int)))), ?_⟩
    have e63 : (2 : Int) ^ Int.toNat 63 = 9223372036854775808 := by decide
    have e64 : (2 : Int) ^ Int.toNat 64 = 18446744073709551616 := by decide
    walk_at "go"
    refine g_II ⟨by decide, by decide, by decide⟩ ?_
    rw [e63]
    walk_at "go"
    refine g_II ⟨by decide, by decide, by decide⟩ ?_
    rw [e64]
    refine g_modI (by decide) ?_
    walk_at "go"
    refine g_II ⟨by decide, by decide, by decide⟩ ?_
    rw [e63]
    walk_at "go"
    exact q
end
end Up

set_option Elab.async false
set_option linter.all false
set_option pp.maxSteps 700
set_option maxRecDepth 100000
set_option maxHeartbeats 4000000
set_option exponentiation.threshold 200000
namespace Up
open PySem PySem.Spec PyProof.Rows L2
local macro_rules | `(tactic| walk_at "u") => `(tactic| first
  | with_reducible refine g_seq ?_
  | with_reducible refine g_asg ?_
  | with_reducible refine g_op ?_
  | ((with_reducible show tVar _ _ _ _); apply g_var; exact rfl)
  | with_reducible refine g_c ?_
  | with_reducible refine g_name ?_
  | with_reducible refine g_ifs ?_
  | with_reducible refine g_tt ?_
  | with_reducible refine g_tB ?_
  | with_reducible refine g_bl ?_
  | with_reducible refine g_ret ?_
  | with_reducible refine g_cb ?_
  | with_reducible refine g_cons ?_
  | with_reducible refine g_nil ?_
  | with_reducible refine g_call ?_
  | with_reducible refine g_and ?_
  | with_reducible refine g_or ?_
  | with_reducible refine g_not ?_
  | with_reducible refine g_andV ?_
  | with_reducible refine g_orV ?_
  | with_reducible refine g_notV ?_
  | with_reducible refine g_if ?_
  | with_reducible refine g_un ?_
  | with_reducible refine g_neg ?_
  | with_reducible refine g_addI ?_
  | with_reducible refine g_subI ?_
  | with_reducible refine g_subB ?_
  | with_reducible refine g_I0 ?_
  | with_reducible refine g_cmpI ?_
  | with_reducible refine g_eqI ?_
  | with_reducible refine g_neI ?_
  | with_reducible refine g_eqS ?_
  | with_reducible refine g_neS ?_
  | with_reducible refine g_eqB ?_
  | with_reducible refine g_neB ?_
  | with_reducible refine g_bits ?_
  | with_reducible refine g_bitsI ?_
  | with_reducible refine g_fld ?_
  | with_reducible refine g_tup ?_
  | with_reducible refine g_lst ?_
  | with_reducible refine g_gtup ?_
  | with_reducible refine g_make ?_
  | with_reducible refine g_lc ?_
  | with_reducible refine g_yesT ?_
  | with_reducible refine g_intI ?_
  | with_reducible refine g_intB ?_
  | with_reducible refine g_max2 ?_
  | with_reducible refine g_abs1 ?_
  | with_reducible refine g_for ?_
  | with_reducible refine g_iList ?_
  | with_reducible refine g_iTup ?_
  | with_reducible refine g_iRng1 ?_
  | with_reducible refine g_iEnum ?_
  | with_reducible refine g_slice ?_
  | with_reducible refine g_po0 ?_
  | with_reducible refine g_po1 ?_
  | with_reducible refine g_gsub ?_
  | with_reducible refine g_par ?_
  | with_reducible refine g_par2 ?_
  | with_reducible refine g_rfl ?_
  | with_reducible refine g_meth ?_
  | with_reducible refine g_gcons ?_
  | with_reducible refine g_gnil ?_
  | with_reducible refine g_gfld ?_
  | with_reducible refine g_sfld ?_
  | with_reducible refine g_drop ?_
  | with_reducible refine g_next ?_
  | with_reducible refine iteT ?_
  | with_reducible refine iteF ?_)
local macro_rules | `(tactic| walk_at "go") => `(tactic| (repeat walk_at "u"))
local macro_rules | `(tactic| walk_at "f") => `(tactic| (repeat (first
  | walk_at "u"
  | with_reducible refine g_chain ?_
  | with_reducible refine g_par3 ?_
  | with_reducible refine g_par3' ?_
  | ((with_reducible refine show_ex ?_); first
    | refine fT (by assumption) (by assumption) ?_
    | refine fS (by assumption) (by assumption) ?_
    | refine fP (by assumption) (by assumption) ?_))))

section
variable {P : Program} {w : World} {K : PySem.W.Frag} {mg : Str → Option Value} {base : Heap} {C : Addr}
theorem all_filt (l b : List Nat) : ((l.filter fun c => !decide (c ∈ b)).map fun c => V.str ⟨#[c]⟩).isEmpty = l.all fun c => decide (c ∈ b) := by
  induction l with
  | nil => rfl
  | cons x r ih =>
    rw [List.filter_cons, List.all_cons]
    by_cases y : x ∈ b
    · rw [decide_eq_true y, Bool.true_and]
      exact ih
    · rw [decide_eq_false y, Bool.false_and]
      rfl
theorem all_mem {p : Nat → Bool} {l b : List Nat} (h : ∀ c, decide (c ∈ b) = p c) : (l.all fun c => decide (c ∈ b)) = l.all p := by
  congr 1
  exact funext h
theorem sc_ismadeof : FnScope ["text", "signs", "sign"] ["text", "signs"] (defScope s_ismadeof) := ⟨rfl, rfl, rfl, by decide +kernel, rfl, by decide +kernel, by decide +kernel⟩
def sp_ismade : Sp := fun vs H Q _ => ∃ l b : List Nat, vs = [.str (Sx l), .str (Sx b)] ∧ l.length ≤ 20000 ∧ ∀ H', Same H H' → Q (.bl (l.all fun c => decide (c ∈ b))) H'
theorem ok_ismade {f : Addr} {fd : FuncData} (F : FunD K "is_made_of" "is_made_of" (defArgs s_ismadeof) (defBody s_ismadeof) (defScope s_ismadeof) [] [] f fd) (B : Blt mg) : FnOk P w K mg base CX0 1 f fd ["text", "signs"] sp_ismade := by
  refine F.ok sc_ismadeof (fun vs H Q E h => ?_) (fun cdv A outer s H vs Q E hr h => ?_)
  · obtain ⟨_, _, rfl, _⟩ := h; rfl
  · obtain ⟨l, b, rfl, hl, q⟩ := h
    refine ⟨_, PSs.nox (pss_one (ps_ret (pe_cmpR (op_eqE hr.units) (pe_lc (own := [("sign", 2)]) (g := gName 2) rfl sc_ismadeof.nd (pi_str (pv 0)) (blkOk_by (own := [("sign", 2)]) (N := ["text", "signs", "sign"]) (sc := defScope s_ismadeof) (by decide +kernel)) (fun _ _ _ _ _ => pg_name (i := 2) sc_ismadeof.nd rfl (Or.inl rfl)) (fun _ _ _ _ _ => (pts_one (pt_cmpR op_notIn_str (pv 2) (pv 1) (by rfl)))) (fun _ _ _ _ _ => (pv 2))) (pe_lstN pa_nil) (nomark _)))), ?_⟩
    walk_at "f"
    refine g_iStr ?_
    walk_at "f"
    refine ⟨_, rfl, fun D nD => lc_it walk_str (fun i H' => i ≤ l.length ∧ H' D = some (.lst (((l.take i).filter fun c => !decide (c ∈ b)).map fun c => V.str ⟨#[c]⟩)) ∧ Same H H') ⟨Nat.zero_le _, upd_same, upd_sm (Same.refl _) nD⟩ (fun _ _ _ _ => trivial) ?_ ?_⟩
    · rintro i x H3 _ hi ⟨hil, d1, d2⟩ ⟨rfl, c, hc, rfl⟩
      have hc : l[i]? = some c := by rw [← Sx_cps l]; rw [Array.getElem?_toList]; exact hc
      have hi2 : i < l.length := by
        by_cases y : i < l.length
        · exact y
        · rw [List.getElem?_eq_none (by omega)] at hc; cases hc
      have et : (l.take (i + 1)).filter (fun c => !decide (c ∈ b)) = (l.take i).filter (fun c => !decide (c ∈ b)) ++ (if c ∈ b then [] else [c]) := by
        rw [List.take_add_one, hc, List.filter_append]
        congr 1
        by_cases y : c ∈ b <;> simp [y]
      walk_at "f"
      refine ⟨rfl, ?_⟩
      walk_at "f"
      refine ⟨_, _, rfl, rfl, ?_⟩
      rw [in_one]
      by_cases y : c ∈ b
      · rw [if_pos y, List.append_nil] at et
        rw [decide_eq_true y]
        walk_at "f"
        exact ⟨hi2, by rw [et]; exact d1, d2⟩
      · rw [if_neg y] at et
        rw [decide_eq_false y]
        walk_at "f"
        refine g_nf ?_
        walk_at "f"
        refine ⟨_, d1, Nat.lt_of_le_of_lt (show _ ≤ 20000 by rw [List.length_map]; exact Nat.le_trans (List.length_filter_le _ _) (by rw [List.length_take]; omega)) (by decide), hi2, ?_, upd_sm d2 nD⟩
        rw [upd_same, et, List.map_append]
        rfl
    · rintro H3 ⟨_, d1, d2⟩
      walk_at "f"
      refine g_new (sz rfl) fun a H4 na s4 ha _ => ?_
      refine g_eqE (s4 _ _ d1) ha ?_
      have e : (Sx l).cps.size = l.length := by show l.toArray.size = _; simp
      rw [e, List.take_of_length_le (Nat.le_refl _)]
      have e2 := all_filt l b
      rw [e2]
      exact q _ (d2.trans s4)
/-! figures of sixteen -/
def hxV (c : Nat) : Nat := if c ≤ 57 then c - 48 else c - 87
def hexN (l : List Nat) : Nat := l.foldl (fun n c => (n * 16 + hxV c) % 18446744073709551616) 0
def rdHex (neg : Bool) (l : List Nat) : Option Int := if l = [] ∨ l.all isX = false then none else some (wrapI (if neg = true then 0 - (hexN l : Nat) else (hexN l : Nat)))
def optV : Option Int → V
  | none => .non
  | some i => .int i
theorem hex_at {c : Nat} (h : isX c = true) : ∃ rest, Builtin.Str.occurrences ("0123456789abcdef" : Str) (⟨#[c]⟩ : Str) 0 ("0123456789abcdef" : Str).length 1 = hxV c :: rest := by
  have : c ∈ [48, 49, 50, 51, 52, 53, 54, 55, 56, 57, 97, 98, 99, 100, 101, 102] := by
    have := mem_hx (c := c)
    rw [h] at this
    exact of_decide_eq_true this
  simp only [List.mem_cons, List.not_mem_nil, or_false] at this
  rcases this with rfl | rfl | rfl | rfl | rfl | rfl | rfl | rfl | rfl | rfl | rfl | rfl | rfl | rfl | rfl | rfl <;> exact ⟨[], by decide +kernel⟩
abbrev CMade (P : Program) (w : World) (K : PySem.W.Frag) (mg : Str → Option Value) (base : Heap) : Prop := Fn P w K mg base CX0 1 "is_made_of" ["text", "signs"] [] sp_ismade
theorem sc_readhex : FnScope ["is_negative", "text", "number", "sign"] ["is_negative", "text"] (defScope s_readhex) := ⟨rfl, rfl, rfl, by decide +kernel, rfl, by decide +kernel, by decide +kernel⟩
def sp_readhex : Sp := fun vs H Q _ => ∃ (n : Bool) (l : List Nat), vs = [.bl n, .str (Sx l)] ∧ l.length ≤ 20000 ∧ ∀ H', Same H H' → Q (optV (rdHex n l)) H'
theorem ok_readhex {f : Addr} {fd : FuncData} (F : FunD K "read_hex" "read_hex" (defArgs s_readhex) (defBody s_readhex) (defScope s_readhex) [] [] f fd) (B : Blt mg) (i_HEX : ∃ t, mg "HEX" = some (.str "0123456789abcdef" t)) (c_ismadeof : CMade P w K mg base) (c_wrapped : Fn P w K mg base CX0 1 "wrapped" ["number"] [] sp_wrapped) : FnOk P w K mg base CX0 2 f fd ["is_negative", "text"] sp_readhex := by
  refine F.ok sc_readhex (fun vs H Q E h => ?_) (fun cdv A outer s H vs Q E hr h => ?_)
  · obtain ⟨_, _, rfl, _⟩ := h; rfl
  · obtain ⟨neg, l, rfl, hl, q⟩ := h
    refine ⟨_, PSs.nox (pss_cons (ps_if (pt_cut (PW.pt (pw_or (pt_cmpR (op_oEq hr.units) (pv 1) pe_str (nomark _)) (pw_or1 (pt_not (pt_val (pe_fn c_ismadeof (hr.mono (by first | decide | omega)) pass0 (pa_cons (pv 1) (pa_cons (pe_gstr i_HEX) pa_nil))))))))) (pss_one (ps_ret pe_non)) pss_nil)
  (pss_cons (ps_set (i := 2) sc_readhex.nd rfl (Or.inl rfl) pe_int)
  (pss_cons (ps_for PassesOwn.never rfl (pi_str (pv 1)) (pg_name (i := 3) sc_readhex.nd rfl (Or.inl rfl))
    (pss_one (ps_set (i := 2) sc_readhex.nd rfl (Or.inl rfl) (pe_op op_oMod (pe_op op_oAdd (pe_op op_oMul (pv 2) pe_int) (pe_m1 PySem.F.slot_str_index PySem.F.type_str_index mt_sindex (pe_gstr i_HEX) (pv 3))) (pe_op op_oPow pe_int pe_int)))))
  (pss_one (ps_ret (pe_fn c_wrapped (hr.mono (by first | decide | omega)) pass0 (pa_cons (pe_cut (pe_ifExp (pt_val (pv 0)) (pe_op op_oSub pe_int (pv 2)) (pv 2))) pa_nil))))))), ?_⟩
    walk_at "f"
    refine g_cutT (fun b H' => Same H H' ∧ b = (decide (l = []) || !l.all isX)) ?_ ?_
    · walk_at "f"
      rw [litN]
      refine g_ite (fun h1 => ?_) fun h1 => ?_
      · have : l = [] := Sx_inj.mp h1
        subst this
        exact ⟨Same.refl _, rfl⟩
      · have h1 : l ≠ [] := fun z => h1 (by rw [z])
        walk_at "f"
        rw [litH]
        refine ⟨l, _, rfl, hl, fun H1 s1 => ?_⟩
        rw [all_mem (fun c => mem_hx)]
        rw [decide_eq_false h1, Bool.false_or]
        walk_at "f"
        cases l.all isX <;> exact ⟨s1, rfl⟩
    · rintro _ H1 ⟨s1, rfl⟩
      refine g_iteb (fun hb => ?_) fun hb => ?_
      · walk_at "f"
        have e : rdHex neg l = none := by
          unfold rdHex
          refine if_pos ?_
          simp only [Bool.or_eq_true, decide_eq_true_eq, Bool.not_eq_true'] at hb
          exact hb
        have := q H1 s1
        rw [e] at this
        exact this
      · have hb2 : ¬ (l = [] ∨ l.all isX = false) := fun z => by
          have : (decide (l = []) || !l.all isX) = true := by
            rcases z with z | z
            · rw [decide_eq_true z]; rfl
            · rw [z]; simp
          rw [this] at hb; cases hb
        have hall : ∀ c ∈ l, isX c = true := fun c hc => by
          have : l.all isX = true := by
            cases e : l.all isX with
            | true => rfl
            | false => exact absurd (.inr e) hb2
          exact List.all_eq_true.mp this c hc
        have e : rdHex neg l = some (wrapI (if neg = true then 0 - (hexN l : Nat) else (hexN l : Nat))) := if_neg hb2
        have q := q H1 s1
        rw [e] at q
        have esz : (Sx l).cps.size = l.length := by show l.toArray.size = _; simp
        walk_at "f"
        refine g_iStr ?_
        walk_at "f"
        refine ⟨_, rfl, ?_⟩
        refine for_str (fun i σ' H' => i ≤ l.length ∧ H1 = H' ∧ ∃ e4, σ' = [some (.bl neg), some (.str (Sx l)), some (.int (hexN (l.take i) : Nat)), e4]) ⟨Nat.zero_le _, rfl, _, rfl⟩ ?_ ?_
        · rintro i c _ _ hc ⟨hi, rfl, e4, rfl⟩
          have hc : l[i]? = some c := by rw [← Sx_cps l]; rw [Array.getElem?_toList]; exact hc
          have hi2 : i < l.length := by
            by_cases y : i < l.length
            · exact y
            · rw [List.getElem?_eq_none (by omega)] at hc; cases hc
          have et : hexN (l.take (i + 1)) = (hexN (l.take i) * 16 + hxV c) % 18446744073709551616 := by
            unfold hexN
            rw [List.take_add_one, hc, List.foldl_append]
            rfl
          obtain ⟨rest, ho⟩ := hex_at (hall c (List.mem_of_getElem? hc))
          have hlt : hexN (l.take i) < 18446744073709551616 := by
            cases i with
            | zero => exact show 0 < 18446744073709551616 by decide
            | succ i =>
              unfold hexN
              rw [List.take_add_one]
              obtain ⟨d, hd⟩ : ∃ d, l[i]? = some d := ⟨_, List.getElem?_eq_getElem (by omega)⟩
              rw [hd, List.foldl_append]
              exact Nat.mod_lt _ (by decide)
          walk_at "f"
          refine g_mulI (.of_right (by decide)) ?_
          walk_at "f"
          refine g_m1 ?_
          walk_at "f"
          refine ⟨⟨_, rfl⟩, ?_⟩
          walk_at "f"
          refine ⟨_, _, _, rest, rfl, rfl, ho, ?_⟩
          walk_at "f"
          refine g_II ⟨by decide, by decide, by decide⟩ ?_
          walk_at "f"
          refine g_modI (by decide) ?_
          walk_at "f"
          refine ⟨hi2, rfl, some (.str ⟨#[c]⟩), ?_⟩
          have e2 : (2 : Int) ^ (64 : Int).toNat = ((18446744073709551616 : Nat) : Int) := by decide
          rw [e2, et, Int.fmod_eq_emod_of_nonneg _ (by decide)]
          rfl
        · rintro _ _ ⟨_, rfl, e4, rfl⟩
          walk_at "f"
          rw [esz, List.take_of_length_le (Nat.le_refl _)]
          refine g_cutE (fun v H' => v = .int (if neg = true then 0 - (hexN l : Nat) else (hexN l : Nat)) ∧ H1 = H') ?_ ?_
          · walk_at "f"
            cases neg
            · refine iteF ?_
              walk_at "f"
              exact ⟨rfl, rfl⟩
            · refine iteT ?_
              walk_at "f"
              exact ⟨rfl, rfl⟩
          · rintro _ _ ⟨rfl, rfl⟩
            walk_at "f"
            exact ⟨_, rfl, q⟩
end
end Up

set_option Elab.async false
set_option linter.all false
set_option maxRecDepth 100000
namespace Up
open PySem PySem.Spec PyProof.Rows L2 PySem.W PySem.W.KIN PySem.NumText PySem.Calls
/-! ### int(text) of more than 640 figures -/
theorem lim_step {M : Model} {A : Around} {E : Value → Shared → Prop} {s : Shared} {Q : Nat → Shared → Prop} {K : PySem.W.Frag} (X : K.In s.heap) (hk : PySem.W.nsIn K cStatics "sys.int_max_str_digits" = some none) (q : Q 4300 s) :
    wpAny M A Builtin.intMaxStrDigits Q E s := by
  unfold Builtin.intMaxStrDigits
  exact Looks.here (Looks.andThen (looks_nsIn X hk) .now) q
theorem wp_textL {M : Model} {A : Around} {E : Value → Shared → Prop} {s : Shared} {Q : Value → Shared → Prop} {v : Value} {text : List Nat} {n : Int} {K : PySem.W.Frag} (X : K.In s.heap) (hk : PySem.W.nsIn K cStatics "sys.int_max_str_digits" = some none)
    (hs : ¬ (text.takeWhile (· != 0)).length ≤ 640) (hr : (int_private% "readNumeral") 4300 10 (text.takeWhile (· != 0)) = (int_private% "Numeral.value") n)
    (ha : ((text.takeWhile (· != 0)).length == text.length) = true) (h : Q (.int n s.toks) { s with toks := s.toks + 1 }) :
    wpAny M A ((int_private% "intFromText") v text 10) Q E s := by
  obtain ⟨hp, g, d, tk, os⟩ := s
  repeat (any_goals (first
    | assumption
    | (with_reducible refine wpAny_ite_false (decide_eq_false hs) ?_)
    | (with_reducible refine wpAny_ite_true (decide_eq_true ha) ?_)
    | (with_reducible refine lim_step X hk ?_)
    | wp_step))
  all_goals (try rw [hr])
  all_goals (try dsimp only)
  repeat (any_goals (first
    | assumption
    | (with_reducible refine wpAny_ite_true (decide_eq_true ha) ?_)
    | wp_step))
structure HidL (p : Prop) : Prop where
  out : p
set_option maxHeartbeats 4000000 in
theorem new_textL {x : PySem.Str} {u : Tok} {n : Int} {K : PySem.W.Frag} (hk0 : PySem.W.nsIn K cStatics "sys.int_max_str_digits" = some none) (hl : x.length ≤ sizeLine) (hn : PySem.intText? x = some n) (M : Model) (A : Around) (E : Value → Shared → Prop) (s : Shared) (Q : Value → Shared → Prop)
    (X : K.In s.heap) (h : Q (.int n s.toks) { s with toks := s.toks + 1 }) : wpAny M A (Builtin.«int.__new__» ⟨[.type "int", .str x u], []⟩) (fun fin s' => ∃ v, fin = .done (.ret v) ∧ Q v s') E s := by
  by_cases hs : (numSeenOf x).length ≤ 640
  · obtain ⟨hp, g, d, tk, os⟩ := s
    have f1 := F.conv_sub_int
    have f2 := F.madeHere_int
    have f3 := str_int
    have f4 := str_idx
    have f5 := str_trunc
    have f6 : typeOf (.str x u) = pure (.type "str") := rfl
    have hr : (int_private% "readNumeral") 0 10 (numSeenOf x) = (int_private% "Numeral.value") n ∧ ((numSeenOf x).length == (numTextOf x).length) = true := by
      rcases read0 x hs with ⟨m, h1, h2, h3⟩ | ⟨h1, _⟩
      · rw [hn] at h1
        injection h1 with h1
        subst h1
        exact ⟨h3, h2⟩
      · rw [hn] at h1
        cases h1
    have hk := HidL.mk (And.intro hs hr)
    clear hs hr hl hn
    repeat (any_goals (first
      | assumption
      | ((with_reducible show wpAny _ _ ((int_private% "intFromText") _ _ _) _ _ _); refine wp_text hk.out.1 hk.out.2.1 hk.out.2.2 ?_)
      | wp_step))
    all_goals first | exact ⟨_, rfl, h⟩ | skip
  · obtain ⟨hp, g, d, tk, os⟩ := s
    have f1 := F.conv_sub_int
    have f2 := F.madeHere_int
    have f3 := str_int
    have f4 := str_idx
    have f5 := str_trunc
    have f6 : typeOf (.str x u) = pure (.type "str") := rfl
    have hr : (int_private% "readNumeral") 4300 10 (numSeenOf x) = (int_private% "Numeral.value") n ∧ ((numSeenOf x).length == (numTextOf x).length) = true := by
      rcases read4300 x hl with ⟨m, h1, h2, h3⟩ | ⟨h1, _⟩
      · rw [hn] at h1
        injection h1 with h1
        subst h1
        exact ⟨h3, h2⟩
      · rw [hn] at h1
        cases h1
    have hk := HidL.mk (And.intro hs hr)
    have hx := HidL.mk (And.intro X hk0)
    clear hs hr hl hn X hk0
    repeat (any_goals (first
      | assumption
      | ((with_reducible show wpAny _ _ ((int_private% "intFromText") _ _ _) _ _ _); refine wp_textL hx.out.1 hx.out.2 hk.out.1 hk.out.2.1 hk.out.2.2 ?_)
      | wp_step))
    all_goals first | exact ⟨_, rfl, h⟩ | skip
theorem call_int_strL {X : Cx} (hk : PySem.W.nsIn X.K cStatics "sys.int_max_str_digits" = some none) : CallR X (.type "int") (fun xs H Q => ∃ a n, xs = [.str a] ∧ PySem.intText? a = some n ∧ a.length ≤ sizeLine ∧ Q (.int n) H) := by
  intro pins s σ H xs us Q I rs h
  obtain ⟨a, n, rfl, hn, hl, h⟩ := h
  cases rs with
  | cons r1 rs =>
    cases rs
    obtain ⟨t, rfl⟩ := r1
    have g : Meets (Builtin.«int.__new__» ⟨[.type "int", .str a t], []⟩) (fun A R s => X.K.In s.heap ∧ R (.ok (.ret (.int n s.toks))) { s with toks := s.toks + 1 }) := fun prog w A R s ⟨X0, h0⟩ =>
      wpAny_mono (new_textL hk hl hn _ A.in1 _ s (fun v s' => R (.ok (.ret v)) s') X0 h0) (fun fin s' h' => by obtain ⟨v, rfl, hv⟩ := h'; exact hv) fun _ _ x => x
    exact call_int_1 g ⟨I.kIn, rfl, ⟨.int n, H, I.tok _, ⟨_, rfl⟩, h⟩⟩
end Up

set_option Elab.async false
set_option linter.all false
set_option pp.maxSteps 700
set_option maxRecDepth 100000
set_option maxHeartbeats 4000000
set_option exponentiation.threshold 200000
namespace Up
open PySem PySem.Spec PyProof.Rows L2
local macro_rules | `(tactic| walk_at "u") => `(tactic| first
  | with_reducible refine g_seq ?_
  | with_reducible refine g_asg ?_
  | with_reducible refine g_op ?_
  | ((with_reducible show tVar _ _ _ _); apply g_var; exact rfl)
  | with_reducible refine g_c ?_
  | with_reducible refine g_name ?_
  | with_reducible refine g_ifs ?_
  | with_reducible refine g_tt ?_
  | with_reducible refine g_tB ?_
  | with_reducible refine g_bl ?_
  | with_reducible refine g_ret ?_
  | with_reducible refine g_cb ?_
  | with_reducible refine g_cons ?_
  | with_reducible refine g_nil ?_
  | with_reducible refine g_call ?_
  | with_reducible refine g_and ?_
  | with_reducible refine g_or ?_
  | with_reducible refine g_not ?_
  | with_reducible refine g_andV ?_
  | with_reducible refine g_orV ?_
  | with_reducible refine g_notV ?_
  | with_reducible refine g_if ?_
  | with_reducible refine g_un ?_
  | with_reducible refine g_neg ?_
  | with_reducible refine g_addI ?_
  | with_reducible refine g_subI ?_
  | with_reducible refine g_subB ?_
  | with_reducible refine g_I0 ?_
  | with_reducible refine g_cmpI ?_
  | with_reducible refine g_eqI ?_
  | with_reducible refine g_neI ?_
  | with_reducible refine g_eqS ?_
  | with_reducible refine g_neS ?_
  | with_reducible refine g_eqB ?_
  | with_reducible refine g_neB ?_
  | with_reducible refine g_bits ?_
  | with_reducible refine g_bitsI ?_
  | with_reducible refine g_fld ?_
  | with_reducible refine g_tup ?_
  | with_reducible refine g_lst ?_
  | with_reducible refine g_gtup ?_
  | with_reducible refine g_make ?_
  | with_reducible refine g_lc ?_
  | with_reducible refine g_yesT ?_
  | with_reducible refine g_intI ?_
  | with_reducible refine g_intB ?_
  | with_reducible refine g_max2 ?_
  | with_reducible refine g_abs1 ?_
  | with_reducible refine g_for ?_
  | with_reducible refine g_iList ?_
  | with_reducible refine g_iTup ?_
  | with_reducible refine g_iRng1 ?_
  | with_reducible refine g_iEnum ?_
  | with_reducible refine g_slice ?_
  | with_reducible refine g_po0 ?_
  | with_reducible refine g_po1 ?_
  | with_reducible refine g_gsub ?_
  | with_reducible refine g_par ?_
  | with_reducible refine g_par2 ?_
  | with_reducible refine g_rfl ?_
  | with_reducible refine g_meth ?_
  | with_reducible refine g_gcons ?_
  | with_reducible refine g_gnil ?_
  | with_reducible refine g_gfld ?_
  | with_reducible refine g_sfld ?_
  | with_reducible refine g_drop ?_
  | with_reducible refine g_next ?_
  | with_reducible refine iteT ?_
  | with_reducible refine iteF ?_)
local macro_rules | `(tactic| walk_at "go") => `(tactic| (repeat walk_at "u"))
local macro_rules | `(tactic| walk_at "f") => `(tactic| (repeat (first
  | walk_at "u"
  | with_reducible refine g_chain ?_
  | with_reducible refine g_par3 ?_
  | with_reducible refine g_par3' ?_
  | ((with_reducible refine show_ex ?_); first
    | refine fT (by assumption) (by assumption) ?_
    | refine fS (by assumption) (by assumption) ?_
    | refine fP (by assumption) (by assumption) ?_))))

section
variable {P : Program} {w : World} {K : PySem.W.Frag} {mg : Str → Option Value} {base : Heap} {C : Addr}
abbrev dvN (l : List Nat) : Nat := NumText.digitsVal l
def is48 (c : Nat) : Bool := decide (c = 48)
def sclG (G : List Nat) : List Nat := if 800 < G.length then G.take 800 ++ [if stripL is48 (G.drop 800) = [] then 48 else 49] else G
def sclP (G : List Nat) (pl : Int) : Int := if 800 < G.length then pl + G.length - 801 else pl
def scl (neg : Bool) (G : List Nat) (pl : Int) : FL :=
  if G = [] ∨ (G.length : Int) + pl < -400 then zeroL (sgnB neg) else if 400 < (G.length : Int) + pl then infL (sgnB neg) else
  if 0 ≤ sclP G pl then nearL (sgnB neg) (dvN (sclG G) * 10 ^ (sclP G pl).toNat) 1 else nearL (sgnB neg) (dvN (sclG G)) (10 ^ (0 - sclP G pl).toNat)
theorem sc_scaled : FnScope ["is_negative", "figures", "places", "sign", "top"] ["is_negative", "figures", "places"] (defScope s_scaled) := ⟨rfl, rfl, rfl, by decide +kernel, rfl, by decide +kernel, by decide +kernel⟩
def sp_scaled (C : Addr) : Sp := fun vs H Q _ => ∃ (n : Bool) (G : List Nat) (pl : Int), vs = [.bl n, .str (Sx G), .int pl] ∧ G.length ≤ 20000 ∧ Dg G ∧ pl.natAbs < 2 ^ 64 ∧ RetN C H (scl n G pl) Q
theorem ok_scaled {f : Addr} {fd : FuncData} (F : FunD K "scaled" "scaled" (defArgs s_scaled) (defBody s_scaled) (defScope s_scaled) [] [] f fd) (B : Blt mg) (hD : PySem.W.nsIn K cStatics "sys.int_max_str_digits" = some none) (c_signof : CSign P w K mg base) (c_Float : CnF P w K mg base C) (c_nearest : CNear P w K mg base C) (c_tentimes : Fn P w K mg base CX0 1 "ten_times" ["many"] [] sp_ten) : FnOk P w K mg base CX0 6 f fd ["is_negative", "figures", "places"] (sp_scaled C) := by
  refine F.ok sc_scaled (fun vs H Q E h => ?_) (fun cdv A outer s H vs Q E hr h => ?_)
  · obtain ⟨_, _, _, rfl, _⟩ := h; rfl
  · obtain ⟨n, G, pl, rfl, hl, dg, hp, q⟩ := h
    refine ⟨_, PSs.nox (pss_cons (ps_set (i := 3) sc_scaled.nd rfl (Or.inl rfl) (pe_fn c_signof (hr.mono (by first | decide | omega)) pass0 (pa_cons (pv 0) pa_nil)))
  (pss_cons (ps_if (pt_cut (PW.pt (pw_or (pt_cmpR (op_oEq hr.units) (pv 1) pe_str (nomark _)) (pw_or1 (pt_cmpR op_oLt (pe_op op_oAdd (pe_callB call_len_str (by rfl) B.len (by decide +kernel) (pa_cons (pv 1) pa_nil)) (pv 2)) (pe_un un_neg pe_int) (nomark _)))))) (pss_one (ps_ret (pe_cn c_Float (hr.mono (by first | decide | omega)) pass0 (pa_cons (pv 3) (pa_cons pe_int (pa_cons pe_int pa_nil)))))) pss_nil)
  (pss_cons (ps_if (pt_cmpR op_oGt (pe_op op_oAdd (pe_callB call_len_str (by rfl) B.len (by decide +kernel) (pa_cons (pv 1) pa_nil)) (pv 2)) pe_int (nomark _)) (pss_one (ps_ret (pe_cn c_Float (hr.mono (by first | decide | omega)) pass0 (pa_cons (pv 3) (pa_cons pe_str (pa_cons pe_int pa_nil)))))) pss_nil)
  (C8.pss_cut (ps_if (pt_cmpR op_oGt (pe_callB call_len_str (by rfl) B.len (by decide +kernel) (pa_cons (pv 1) pa_nil)) pe_int (nomark _)) (pss_cons (ps_set (i := 2) sc_scaled.nd rfl (Or.inl rfl) (pe_op op_oSub (pe_op op_oAdd (pv 2) (pe_callB call_len_str (by rfl) B.len (by decide +kernel) (pa_cons (pv 1) pa_nil))) pe_int))
  (pss_one (ps_set (i := 1) sc_scaled.nd rfl (Or.inl rfl) (pe_op op_oAdd (pe_slice sl_str (pv 1) po_none (po_some pe_int)) (pe_cut (pe_ifExp (pt_cmpR (op_oEq hr.units) (pe_m1 PySem.F.slot_str_strip PySem.F.type_str_strip mt_stripChars (pe_slice sl_str (pv 1) (po_some pe_int) po_none) pe_str) pe_str (nomark _)) pe_str pe_str)))))) pss_nil)
  (pss_cons (ps_set (i := 4) sc_scaled.nd rfl (Or.inl rfl) (pe_callTy (call_int_strL hD) (by rfl) B.int (by decide +kernel) (pa_cons (pv 1) pa_nil)))
  (pss_cons (ps_if (pt_cmpR op_oGe (pv 2) pe_int (nomark _)) (pss_one (ps_ret (pe_fn c_nearest (hr.mono (by first | decide | omega)) pass0 (pa_cons (pv 3) (pa_cons (pe_op op_oMul (pv 4) (pe_fn c_tentimes (hr.mono (by first | decide | omega)) pass0 (pa_cons (pv 2) pa_nil))) (pa_cons pe_int pa_nil)))))) pss_nil)
  (pss_one (ps_ret (pe_fn c_nearest (hr.mono (by first | decide | omega)) pass0 (pa_cons (pv 3) (pa_cons (pv 4) (pa_cons (pe_fn c_tentimes (hr.mono (by first | decide | omega)) pass0 (pa_cons (pe_op op_oSub pe_int (pv 2)) pa_nil)) pa_nil)))))))))))), ?_⟩
    have hlS : (Sx G).length ≤ sizeLine := by rw [Sx_len]; exact Nat.le_trans hl (by decide)
    have hsg : sgnB n = 1 ∨ sgnB n = -1 := by cases n <;> simp [sgnB]
    walk_at "f"
    refine ⟨n, rfl, ?_⟩
    walk_at "f"
    refine g_cutT (fun b H' => H = H' ∧ b = decide (G = [] ∨ (G.length : Int) + pl < -400)) ?_ ?_
    · walk_at "f"
      rw [litN]
      refine g_ite (fun h1 => ?_) fun h1 => ?_
      · refine ⟨rfl, ?_⟩
        rw [decide_eq_true (.inl (Sx_inj.mp h1))]
      · have h1 : G ≠ [] := fun z => h1 (by rw [z])
        walk_at "f"
        refine ⟨_, rfl, hlS, ?_⟩
        rw [Sx_len]
        walk_at "f"
        refine ⟨rfl, ?_⟩
        by_cases h2 : (G.length : Int) + pl < -400
        · rw [decide_eq_true h2, decide_eq_true (.inr h2)]
        · rw [decide_eq_false h2, decide_eq_false (fun z => z.elim h1 h2)]
    rintro _ _ ⟨rfl, rfl⟩
    refine g_ite (fun h1 => ?_) fun h1 => ?_
    · have e : scl n G pl = zeroL (sgnB n) := if_pos h1
      rw [e] at q
      walk_at "f"
      exact mkN (zero_mk hsg) q
    · have e1 : scl n G pl = if 400 < (G.length : Int) + pl then infL (sgnB n) else
        if 0 ≤ sclP G pl then nearL (sgnB n) (dvN (sclG G) * 10 ^ (sclP G pl).toNat) 1 else nearL (sgnB n) (dvN (sclG G)) (10 ^ (0 - sclP G pl).toNat) := if_neg h1
      rw [e1] at q
      clear e1
      have gne : G ≠ [] := fun z => h1 (.inl z)
      have glo : ¬ (G.length : Int) + pl < -400 := fun z => h1 (.inr z)
      walk_at "f"
      refine ⟨_, rfl, hlS, ?_⟩
      rw [Sx_len]
      walk_at "f"
      refine g_ite (fun h2 => ?_) fun h2 => ?_
      · rw [if_pos (show 400 < (G.length : Int) + pl by omega)] at q
        walk_at "f"
        exact mkN (⟨hsg, .inr (.inl ⟨rfl, rfl⟩)⟩ : MkOk (sgnB n) (.str "inf") 0) q
      · rw [if_neg (show ¬ 400 < (G.length : Int) + pl by omega)] at q
        walk_at "f"
        refine g_cut (fun σ' H' => H = H' ∧ σ' = [some (.bl n), some (.str (Sx (sclG G))), some (.int (sclP G pl)), some (.int (sgnB n)), none]) ?_ ?_
        · walk_at "f"
          refine ⟨_, rfl, hlS, ?_⟩
          rw [Sx_len]
          walk_at "f"
          refine g_ite (fun h3 => ?_) fun h3 => ?_
          · have h3 : 800 < G.length := by omega
            walk_at "f"
            refine ⟨_, rfl, hlS, ?_⟩
            rw [Sx_len]
            walk_at "f"
            refine ⟨_, rfl, hlS, ?_⟩
            rw [cut_to _ (by decide), show Int.toNat 800 = 800 from rfl]
            refine g_cutE (fun v H' => v = .str (Sx [if stripL is48 (G.drop 800) = [] then 48 else 49]) ∧ H = H') ?_ ?_
            · walk_at "f"
              refine g_m1 ?_
              walk_at "f"
              refine ⟨_, rfl, hlS, ?_⟩
              rw [cut_from _ (by decide), show Int.toNat 800 = 800 from rfl]
              refine ⟨⟨_, rfl⟩, ?_⟩
              walk_at "f"
              refine ⟨_, _, rfl, rfl, by rw [Sx_len, List.length_drop]; exact Nat.le_trans (show _ ≤ 20000 by omega) (by decide), ?_⟩
              rw [strip_z, litN]
              walk_at "f"
              have ew : stripL (fun c => decide (c = 48)) (G.drop 800) = stripL is48 (G.drop 800) := rfl
              rw [ew]
              refine g_ite (fun h4 => ?_) fun h4 => ?_
              · walk_at "f"
                rw [if_pos (Sx_inj.mp h4), lit0]
                exact ⟨rfl, rfl⟩
              · walk_at "f"
                rw [if_neg (fun z => h4 (by rw [z]))]
                exact ⟨by rw [show ("1" : Str) = Sx [49] by decide +kernel], rfl⟩
            · rintro _ _ ⟨rfl, rfl⟩
              walk_at "f"
              refine g_addS (sz (Nat.ble_eq.mpr (by rw [Sx_len, Sx_len, List.length_take]; simp; omega))) ?_
              walk_at "f"
              refine ⟨rfl, ?_⟩
              unfold sclG sclP
              rw [if_pos h3, if_pos h3, Sx_cat]
              rfl
          · have h3 : ¬ 800 < G.length := by omega
            walk_at "f"
            refine ⟨rfl, ?_⟩
            unfold sclG sclP
            rw [if_neg h3, if_neg h3]
            rfl
        · rintro _ _ ⟨rfl, rfl⟩
          have dG : Dg (sclG G) ∧ (sclG G).length ≤ 801 ∧ sclG G ≠ [] := by
            unfold sclG
            by_cases h3 : 800 < G.length
            · rw [if_pos h3]
              refine ⟨fun c hc => ?_, ?_, by simp⟩
              · rcases List.mem_append.mp hc with hc | hc
                · exact dg c (List.mem_of_mem_take hc)
                · rw [List.mem_singleton.mp hc]
                  split <;> omega
              · rw [List.length_append, List.length_take]
                simp only [List.length_cons, List.length_nil]
                omega
            · rw [if_neg h3]
              exact ⟨dg, by omega, gne⟩
          obtain ⟨dG1, dG2, dG3⟩ := dG
          have pB : -1201 ≤ sclP G pl ∧ sclP G pl ≤ 400 := by
            unfold sclP
            split <;> omega
          have hint : intText? (Sx (sclG G)) = some ((dvN (sclG G) : Nat) : Int) := SX.int_S (by
            refine List.all_eq_true.mpr fun c hc => ?_
            have := dG1 c hc
            simp [this]) dG3 (by omega)
          have hlt : dvN (sclG G) < 2 ^ 3300 := Nat.lt_of_lt_of_le (dv_lt dG1) (Nat.le_trans (Nat.pow_le_pow_right (by decide) dG2) (Nat.le_of_lt (Nat.lt_of_lt_of_le (ten_lt 801) (Nat.pow_le_pow_right (by decide) (by decide)))))
          walk_at "f"
          refine ⟨_, _, rfl, hint, by rw [Sx_len]; exact Nat.le_trans dG2 (by decide), ?_⟩
          walk_at "f"
          refine g_ite (fun h3 => ?_) fun h3 => ?_
          · rw [if_pos h3] at q
            obtain ⟨m, em⟩ := Int.eq_ofNat_of_zero_le h3
            rw [em] at q pB ⊢
            walk_at "f"
            refine ⟨m, rfl, by omega, fun H1 s1 => ?_⟩
            walk_at "f"
            refine g_mulI (mul_small (by rw [Int.natAbs_natCast]; exact lt_pow_mono hlt (by decide)) (ten_small (by omega))) ?_
            walk_at "f"
            have et : ((dvN (sclG G) : Nat) : Int) * 10 ^ m = ((dvN (sclG G) * 10 ^ m : Nat) : Int) := by rw [Int.natCast_mul, Int.natCast_pow]; rfl
            rw [et]
            refine ⟨_, dvN (sclG G) * 10 ^ m, 1, rfl, hsg, by decide, bits_le ?_, by decide, (q.later s1).to⟩
            have h1 := ten_lt m
            have h2 : 2 ^ (4 * m + 1) ≤ 2 ^ 1601 := Nat.pow_le_pow_right (by decide) (by omega)
            have h3 : dvN (sclG G) * 10 ^ m < 2 ^ 3300 * 2 ^ 1601 := Nat.mul_lt_mul_of_lt_of_le hlt (by omega) (Nat.two_pow_pos _)
            rw [← Nat.pow_add] at h3
            exact Nat.lt_of_lt_of_le h3 (Nat.pow_le_pow_right (by decide) (by decide))
          · rw [if_neg h3] at q
            obtain ⟨m, em⟩ := Int.eq_ofNat_of_zero_le (show 0 ≤ 0 - sclP G pl by omega)
            rw [em] at q
            walk_at "f"
            rw [em]
            refine ⟨m, rfl, by omega, fun H1 s1 => ?_⟩
            walk_at "f"
            have et : ((10 : Int) ^ m) = ((10 ^ m : Nat) : Int) := by rw [Int.natCast_pow]; rfl
            rw [et]
            refine ⟨_, dvN (sclG G), 10 ^ m, rfl, hsg, Nat.pow_pos (by decide), bits_le (Nat.lt_of_lt_of_le hlt (Nat.pow_le_pow_right (by decide) (by decide))), bits_le (Nat.lt_of_lt_of_le (ten_lt m) (Nat.pow_le_pow_right (by decide) (by omega))), (q.later s1).to⟩
end
end Up

set_option Elab.async false
set_option linter.all false
set_option pp.maxSteps 700
set_option maxRecDepth 100000
set_option maxHeartbeats 4000000
set_option exponentiation.threshold 200000
namespace Up
open PySem PySem.Spec PyProof.Rows L2
local macro_rules | `(tactic| walk_at "u") => `(tactic| first
  | with_reducible refine g_seq ?_
  | with_reducible refine g_asg ?_
  | with_reducible refine g_op ?_
  | ((with_reducible show tVar _ _ _ _); apply g_var; exact rfl)
  | with_reducible refine g_c ?_
  | with_reducible refine g_name ?_
  | with_reducible refine g_ifs ?_
  | with_reducible refine g_tt ?_
  | with_reducible refine g_tB ?_
  | with_reducible refine g_bl ?_
  | with_reducible refine g_ret ?_
  | with_reducible refine g_cb ?_
  | with_reducible refine g_cons ?_
  | with_reducible refine g_nil ?_
  | with_reducible refine g_call ?_
  | with_reducible refine g_and ?_
  | with_reducible refine g_or ?_
  | with_reducible refine g_not ?_
  | with_reducible refine g_andV ?_
  | with_reducible refine g_orV ?_
  | with_reducible refine g_notV ?_
  | with_reducible refine g_if ?_
  | with_reducible refine g_un ?_
  | with_reducible refine g_neg ?_
  | with_reducible refine g_addI ?_
  | with_reducible refine g_subI ?_
  | with_reducible refine g_subB ?_
  | with_reducible refine g_I0 ?_
  | with_reducible refine g_cmpI ?_
  | with_reducible refine g_eqI ?_
  | with_reducible refine g_neI ?_
  | with_reducible refine g_eqS ?_
  | with_reducible refine g_neS ?_
  | with_reducible refine g_eqB ?_
  | with_reducible refine g_neB ?_
  | with_reducible refine g_bits ?_
  | with_reducible refine g_bitsI ?_
  | with_reducible refine g_fld ?_
  | with_reducible refine g_tup ?_
  | with_reducible refine g_lst ?_
  | with_reducible refine g_gtup ?_
  | with_reducible refine g_make ?_
  | with_reducible refine g_lc ?_
  | with_reducible refine g_yesT ?_
  | with_reducible refine g_intI ?_
  | with_reducible refine g_intB ?_
  | with_reducible refine g_max2 ?_
  | with_reducible refine g_abs1 ?_
  | with_reducible refine g_for ?_
  | with_reducible refine g_iList ?_
  | with_reducible refine g_iTup ?_
  | with_reducible refine g_iRng1 ?_
  | with_reducible refine g_iEnum ?_
  | with_reducible refine g_slice ?_
  | with_reducible refine g_po0 ?_
  | with_reducible refine g_po1 ?_
  | with_reducible refine g_gsub ?_
  | with_reducible refine g_par ?_
  | with_reducible refine g_par2 ?_
  | with_reducible refine g_rfl ?_
  | with_reducible refine g_meth ?_
  | with_reducible refine g_gcons ?_
  | with_reducible refine g_gnil ?_
  | with_reducible refine g_gfld ?_
  | with_reducible refine g_sfld ?_
  | with_reducible refine g_drop ?_
  | with_reducible refine g_next ?_
  | with_reducible refine iteT ?_
  | with_reducible refine iteF ?_)
local macro_rules | `(tactic| walk_at "go") => `(tactic| (repeat walk_at "u"))
local macro_rules | `(tactic| walk_at "f") => `(tactic| (repeat (first
  | walk_at "u"
  | with_reducible refine g_chain ?_
  | with_reducible refine g_par3 ?_
  | with_reducible refine g_par3' ?_
  | ((with_reducible refine show_ex ?_); first
    | refine fT (by assumption) (by assumption) ?_
    | refine fS (by assumption) (by assumption) ?_
    | refine fP (by assumption) (by assumption) ?_))))

section
variable {P : Program} {w : World} {K : PySem.W.Frag} {mg : Str → Option Value} {base : Heap} {C : Addr}
inductive Rd where
  | none | int (i : Int) | flt (x : FL)
def RdAt (C : Addr) (H : Hp) (v : V) : Rd → Prop
  | .none => v = .non
  | .int i => v = .int i
  | .flt x => FA C H v x
theorem RdAt.same {H H' : Hp} {v : V} : ∀ {r : Rd}, RdAt C H v r → Same H H' → RdAt C H' v r
  | .none, h, _ => h
  | .int _, h, _ => h
  | .flt _, h, s => FA.same h s
def RetR (C : Addr) (H : Hp) (r : Rd) (Q : VK) : Prop := ∀ H' v, Same H H' → RdAt C H' v r → Q v H'
theorem RetR.later {H H1 : Hp} {r : Rd} {Q : VK} (q : RetR C H r Q) (s : Same H H1) : RetR C H1 r Q := fun H' v s' h => q H' v (s.trans s') h
theorem RetR.flt {H : Hp} {x : FL} {Q : VK} (q : RetR C H (.flt x) Q) : RetN C H x Q := fun H' v s h => q H' v s h
def rdWhole (neg : Bool) (G : List Nat) : Rd :=
  if G.length < 20 ∧ (dvN G : Int) ≤ 9223372036854775807 + b2i neg then .int (if neg = true then 0 - (dvN G : Nat) else (dvN G : Nat)) else .flt (scl neg G 0)
abbrev CScal (P : Program) (w : World) (K : PySem.W.Frag) (mg : Str → Option Value) (base : Heap) (C : Addr) : Prop := Fn P w K mg base CX0 6 "scaled" ["is_negative", "figures", "places"] [] (sp_scaled C)
theorem dv_0 (G : List Nat) : dvN (48 :: G) = dvN G := dv_zs G 1
theorem sc_readwhole : FnScope ["is_negative", "text", "number"] ["is_negative", "text"] (defScope s_readwhole) := ⟨rfl, rfl, rfl, by decide +kernel, rfl, by decide +kernel, by decide +kernel⟩
def sp_readwhole (C : Addr) : Sp := fun vs H Q _ => ∃ (n : Bool) (G : List Nat), vs = [.bl n, .str (Sx G)] ∧ G.length ≤ 20000 ∧ Dg G ∧ RetR C H (rdWhole n G) Q
theorem ok_readwhole {f : Addr} {fd : FuncData} (F : FunD K "read_whole" "read_whole" (defArgs s_readwhole) (defBody s_readwhole) (defScope s_readwhole) [] [] f fd) (B : Blt mg) (i_MOST : ∃ t, mg "MOST" = some (.int 9223372036854775807 t)) (c_scaled : CScal P w K mg base C) : FnOk P w K mg base CX0 7 f fd ["is_negative", "text"] (sp_readwhole C) := by
  refine F.ok sc_readwhole (fun vs H Q E h => ?_) (fun cdv A outer s H vs Q E hr h => ?_)
  · obtain ⟨_, _, rfl, _⟩ := h; rfl
  · obtain ⟨n, G, rfl, hl, dg, q⟩ := h
    have hlS : (Sx G).length ≤ sizeLine := by rw [Sx_len]; exact Nat.le_trans hl (by decide)
    refine ⟨_, PSs.nox (pss_cons (ps_if (pt_cmpR op_oLt (pe_callB call_len_str (by rfl) B.len (by decide +kernel) (pa_cons (pv 1) pa_nil)) pe_int (nomark _)) (pss_cons (ps_set (i := 2) sc_readwhole.nd rfl (Or.inl rfl) (pe_callTy call_int_str (by rfl) B.int (by decide +kernel) (pa_cons (pe_op op_oAdd pe_str (pv 1)) pa_nil)))
  (pss_one (ps_if (pt_cmpR op_oLe (pv 2) (pe_op op_oAdd (pe_gint i_MOST) (pe_callTy call_int1 (by rfl) B.int (by decide +kernel) (pa_cons (pv 0) pa_nil))) (nomark _)) (pss_one (ps_ret (pe_cut (pe_ifExp (pt_val (pv 0)) (pe_op op_oSub pe_int (pv 2)) (pv 2))))) pss_nil))) pss_nil)
  (pss_one (ps_ret (pe_fn c_scaled (hr.mono (by first | decide | omega)) pass0 (pa_cons (pv 0) (pa_cons (pv 1) (pa_cons pe_int pa_nil))))))), ?_⟩
    walk_at "f"
    refine ⟨_, rfl, hlS, ?_⟩
    rw [Sx_len]
    walk_at "f"
    refine g_ite (fun h1 => ?_) fun h1 => ?_
    · have h1 : G.length < 20 := by omega
      walk_at "f"
      rw [lit0]
      refine g_addS (sz (Nat.ble_eq.mpr (by rw [Sx_len, Sx_len]; show 1 + _ ≤ _; omega))) ?_
      rw [Sx_cat]
      have dg1 : Dg ([48] ++ G) := fun c hc => by
        rcases List.mem_append.mp hc with hc | hc
        · rw [List.mem_singleton.mp hc]; omega
        · exact dg c hc
      have hint : intText? (Sx ([48] ++ G)) = some ((dvN ([48] ++ G) : Nat) : Int) := SX.int_S (by
        refine List.all_eq_true.mpr fun c hc => ?_
        have := dg1 c hc
        simp [this]) (by simp) (by simp; omega)
      rw [show [48] ++ G = 48 :: G from rfl, dv_0] at hint
      walk_at "f"
      refine ⟨_, _, rfl, hint, by rw [Sx_len]; simp; omega, ?_⟩
      walk_at "f"
      refine g_ite (fun h2 => ?_) fun h2 => ?_
      · have e : rdWhole n G = .int (if n = true then 0 - (dvN G : Nat) else (dvN G : Nat)) := if_pos ⟨h1, h2⟩
        rw [e] at q
        walk_at "f"
        refine g_cutE (fun v H' => v = .int (if n = true then 0 - (dvN G : Nat) else (dvN G : Nat)) ∧ H = H') ?_ ?_
        · walk_at "f"
          cases n
          · refine iteF ?_
            walk_at "f"
            exact ⟨rfl, rfl⟩
          · refine iteT ?_
            walk_at "f"
            exact ⟨rfl, rfl⟩
        · rintro _ _ ⟨rfl, rfl⟩
          exact q _ _ (Same.refl _) rfl
      · have e : rdWhole n G = .flt (scl n G 0) := if_neg (fun z => h2 z.2)
        rw [e] at q
        walk_at "f"
        exact ⟨n, G, 0, rfl, hl, dg, by decide, q.flt⟩
    · have e : rdWhole n G = .flt (scl n G 0) := if_neg (fun z => h1 (by omega))
      rw [e] at q
      walk_at "f"
      exact ⟨n, G, 0, rfl, hl, dg, by decide, q.flt⟩
/-! read_float -/
def sgnOff (l : List Nat) : List Nat := if l.take 1 = [45] ∨ l.take 1 = [43] then l.drop 1 else l
def rdExp (N : List Nat) : Option Int := if sgnOff N = [] ∨ (sgnOff N).all isD = false then none else
  some (if N.take 1 = [45] then 0 - (if ((sgnOff N).dropWhile is48).length < 8 then (dvN ((sgnOff N).dropWhile is48) : Int) else 100000000) else (if ((sgnOff N).dropWhile is48).length < 8 then (dvN ((sgnOff N).dropWhile is48) : Int) else 100000000))
def fpF (l : List Nat) : List Nat := (parL 101 l).1
def fpG (l : List Nat) : List Nat := (parL 46 (fpF l)).1 ++ (parL 46 (fpF l)).2.2
def fpU (l : List Nat) : List Nat := (parL 46 (fpF l)).2.2
def rdPl (l : List Nat) : Option Int := if (parL 101 l).2.1 = [] then some 0 else rdExp (parL 101 l).2.2
def rdFloat (neg : Bool) (l : List Nat) : Rd :=
  if fpG l = [] ∨ (fpG l).all isD = false then .none else match rdPl l with
  | none => .none
  | some p => .flt (scl neg ((fpG l).dropWhile is48) (p - (fpU l).length))
theorem parL_len (c : Nat) (l : List Nat) : (parL c l).1.length ≤ l.length ∧ (parL c l).2.2.length ≤ l.length ∧ (parL c l).1.length + (parL c l).2.2.length ≤ l.length := by
  by_cases h : c ∈ l
  · obtain ⟨p, q, h1, rfl⟩ := split_at h
    rw [parL_yes h1]
    simp only [List.length_append, List.length_cons]
    omega
  · rw [parL_no h]
    simp
theorem all_dg {l : List Nat} (h : l.all isD = true) : Dg l := fun c hc => by
  have := List.all_eq_true.mp h c hc
  unfold isD at this
  simpa using this
theorem dg_dw {l : List Nat} {p : Nat → Bool} (h : Dg l) : Dg (l.dropWhile p) := fun c hc => h c ((List.dropWhile_sublist p).subset hc)
theorem len_dw {l : List Nat} {p : Nat → Bool} : (l.dropWhile p).length ≤ l.length := (List.dropWhile_sublist p).length_le
theorem sgnOff_len (l : List Nat) : (sgnOff l).length ≤ l.length := by
  unfold sgnOff
  split
  · rw [List.length_drop]; omega
  · omega
theorem exp_small {N : List Nat} {p : Int} (h : rdExp N = some p) : p.natAbs ≤ 100000000 := by
  unfold rdExp at h
  split at h
  · cases h
  · rename_i h0
    have hd : Dg ((sgnOff N).dropWhile is48) := dg_dw (all_dg (by
      cases e : (sgnOff N).all isD with
      | true => rfl
      | false => exact absurd (.inr e) h0))
    have key : (if ((sgnOff N).dropWhile is48).length < 8 then (dvN ((sgnOff N).dropWhile is48) : Int) else 100000000).natAbs ≤ 100000000 := by
      split
      · rename_i h1
        rw [Int.natAbs_natCast]
        have := dv_lt hd
        have h2 : 10 ^ ((sgnOff N).dropWhile is48).length ≤ 10 ^ 8 := Nat.pow_le_pow_right (by decide) (by omega)
        have h3 : (10 : Nat) ^ 8 = 100000000 := by decide
        rw [h3] at h2
        exact Nat.le_of_lt (Nat.lt_of_lt_of_le this h2)
      · decide
    have h := Option.some.inj h
    rw [← h]
    split
    · rw [Int.zero_sub, Int.natAbs_neg]; exact key
    · exact key
theorem sc_readfloat : FnScope ["is_negative", "text", "figures", "mark", "far", "before", "point", "behind", "places", "is_small"] ["is_negative", "text"] (defScope s_readfloat) := ⟨rfl, rfl, rfl, by decide +kernel, rfl, by decide +kernel, by decide +kernel⟩
def sp_readfloat (C : Addr) : Sp := fun vs H Q _ => ∃ (n : Bool) (l : List Nat), vs = [.bl n, .str (Sx l)] ∧ l.length ≤ 20000 ∧ RetR C H (rdFloat n l) Q
theorem ok_readfloat {f : Addr} {fd : FuncData} (F : FunD K "read_float" "read_float" (defArgs s_readfloat) (defBody s_readfloat) (defScope s_readfloat) [] [] f fd) (B : Blt mg) (i_FIGURES : ∃ t, mg "FIGURES" = some (.str "0123456789" t)) (c_ismadeof : CMade P w K mg base) (c_scaled : CScal P w K mg base C) : FnOk P w K mg base CX0 7 f fd ["is_negative", "text"] (sp_readfloat C) := by
  refine F.ok sc_readfloat (fun vs H Q E h => ?_) (fun cdv A outer s H vs Q E hr h => ?_)
  · obtain ⟨_, _, rfl, _⟩ := h; rfl
  · obtain ⟨n, l, rfl, hl, q⟩ := h
    have big : ∀ {m : Nat}, m ≤ 20000 → m ≤ sizeLine := fun h => Nat.le_trans h (by decide)
    obtain ⟨a1, a2, a3⟩ := parL_len 101 l
    obtain ⟨b1, b2, b3⟩ := parL_len 46 (fpF l)
    have b0 : (fpF l).length ≤ l.length := a1
    have lG : (fpG l).length ≤ l.length := by show ((parL 46 (fpF l)).1 ++ (parL 46 (fpF l)).2.2).length ≤ _; rw [List.length_append]; omega
    refine ⟨_, PSs.nox (pss_cons (ps_asg (pe_partition (pv 1) pe_str) (pg_tup rfl (pgs_cons (pg_name (i := 2) sc_readfloat.nd rfl (Or.inl rfl)) (pgs_cons (pg_name (i := 3) sc_readfloat.nd rfl (Or.inl rfl)) (pgs_cons (pg_name (i := 4) sc_readfloat.nd rfl (Or.inl rfl)) pgs_nil)))))
  (pss_cons (ps_asg (pe_partition (pv 2) pe_str) (pg_tup rfl (pgs_cons (pg_name (i := 5) sc_readfloat.nd rfl (Or.inl rfl)) (pgs_cons (pg_name (i := 6) sc_readfloat.nd rfl (Or.inl rfl)) (pgs_cons (pg_name (i := 7) sc_readfloat.nd rfl (Or.inl rfl)) pgs_nil)))))
  (pss_cons (ps_if (pt_cut (PW.pt (pw_or (pt_cmpR (op_oEq hr.units) (pe_op op_oAdd (pv 5) (pv 7)) pe_str (nomark _)) (pw_or1 (pt_not (pt_val (pe_fn c_ismadeof (hr.mono (by first | decide | omega)) pass0 (pa_cons (pe_op op_oAdd (pv 5) (pv 7)) (pa_cons (pe_gstr i_FIGURES) pa_nil))))))))) (pss_one (ps_ret pe_non)) pss_nil)
  (pss_cons (ps_set (i := 8) sc_readfloat.nd rfl (Or.inl rfl) pe_int)
  (C8.pss_cut (ps_if (pt_cmpR (op_oNe hr.units) (pv 3) pe_str (nomark _)) (pss_cons (ps_set (i := 9) sc_readfloat.nd rfl (Or.inl rfl) (pe_cmpR (op_oEq hr.units) (pe_slice sl_str (pv 4) po_none (po_some pe_int)) pe_str (nomark _)))
  (C8.pss_cut (ps_if (pt_cmpR op_in_seq (pe_slice sl_str (pv 4) po_none (po_some pe_int)) (pe_tupN (pa_cons pe_str (pa_cons pe_str pa_nil))) (by rfl)) (pss_one (ps_set (i := 4) sc_readfloat.nd rfl (Or.inl rfl) (pe_slice sl_str (pv 4) (po_some pe_int) po_none))) pss_nil)
  (pss_cons (ps_if (pt_cut (PW.pt (pw_or (pt_cmpR (op_oEq hr.units) (pv 4) pe_str (nomark _)) (pw_or1 (pt_not (pt_val (pe_fn c_ismadeof (hr.mono (by first | decide | omega)) pass0 (pa_cons (pv 4) (pa_cons (pe_gstr i_FIGURES) pa_nil))))))))) (pss_one (ps_ret pe_non)) pss_nil)
  (pss_cons (ps_set (i := 4) sc_readfloat.nd rfl (Or.inl rfl) (pe_m1 PySem.F.slot_str_lstrip PySem.F.type_str_lstrip mt_lstripChars (pv 4) pe_str))
  (pss_cons (ps_set (i := 8) sc_readfloat.nd rfl (Or.inl rfl) (pe_cut (pe_ifExp (pt_cmpR op_oLt (pe_callB call_len_str (by rfl) B.len (by decide +kernel) (pa_cons (pv 4) pa_nil)) pe_int (nomark _)) (pe_callTy call_int_str (by rfl) B.int (by decide +kernel) (pa_cons (pe_op op_oAdd pe_str (pv 4)) pa_nil)) (pe_op op_oPow pe_int pe_int))))
  (pss_one (ps_set (i := 8) sc_readfloat.nd rfl (Or.inl rfl) (pe_cut (pe_ifExp (pt_val (pv 9)) (pe_op op_oSub pe_int (pv 8)) (pv 8)))))))))) pss_nil)
  (pss_one (ps_ret (pe_fn c_scaled (hr.mono (by first | decide | omega)) pass0 (pa_cons (pv 0) (pa_cons (pe_m1 PySem.F.slot_str_lstrip PySem.F.type_str_lstrip mt_lstripChars (pe_op op_oAdd (pv 5) (pv 7)) pe_str) (pa_cons (pe_op op_oSub (pv 8) (pe_callB call_len_str (by rfl) B.len (by decide +kernel) (pa_cons (pv 7) pa_nil))) pa_nil))))))))))), ?_⟩
    walk_at "f"
    refine g_m1 ?_
    walk_at "f"
    refine ⟨⟨_, rfl⟩, ?_⟩
    walk_at "f"
    refine ⟨_, _, rfl, rfl, by decide +kernel, by rw [Sx_len]; exact big hl, fun t1 n1 => ?_⟩
    rw [litE, part_S]
    dsimp only
    refine ⟨t1, _, rfl, SqT.of upd_same, rfl, ?_⟩
    have s1 : Same H (upd H t1 (.tup [.str (Sx (parL 101 l).1), .str (Sx (parL 101 l).2.1), .str (Sx (parL 101 l).2.2)])) := upd_sm (Same.refl _) n1
    generalize upd H t1 _ = H1 at *
    walk_at "f"
    refine g_m1 ?_
    walk_at "f"
    refine ⟨⟨_, rfl⟩, ?_⟩
    walk_at "f"
    refine ⟨_, _, rfl, rfl, by decide +kernel, by rw [Sx_len]; exact big (Nat.le_trans a1 hl), fun t2 n2 => ?_⟩
    rw [litP, part_S]
    dsimp only
    refine ⟨t2, _, rfl, SqT.of upd_same, rfl, ?_⟩
    have s2 : Same H1 (upd H1 t2 (.tup [.str (Sx (parL 46 (parL 101 l).1).1), .str (Sx (parL 46 (parL 101 l).1).2.1), .str (Sx (parL 46 (parL 101 l).1).2.2)])) := upd_sm (Same.refl _) n2
    generalize upd H1 t2 _ = H2 at *
    replace s2 := s1.trans s2
    walk_at "f"
    refine g_cutT (fun b H' => Same H H' ∧ b = decide (fpG l = [] ∨ (fpG l).all isD = false)) ?_ ?_
    · walk_at "f"
      refine g_addS (sz (Nat.ble_eq.mpr (by rw [Sx_len, Sx_len]; have : (parL 46 (parL 101 l).1).1.length + (parL 46 (parL 101 l).1).2.2.length ≤ (parL 101 l).1.length := b3; omega))) ?_
      rw [Sx_cat]
      rw [show (parL 46 (parL 101 l).1).1 ++ (parL 46 (parL 101 l).1).2.2 = fpG l from rfl]
      walk_at "f"
      rw [litN]
      refine g_ite (fun h1 => ?_) fun h1 => ?_
      · exact ⟨s2, by rw [decide_eq_true (.inl (Sx_inj.mp h1))]⟩
      · have h1 : fpG l ≠ [] := fun z => h1 (by rw [z])
        walk_at "f"
        refine g_addS (sz (Nat.ble_eq.mpr (by rw [Sx_len, Sx_len]; have : (parL 46 (parL 101 l).1).1.length + (parL 46 (parL 101 l).1).2.2.length ≤ (parL 101 l).1.length := b3; omega))) ?_
        rw [Sx_cat]
        rw [show (parL 46 (parL 101 l).1).1 ++ (parL 46 (parL 101 l).1).2.2 = fpG l from rfl]
        walk_at "f"
        rw [litDg]
        refine ⟨_, _, rfl, by omega, fun H3 s3 => ?_⟩
        rw [all_mem (fun c => mem_dg)]
        walk_at "f"
        refine ⟨s2.trans s3, ?_⟩
        cases e : (fpG l).all isD with
        | true => rw [decide_eq_false (fun z => z.elim h1 (fun y => nomatch y))]; rfl
        | false => rw [decide_eq_true (.inr rfl)]; rfl
    · rintro _ H3 ⟨s3, rfl⟩
      refine g_ite (fun h1 => ?_) fun h1 => ?_
      · have e : rdFloat n l = .none := if_pos h1
        rw [e] at q
        walk_at "f"
        exact q _ _ s3 rfl
      · have hall : (fpG l).all isD = true := by
          cases e : (fpG l).all isD with
          | true => rfl
          | false => exact absurd (.inr e) h1
        have dG := all_dg hall
        have e : rdFloat n l = match rdPl l with
          | none => .none
          | some p => .flt (scl n ((fpG l).dropWhile is48) (p - (fpU l).length)) := if_neg h1
        rw [e] at q
        clear e
        have endw : ∀ (H' : Hp) (p : Int), Same H H' → rdPl l = some p → sp_scaled C [.bl n, .str (Sx ((fpG l).dropWhile is48)), .int (p - (fpU l).length)] H' (fun v H1 => Q v H1) E := by
          intro H' p s' ep
          rw [ep] at q
          refine ⟨n, _, _, rfl, Nat.le_trans len_dw (by omega), dg_dw dG, ?_, q.flt.later s'⟩
          have lU : (fpU l).length ≤ l.length := Nat.le_trans b2 b0
          have hp : p.natAbs ≤ 100000000 := by
            unfold rdPl at ep
            split at ep
            · cases ep; decide
            · exact exp_small ep
          have : (2 : Nat) ^ 64 = 18446744073709551616 := by decide
          omega
        walk_at "f"
        refine g_cut (fun σ' H' => Same H H' ∧ ∃ p e3 e4 e9, rdPl l = some p ∧ σ' = [some (.bl n), some (.str (Sx l)), some (.str (Sx (parL 101 l).1)), e3, e4, some (.str (Sx (parL 46 (parL 101 l).1).1)), some (.str (Sx (parL 46 (parL 101 l).1).2.1)), some (.str (Sx (parL 46 (parL 101 l).1).2.2)), some (.int p), e9]) ?_ ?_
        · walk_at "f"
          rw [litN]
          refine g_iten (fun hm => ?_) fun hm => ?_
          · have hm : (parL 101 l).2.1 ≠ [] := fun z => hm (by rw [z])
            have epl : rdPl l = rdExp (parL 101 l).2.2 := if_neg hm
            generalize hN : (parL 101 l).2.2 = N at *
            have lN : N.length ≤ 20000 := by omega
            have lS := sgnOff_len N
            walk_at "f"
            refine g_slS (by rw [Sx_len]; exact big lN) ?_
            rw [cut_to _ (by decide), show Int.toNat 1 = 1 from rfl, litM]
            walk_at "f"
            have ed : decide (Sx (N.take 1) = Sx [45]) = decide (N.take 1 = [45]) := by
              by_cases z : N.take 1 = [45]
              · rw [z]; rfl
              · rw [decide_eq_false z, decide_eq_false (fun y => z (Sx_inj.mp y))]
            rw [ed]
            refine g_cut (fun σ' H' => Same H H' ∧ σ' = [some (.bl n), some (.str (Sx l)), some (.str (Sx (parL 101 l).1)), some (.str (Sx (parL 101 l).2.1)), some (.str (Sx (sgnOff N))), some (.str (Sx (parL 46 (parL 101 l).1).1)), some (.str (Sx (parL 46 (parL 101 l).1).2.1)), some (.str (Sx (parL 46 (parL 101 l).1).2.2)), some (.int 0), some (.bl (decide (N.take 1 = [45])))]) ?_ ?_
            · walk_at "f"
              refine g_slS (by rw [Sx_len]; exact big lN) ?_
              rw [cut_to _ (by decide), show Int.toNat 1 = 1 from rfl]
              walk_at "f"
              refine g_new (sz rfl) fun a H4 na s4 ha _ => ?_
              refine g_in2 ha (.str _) (.str _) (.str _) ?_
              rw [litA]
              have es2 : decide (V.str (Sx [45]) = V.str (Sx (N.take 1)) ∨ V.str (Sx [43]) = V.str (Sx (N.take 1))) = decide (N.take 1 = [45] ∨ N.take 1 = [43]) := by
                congr 1
                rw [V.str.injEq, V.str.injEq, Sx_inj, Sx_inj, eq_comm (a := [45]), eq_comm (a := [43])]
              rw [es2]
              walk_at "f"
              refine g_ite (fun h4 => ?_) fun h4 => ?_
              · walk_at "f"
                refine g_slS (by rw [Sx_len]; exact big lN) ?_
                rw [cut_from _ (by decide), show Int.toNat 1 = 1 from rfl]
                refine ⟨s3.trans s4, ?_⟩
                have e4 : sgnOff N = N.drop 1 := if_pos h4
                rw [e4, ← hN]
                rfl
              · walk_at "f"
                refine ⟨s3.trans s4, ?_⟩
                have e4 : sgnOff N = N := if_neg h4
                rw [e4, ← hN]
                rfl
            · rintro _ H4 ⟨s4, rfl⟩
              walk_at "f"
              refine g_cutT (fun b H' => Same H H' ∧ b = decide (sgnOff N = [] ∨ (sgnOff N).all isD = false)) ?_ ?_
              · walk_at "f"
                refine g_ite (fun h5 => ?_) fun h5 => ?_
                · exact ⟨s4, by rw [decide_eq_true (.inl (Sx_inj.mp h5))]⟩
                · have h5 : sgnOff N ≠ [] := fun z => h5 (by rw [z])
                  walk_at "f"
                  rw [litDg]
                  refine ⟨_, _, rfl, by omega, fun H5 s5 => ?_⟩
                  rw [all_mem (fun c => mem_dg)]
                  walk_at "f"
                  refine ⟨s4.trans s5, ?_⟩
                  cases e : (sgnOff N).all isD with
                  | true => rw [decide_eq_false (fun z => z.elim h5 (fun y => nomatch y))]; rfl
                  | false => rw [decide_eq_true (.inr rfl)]; rfl
              · rintro _ H5 ⟨s5, rfl⟩
                refine g_ite (fun h5 => ?_) fun h5 => ?_
                · have e5 : rdPl l = none := by rw [epl]; exact if_pos h5
                  rw [e5] at q
                  walk_at "f"
                  exact q _ _ s5 rfl
                · have hall2 : (sgnOff N).all isD = true := by
                    cases e : (sgnOff N).all isD with
                    | true => rfl
                    | false => exact absurd (.inr e) h5
                  have dZ : Dg ((sgnOff N).dropWhile is48) := dg_dw (all_dg hall2)
                  have lZ : ((sgnOff N).dropWhile is48).length ≤ 20000 := Nat.le_trans len_dw (by omega)
                  have e5 : rdPl l = some (if N.take 1 = [45] then 0 - (if ((sgnOff N).dropWhile is48).length < 8 then (dvN ((sgnOff N).dropWhile is48) : Int) else 100000000) else (if ((sgnOff N).dropWhile is48).length < 8 then (dvN ((sgnOff N).dropWhile is48) : Int) else 100000000)) := by rw [epl]; exact if_neg h5
                  walk_at "f"
                  refine g_m1 ?_
                  walk_at "f"
                  refine ⟨⟨_, rfl⟩, ?_⟩
                  walk_at "f"
                  refine ⟨_, _, rfl, rfl, by rw [Sx_len]; exact big (by omega), ?_⟩
                  rw [lstrip_z, show (sgnOff N).dropWhile (fun c => decide (c = 48)) = (sgnOff N).dropWhile is48 from rfl]
                  generalize (sgnOff N).dropWhile is48 = Z at *
                  walk_at "f"
                  refine g_cutE (fun v H' => v = .int (if Z.length < 8 then (dvN Z : Int) else 100000000) ∧ H5 = H') ?_ ?_
                  · walk_at "f"
                    refine ⟨_, rfl, by rw [Sx_len]; exact big lZ, ?_⟩
                    rw [Sx_len]
                    walk_at "f"
                    refine g_ite (fun h6 => ?_) fun h6 => ?_
                    · rw [if_pos (show Z.length < 8 by omega)]
                      walk_at "f"
                      rw [lit0]
                      refine g_addS (sz (Nat.ble_eq.mpr (by rw [Sx_len, Sx_len]; show 1 + _ ≤ _; omega))) ?_
                      rw [Sx_cat]
                      have dg1 : Dg ([48] ++ Z) := fun c hc => by
                        rcases List.mem_append.mp hc with hc | hc
                        · rw [List.mem_singleton.mp hc]; omega
                        · exact dZ c hc
                      have hint : intText? (Sx ([48] ++ Z)) = some ((dvN ([48] ++ Z) : Nat) : Int) := SX.int_S (by
                        refine List.all_eq_true.mpr fun c hc => ?_
                        have := dg1 c hc
                        simp [this]) (by simp) (by simp; omega)
                      rw [show [48] ++ Z = 48 :: Z from rfl, dv_0] at hint
                      exact ⟨_, _, rfl, hint, by rw [Sx_len]; simp; omega, rfl, rfl⟩
                    · rw [if_neg (show ¬ Z.length < 8 by omega)]
                      walk_at "f"
                      refine g_II ⟨by decide, by decide, by decide⟩ ?_
                      exact ⟨rfl, rfl⟩
                  · rintro _ _ ⟨rfl, rfl⟩
                    walk_at "f"
                    refine g_cutE (fun v H' => v = .int (if N.take 1 = [45] then 0 - (if Z.length < 8 then (dvN Z : Int) else 100000000) else (if Z.length < 8 then (dvN Z : Int) else 100000000)) ∧ H5 = H') ?_ ?_
                    · walk_at "f"
                      refine g_ite (fun h6 => ?_) fun h6 => ?_
                      · walk_at "f"
                        rw [if_pos h6]
                        exact ⟨rfl, rfl⟩
                      · walk_at "f"
                        rw [if_neg h6]
                        exact ⟨rfl, rfl⟩
                    · rintro _ _ ⟨rfl, rfl⟩
                      exact ⟨s5, _, _, _, _, e5, rfl⟩
          · have hm : (parL 101 l).2.1 = [] := Sx_inj.mp hm
            walk_at "f"
            exact ⟨s3, 0, _, _, _, if_pos hm, rfl⟩
        · rintro _ H4 ⟨s4, p, e3, e4, e9, ep, rfl⟩
          walk_at "f"
          refine g_m1 ?_
          walk_at "f"
          refine g_addS (sz (Nat.ble_eq.mpr (by rw [Sx_len, Sx_len]; have : (parL 46 (parL 101 l).1).1.length + (parL 46 (parL 101 l).1).2.2.length ≤ (parL 101 l).1.length := b3; omega))) ?_
          rw [Sx_cat, show (parL 46 (parL 101 l).1).1 ++ (parL 46 (parL 101 l).1).2.2 = fpG l from rfl]
          refine ⟨⟨_, rfl⟩, ?_⟩
          walk_at "f"
          refine ⟨_, _, rfl, rfl, by rw [Sx_len]; exact big (by omega), ?_⟩
          rw [lstrip_z, show (fpG l).dropWhile (fun c => decide (c = 48)) = (fpG l).dropWhile is48 from rfl]
          walk_at "f"
          refine ⟨_, rfl, by rw [Sx_len]; exact big (Nat.le_trans b2 (Nat.le_trans b0 hl)), ?_⟩
          rw [Sx_len, show (parL 46 (parL 101 l).1).2.2 = fpU l from rfl]
          walk_at "f"
          exact endw H4 p s4 ep
end
end Up

set_option Elab.async false
set_option linter.all false
set_option pp.maxSteps 700
set_option maxRecDepth 100000
set_option maxHeartbeats 4000000
set_option exponentiation.threshold 200000
namespace Up
open PySem PySem.Spec PyProof.Rows L2
local macro_rules | `(tactic| walk_at "u") => `(tactic| first
  | with_reducible refine g_seq ?_
  | with_reducible refine g_asg ?_
  | with_reducible refine g_op ?_
  | ((with_reducible show tVar _ _ _ _); apply g_var; exact rfl)
  | with_reducible refine g_c ?_
  | with_reducible refine g_name ?_
  | with_reducible refine g_ifs ?_
  | with_reducible refine g_tt ?_
  | with_reducible refine g_tB ?_
  | with_reducible refine g_bl ?_
  | with_reducible refine g_ret ?_
  | with_reducible refine g_cb ?_
  | with_reducible refine g_cons ?_
  | with_reducible refine g_nil ?_
  | with_reducible refine g_call ?_
  | with_reducible refine g_and ?_
  | with_reducible refine g_or ?_
  | with_reducible refine g_not ?_
  | with_reducible refine g_andV ?_
  | with_reducible refine g_orV ?_
  | with_reducible refine g_notV ?_
  | with_reducible refine g_if ?_
  | with_reducible refine g_un ?_
  | with_reducible refine g_neg ?_
  | with_reducible refine g_addI ?_
  | with_reducible refine g_subI ?_
  | with_reducible refine g_subB ?_
  | with_reducible refine g_I0 ?_
  | with_reducible refine g_cmpI ?_
  | with_reducible refine g_eqI ?_
  | with_reducible refine g_neI ?_
  | with_reducible refine g_eqS ?_
  | with_reducible refine g_neS ?_
  | with_reducible refine g_eqB ?_
  | with_reducible refine g_neB ?_
  | with_reducible refine g_bits ?_
  | with_reducible refine g_bitsI ?_
  | with_reducible refine g_fld ?_
  | with_reducible refine g_tup ?_
  | with_reducible refine g_lst ?_
  | with_reducible refine g_gtup ?_
  | with_reducible refine g_make ?_
  | with_reducible refine g_lc ?_
  | with_reducible refine g_yesT ?_
  | with_reducible refine g_intI ?_
  | with_reducible refine g_intB ?_
  | with_reducible refine g_max2 ?_
  | with_reducible refine g_abs1 ?_
  | with_reducible refine g_for ?_
  | with_reducible refine g_iList ?_
  | with_reducible refine g_iTup ?_
  | with_reducible refine g_iRng1 ?_
  | with_reducible refine g_iEnum ?_
  | with_reducible refine g_slice ?_
  | with_reducible refine g_po0 ?_
  | with_reducible refine g_po1 ?_
  | with_reducible refine g_gsub ?_
  | with_reducible refine g_par ?_
  | with_reducible refine g_par2 ?_
  | with_reducible refine g_rfl ?_
  | with_reducible refine g_meth ?_
  | with_reducible refine g_gcons ?_
  | with_reducible refine g_gnil ?_
  | with_reducible refine g_gfld ?_
  | with_reducible refine g_sfld ?_
  | with_reducible refine g_drop ?_
  | with_reducible refine g_next ?_
  | with_reducible refine iteT ?_
  | with_reducible refine iteF ?_)
local macro_rules | `(tactic| walk_at "go") => `(tactic| (repeat walk_at "u"))
local macro_rules | `(tactic| walk_at "f") => `(tactic| (repeat (first
  | walk_at "u"
  | with_reducible refine g_chain ?_
  | with_reducible refine g_par3 ?_
  | with_reducible refine g_par3' ?_
  | ((with_reducible refine show_ex ?_); first
    | refine fT (by assumption) (by assumption) ?_
    | refine fS (by assumption) (by assumption) ?_
    | refine fP (by assumption) (by assumption) ?_))))

section
variable {P : Program} {w : World} {K : PySem.W.Frag} {mg : Str → Option Value} {base : Heap} {C : Addr}
abbrev Asc (l : List Nat) : Prop := ∀ c ∈ l, c < 128
def lowL (l : List Nat) : List Nat := l.map PyProof.Rows.lo1
def rnT (l : List Nat) : List Nat := stripL isBk l
def rnU (l : List Nat) : List Nat := lowL (sgnOff (rnT l))
def rnS (l : List Nat) : Bool := decide ((rnT l).take 1 = [45])
def rnN (l : List Nat) : Rd :=
  if (rnU l).take 2 = [48, 120] then (match rdHex (rnS l) ((rnU l).drop 2) with | none => .none | some i => .int i)
  else if rnU l ≠ [] ∧ (rnU l).all isD = true then rdWhole (rnS l) ((rnU l).dropWhile is48) else rdFloat (rnS l) (rnU l)
theorem strip_sub {p : Nat → Bool} {l : List Nat} : ∀ c ∈ stripL p l, c ∈ l := fun c h => by
  unfold stripL dropE at h
  have h := (List.dropWhile_sublist p).subset (List.mem_reverse.mp h)
  exact (List.dropWhile_sublist p).subset (List.mem_reverse.mp h)
theorem strip_len {p : Nat → Bool} {l : List Nat} : (stripL p l).length ≤ l.length := by
  unfold stripL dropE
  rw [List.length_reverse]
  refine Nat.le_trans (List.dropWhile_sublist p).length_le ?_
  rw [List.length_reverse]
  exact (List.dropWhile_sublist p).length_le
theorem sgnOff_sub {l : List Nat} : ∀ c ∈ sgnOff l, c ∈ l := fun c h => by
  unfold sgnOff at h
  split at h
  · exact List.mem_of_mem_drop h
  · exact h
theorem low_S {l : List Nat} (h : Asc l) : Txt.lower (Sx l) = Sx (lowL l) := SX.lower_S (List.all_eq_true.mpr fun c hc => decide_eq_true (h c hc))
theorem g_m0 {r : V → List V → Hp → VK → Prop} {to : TE} {σ : L2.St} {H : Hp} {Q : VK} (h : to σ H fun x H1 => (∃ a, x = .str a) ∧ r x [] H1 Q) : tM0 r to σ H Q := h
theorem sc_readnumber : FnScope ["text", "is_negative"] ["text"] (defScope s_readnumber) := ⟨rfl, rfl, rfl, by decide +kernel, rfl, by decide +kernel, by decide +kernel⟩
def sp_readnumber (C : Addr) : Sp := fun vs H Q _ => ∃ l : List Nat, vs = [.str (Sx l)] ∧ l.length ≤ 20000 ∧ Asc l ∧ RetR C H (rnN l) Q
theorem ok_readnumber {f : Addr} {fd : FuncData} (F : FunD K "read_number" "read_number" (defArgs s_readnumber) (defBody s_readnumber) (defScope s_readnumber) [] [] f fd) (B : Blt mg) (i_FIGURES : ∃ t, mg "FIGURES" = some (.str "0123456789" t)) (i_BLANKS : ∃ t, mg "BLANKS" = some (.str " \t\n" t)) (c_ismadeof : CMade P w K mg base)
    (c_readhex : Fn P w K mg base CX0 2 "read_hex" ["is_negative", "text"] [] sp_readhex) (c_readwhole : Fn P w K mg base CX0 7 "read_whole" ["is_negative", "text"] [] (sp_readwhole C)) (c_readfloat : Fn P w K mg base CX0 7 "read_float" ["is_negative", "text"] [] (sp_readfloat C)) : FnOk P w K mg base CX0 8 f fd ["text"] (sp_readnumber C) := by
  refine F.ok sc_readnumber (fun vs H Q E h => ?_) (fun cdv A outer s H vs Q E hr h => ?_)
  · obtain ⟨_, rfl, _⟩ := h; rfl
  · obtain ⟨l, rfl, hl, ha, q⟩ := h
    have big : ∀ {m : Nat}, m ≤ 20000 → m ≤ sizeLine := fun h => Nat.le_trans h (by decide)
    have lT : (rnT l).length ≤ 20000 := Nat.le_trans strip_len hl
    have lO : (sgnOff (rnT l)).length ≤ 20000 := Nat.le_trans (sgnOff_len _) lT
    have aO : Asc (sgnOff (rnT l)) := fun c hc => ha c (strip_sub c (sgnOff_sub c hc))
    have lU : (rnU l).length ≤ 20000 := by unfold rnU lowL; rw [List.length_map]; exact lO
    refine ⟨_, PSs.nox (pss_cons (ps_set (i := 0) sc_readnumber.nd rfl (Or.inl rfl) (pe_m1 PySem.F.slot_str_strip PySem.F.type_str_strip mt_stripChars (pv 0) (pe_gstr i_BLANKS)))
  (pss_cons (ps_set (i := 1) sc_readnumber.nd rfl (Or.inl rfl) (pe_cmpR (op_oEq hr.units) (pe_slice sl_str (pv 0) po_none (po_some pe_int)) pe_str (nomark _)))
  (C8.pss_cut (ps_if (pt_cmpR op_in_seq (pe_slice sl_str (pv 0) po_none (po_some pe_int)) (pe_tupN (pa_cons pe_str (pa_cons pe_str pa_nil))) (by rfl)) (pss_one (ps_set (i := 0) sc_readnumber.nd rfl (Or.inl rfl) (pe_slice sl_str (pv 0) (po_some pe_int) po_none))) pss_nil)
  (pss_cons (ps_set (i := 0) sc_readnumber.nd rfl (Or.inl rfl) (pe_lower (pv 0)))
  (pss_cons (ps_if (pt_cmpR (op_oEq hr.units) (pe_slice sl_str (pv 0) po_none (po_some pe_int)) pe_str (nomark _)) (pss_one (ps_ret (pe_fn c_readhex (hr.mono (by first | decide | omega)) pass0 (pa_cons (pv 1) (pa_cons (pe_slice sl_str (pv 0) (po_some pe_int) po_none) pa_nil))))) pss_nil)
  (pss_cons (ps_if (pt_cut (PW.pt (pw_and (pt_cmpR (op_oNe hr.units) (pv 0) pe_str (nomark _)) (pw_and1 (pt_val (pe_fn c_ismadeof (hr.mono (by first | decide | omega)) pass0 (pa_cons (pv 0) (pa_cons (pe_gstr i_FIGURES) pa_nil)))))))) (pss_one (ps_ret (pe_fn c_readwhole (hr.mono (by first | decide | omega)) pass0 (pa_cons (pv 1) (pa_cons (pe_m1 PySem.F.slot_str_lstrip PySem.F.type_str_lstrip mt_lstripChars (pv 0) pe_str) pa_nil))))) pss_nil)
  (pss_one (ps_ret (pe_fn c_readfloat (hr.mono (by first | decide | omega)) pass0 (pa_cons (pv 1) (pa_cons (pv 0) pa_nil))))))))))), ?_⟩
    walk_at "f"
    refine g_m1 ?_
    walk_at "f"
    refine ⟨⟨_, rfl⟩, ?_⟩
    walk_at "f"
    refine ⟨_, _, rfl, rfl, by rw [Sx_len]; exact big hl, ?_⟩
    rw [strip_bl, show stripL isBk l = rnT l from rfl]
    walk_at "f"
    refine g_slS (by rw [Sx_len]; exact big lT) ?_
    rw [cut_to _ (by decide), show Int.toNat 1 = 1 from rfl, litM]
    walk_at "f"
    have ed : decide (Sx ((rnT l).take 1) = Sx [45]) = rnS l := by
      unfold rnS
      by_cases z : (rnT l).take 1 = [45]
      · rw [z]; rfl
      · rw [decide_eq_false z, decide_eq_false (fun y => z (Sx_inj.mp y))]
    rw [ed]
    refine g_cut (fun σ' H' => Same H H' ∧ σ' = [some (.str (Sx (sgnOff (rnT l)))), some (.bl (rnS l))]) ?_ ?_
    · walk_at "f"
      refine g_slS (by rw [Sx_len]; exact big lT) ?_
      rw [cut_to _ (by decide), show Int.toNat 1 = 1 from rfl]
      walk_at "f"
      refine g_new (sz rfl) fun a H4 na s4 ha _ => ?_
      refine g_in2 ha (.str _) (.str _) (.str _) ?_
      rw [litA]
      have es2 : decide (V.str (Sx [45]) = V.str (Sx ((rnT l).take 1)) ∨ V.str (Sx [43]) = V.str (Sx ((rnT l).take 1))) = decide ((rnT l).take 1 = [45] ∨ (rnT l).take 1 = [43]) := by
        congr 1
        rw [V.str.injEq, V.str.injEq, Sx_inj, Sx_inj, eq_comm (a := [45]), eq_comm (a := [43])]
      rw [es2]
      walk_at "f"
      refine g_ite (fun h4 => ?_) fun h4 => ?_
      · walk_at "f"
        refine g_slS (by rw [Sx_len]; exact big lT) ?_
        rw [cut_from _ (by decide), show Int.toNat 1 = 1 from rfl]
        refine ⟨s4, ?_⟩
        have e4 : sgnOff (rnT l) = (rnT l).drop 1 := if_pos h4
        rw [e4]
        rfl
      · walk_at "f"
        refine ⟨s4, ?_⟩
        have e4 : sgnOff (rnT l) = rnT l := if_neg h4
        rw [e4]
        rfl
    · rintro _ H1 ⟨s1, rfl⟩
      walk_at "f"
      refine g_m0 ?_
      walk_at "f"
      refine ⟨⟨_, rfl⟩, ?_⟩
      refine ⟨_, rfl, rfl, by rw [Sx_len]; omega, ?_⟩
      rw [low_S aO, show lowL (sgnOff (rnT l)) = rnU l from rfl]
      walk_at "f"
      refine g_slS (by rw [Sx_len]; exact big lU) ?_
      rw [cut_to _ (by decide), show Int.toNat 2 = 2 from rfl, lit0x]
      walk_at "f"
      refine g_ite (fun h1 => ?_) fun h1 => ?_
      · have h1 := Sx_inj.mp h1
        walk_at "f"
        refine g_slS (by rw [Sx_len]; exact big lU) ?_
        rw [cut_from _ (by decide), show Int.toNat 2 = 2 from rfl]
        have e : rnN l = (match rdHex (rnS l) ((rnU l).drop 2) with | none => .none | some i => .int i) := if_pos h1
        rw [e] at q
        walk_at "f"
        refine ⟨rnS l, _, rfl, by rw [List.length_drop]; omega, fun H2 s2 => ?_⟩
        cases e : rdHex (rnS l) ((rnU l).drop 2) with
        | none => rw [e] at q; exact q _ _ (s1.trans s2) rfl
        | some i => rw [e] at q; exact q _ _ (s1.trans s2) rfl
      · have h1 : (rnU l).take 2 ≠ [48, 120] := fun z => h1 (by rw [z])
        have e : rnN l = if rnU l ≠ [] ∧ (rnU l).all isD = true then rdWhole (rnS l) ((rnU l).dropWhile is48) else rdFloat (rnS l) (rnU l) := if_neg h1
        rw [e] at q
        clear e
        walk_at "f"
        refine g_cutT (fun b H' => Same H H' ∧ b = decide (rnU l ≠ [] ∧ (rnU l).all isD = true)) ?_ ?_
        · walk_at "f"
          rw [litN]
          refine g_iten (fun h2 => ?_) fun h2 => ?_
          · have h2 : rnU l ≠ [] := fun z => h2 (by rw [z])
            walk_at "f"
            rw [litDg]
            refine ⟨_, _, rfl, lU, fun H2 s2 => ?_⟩
            rw [all_mem (fun c => mem_dg)]
            refine ⟨_, rfl, s1.trans s2, ?_⟩
            cases e : (rnU l).all isD with
            | true => rw [decide_eq_true ⟨h2, rfl⟩]
            | false => rw [decide_eq_false (fun z => by cases z.2)]
          · refine ⟨s1, ?_⟩
            rw [decide_eq_false (fun z => z.1 (Sx_inj.mp h2))]
        · rintro _ H2 ⟨s2, rfl⟩
          refine g_ite (fun h2 => ?_) fun h2 => ?_
          · rw [if_pos h2] at q
            walk_at "f"
            refine g_m1 ?_
            walk_at "f"
            refine ⟨⟨_, rfl⟩, ?_⟩
            walk_at "f"
            refine ⟨_, _, rfl, rfl, by rw [Sx_len]; exact big lU, ?_⟩
            rw [lstrip_z, show (rnU l).dropWhile (fun c => decide (c = 48)) = (rnU l).dropWhile is48 from rfl]
            walk_at "f"
            exact ⟨rnS l, _, rfl, Nat.le_trans len_dw lU, dg_dw (all_dg h2.2), q.later s2⟩
          · rw [if_neg h2] at q
            walk_at "f"
            exact ⟨rnS l, _, rfl, lU, q.later s2⟩
end
end Up

set_option Elab.async false
set_option linter.all false
set_option pp.maxSteps 700
set_option maxRecDepth 100000
set_option maxHeartbeats 4000000
set_option exponentiation.threshold 200000
namespace Up
open PySem PySem.Spec PyProof.Rows L2
local macro_rules | `(tactic| walk_at "u") => `(tactic| first
  | with_reducible refine g_seq ?_
  | with_reducible refine g_asg ?_
  | with_reducible refine g_op ?_
  | ((with_reducible show tVar _ _ _ _); apply g_var; exact rfl)
  | with_reducible refine g_c ?_
  | with_reducible refine g_name ?_
  | with_reducible refine g_ifs ?_
  | with_reducible refine g_tt ?_
  | with_reducible refine g_tB ?_
  | with_reducible refine g_bl ?_
  | with_reducible refine g_ret ?_
  | with_reducible refine g_cb ?_
  | with_reducible refine g_cons ?_
  | with_reducible refine g_nil ?_
  | with_reducible refine g_call ?_
  | with_reducible refine g_and ?_
  | with_reducible refine g_or ?_
  | with_reducible refine g_not ?_
  | with_reducible refine g_andV ?_
  | with_reducible refine g_orV ?_
  | with_reducible refine g_notV ?_
  | with_reducible refine g_if ?_
  | with_reducible refine g_un ?_
  | with_reducible refine g_neg ?_
  | with_reducible refine g_addI ?_
  | with_reducible refine g_subI ?_
  | with_reducible refine g_subB ?_
  | with_reducible refine g_I0 ?_
  | with_reducible refine g_cmpI ?_
  | with_reducible refine g_eqI ?_
  | with_reducible refine g_neI ?_
  | with_reducible refine g_eqS ?_
  | with_reducible refine g_neS ?_
  | with_reducible refine g_eqB ?_
  | with_reducible refine g_neB ?_
  | with_reducible refine g_bits ?_
  | with_reducible refine g_bitsI ?_
  | with_reducible refine g_fld ?_
  | with_reducible refine g_tup ?_
  | with_reducible refine g_lst ?_
  | with_reducible refine g_gtup ?_
  | with_reducible refine g_make ?_
  | with_reducible refine g_lc ?_
  | with_reducible refine g_yesT ?_
  | with_reducible refine g_intI ?_
  | with_reducible refine g_intB ?_
  | with_reducible refine g_max2 ?_
  | with_reducible refine g_abs1 ?_
  | with_reducible refine g_for ?_
  | with_reducible refine g_iList ?_
  | with_reducible refine g_iTup ?_
  | with_reducible refine g_iRng1 ?_
  | with_reducible refine g_iEnum ?_
  | with_reducible refine g_slice ?_
  | with_reducible refine g_po0 ?_
  | with_reducible refine g_po1 ?_
  | with_reducible refine g_gsub ?_
  | with_reducible refine g_par ?_
  | with_reducible refine g_par2 ?_
  | with_reducible refine g_rfl ?_
  | with_reducible refine g_meth ?_
  | with_reducible refine g_gcons ?_
  | with_reducible refine g_gnil ?_
  | with_reducible refine g_gfld ?_
  | with_reducible refine g_sfld ?_
  | with_reducible refine g_drop ?_
  | with_reducible refine g_next ?_
  | with_reducible refine iteT ?_
  | with_reducible refine iteF ?_)
local macro_rules | `(tactic| walk_at "go") => `(tactic| (repeat walk_at "u"))
local macro_rules | `(tactic| walk_at "f") => `(tactic| (repeat (first
  | walk_at "u"
  | with_reducible refine g_chain ?_
  | with_reducible refine g_par3 ?_
  | with_reducible refine g_par3' ?_
  | ((with_reducible refine show_ex ?_); first
    | refine fT (by assumption) (by assumption) ?_
    | refine fS (by assumption) (by assumption) ?_
    | refine fP (by assumption) (by assumption) ?_))))

section
variable {P : Program} {w : World} {K : PySem.W.Frag} {mg : Str → Option Value} {base : Heap} {C : Addr}
/-- a text of so many plain signs -/
def TxA (n : Nat) (v : V) : Prop := ∃ l : List Nat, v = .str (Sx l) ∧ l.length ≤ n ∧ Asc l
theorem joinL_sg : ∀ ts : List Nat, TL.joinL [] (ts.map fun c => [c]) = ts
  | [] => rfl
  | [_] => rfl
  | a :: b :: r => by
    have := joinL_sg (b :: r)
    show [a] ++ ([] ++ TL.joinL [] ((b :: r).map fun c => [c])) = _
    rw [this]
    rfl
theorem join_sg (ts : List Nat) : Txt.join (Sx []) (ts.map fun c => Sx [c]) = Sx ts := by
  have e := SX.join_S [] (ts.map fun c => [c])
  rw [joinL_sg, List.map_map] at e
  exact e
theorem lens_sg (ts : List Nat) : ((ts.map fun c => Sx [c]).map (·.length)).sum = ts.length := by
  induction ts with
  | nil => rfl
  | cons c r ih =>
    rw [List.map_cons, List.map_cons, List.sum_cons, ih, Sx_len]
    simp [Nat.add_comm]
/-! _law_figures -/
theorem sc_Lfigures : FnScope ["_law_well_here", "_law_many", "_law_k"] ["_law_well_here", "_law_many"] (defScope s_Lfigures) := ⟨rfl, rfl, rfl, by decide +kernel, rfl, by decide +kernel, by decide +kernel⟩
def sp_Lfigs : Sp := fun vs H Q _ => ∃ (a : Addr) (m : Int), vs = [.ref a, .int m] ∧ 0 ≤ m ∧ m ≤ 100 ∧ Well H a ∧ ∀ v H', TxA m.toNat v → Stp a H H' → Well H' a → Q v H'
theorem ok_Lfigs {f : Addr} {fd : FuncData} (F : FunD K "_law_figures" "_law_figures" (defArgs s_Lfigures) (defBody s_Lfigures) (defScope s_Lfigures) [] [] f fd) (B : Blt mg) (c_Lone : Fn P w K mg base CX0 2 "_law_one" ["_law_well_here", "_law_some"] [] sp_Lone) : FnOk P w K mg base CX0 3 f fd ["_law_well_here", "_law_many"] sp_Lfigs := by
  refine F.ok sc_Lfigures (fun vs H Q E h => ?_) (fun cdv A outer s H vs Q E hr h => ?_)
  · obtain ⟨a, m, rfl, _⟩ := h; rfl
  · obtain ⟨a, m, rfl, m0, m1, hw, q⟩ := h
    refine ⟨_, PSs.nox (pss_one (ps_ret (pe_join pe_str (pe_lc (own := [("_law_k", 2)]) (g := gName 2) rfl sc_Lfigures.nd (pi_range1 (by rfl) B.range (pa_cons (pv 1) pa_nil)) (blkOk_by (own := [("_law_k", 2)]) (N := ["_law_well_here", "_law_many", "_law_k"]) (sc := defScope s_Lfigures) (by decide +kernel)) (fun _ _ _ _ _ => pg_name (i := 2) sc_Lfigures.nd rfl (Or.inl rfl)) (fun _ _ _ _ _ => pts_nil) (fun _ _ _ _ _ => (pe_fn c_Lone (hr.mono (by first | decide | omega)) pass0 (pa_cons (pv 0) (pa_cons (pe_callTy (call_list_S rfl) (by rfl) B.list (by decide +kernel) (pa_cons pe_str pa_nil)) pa_nil)))))))), ?_⟩
    walk_at "f"
    refine g_m1 ?_
    walk_at "f"
    refine ⟨⟨_, rfl⟩, ?_⟩
    walk_at "f"
    refine ⟨by omega, by omega, fun D nD => ?_⟩
    have s0 : Stp a H (upd H D (.lst [])) := Stp.of (upd_sm (Same.refl _) nD)
    have neD : D ≠ a := hw.ne_none nD
    refine lc_range (fun i H' => ∃ ts : List Nat, H' D = some (.lst (sgV ts)) ∧ ts.length = i ∧ Asc ts ∧ Stp a H H' ∧ Well H' a) ⟨[], upd_same, rfl, (fun _ h => nomatch h), s0, hw.same (upd_sm (Same.refl _) nD)⟩ ?_ ?_
    · rintro i H1 hi ⟨ts, hD, hl, ha, s1, hw1⟩
      walk_at "f"
      refine ⟨rfl, ?_⟩
      walk_at "f"
      rw [litDg]
      refine ⟨_, rfl, by decide, fun p np => ?_⟩
      have sp := upd_sm (Same.refl H1) np (o := .lst (sgV [48, 49, 50, 51, 52, 53, 54, 55, 56, 57]))
      refine ⟨a, p, _, rfl, hw1.same sp, upd_same, hw1.ne_none np, by decide, by decide, fun v H2 hv s2 hw2 => ?_⟩
      obtain ⟨c, hc, rfl⟩ := List.mem_map.mp hv
      have hc : c < 128 := by
        simp only [List.mem_cons, List.not_mem_nil, or_false] at hc
        omega
      have n2 : a ≠ D := Ne.symm neD
      refine ⟨sgV ts, s2 _ _ neD (sp _ _ hD), Nat.lt_of_le_of_lt (m := 100) (by unfold sgV; rw [List.length_map]; omega) (by decide), ts ++ [c], ?_, by simp [hl], fun x hx => ?_, fun b o nb e => ?_, ?_⟩
      · rw [upd_same]
        unfold sgV
        rw [List.map_append]
        rfl
      · rcases List.mem_append.mp hx with hx | hx
        · exact ha x hx
        · rw [List.mem_singleton.mp hx]; exact hc
      · rw [upd_ne (ne_of_none e nD)]
        exact (s1.trans (Stp.of sp)).trans s2 b o nb e
      · obtain ⟨x, y, z, e, h⟩ := hw2
        exact ⟨x, y, z, by rw [upd_ne n2]; exact e, h⟩
    · rintro H1 ⟨ts, hD, hl, ha, s1, hw1⟩
      refine ⟨_, D, ts.map fun c => Sx [c], rfl, rfl, .inl (SqL.of (by rw [hD]; unfold sgV; rw [List.map_map]; rfl)), ?_, ?_⟩
      · rw [lens_sg, litN, Sx_len]
        simp only [List.length_map, List.length_nil]
        omega
      · rw [litN, join_sg]
        exact q _ _ ⟨ts, rfl, by omega, ha⟩ s1 hw1
/-! _law_half -/
theorem sc_Lhalf : FnScope ["_law_well_here", "_law_whole", "_law_far"] ["_law_well_here"] (defScope s_Lhalf) := ⟨rfl, rfl, rfl, by decide +kernel, rfl, by decide +kernel, by decide +kernel⟩
theorem TxA.mono {n m : Nat} {v : V} (h : TxA n v) (hm : n ≤ m) : TxA m v := by
  obtain ⟨l, e, hl, ha⟩ := h
  exact ⟨l, e, Nat.le_trans hl hm, ha⟩
theorem txa_int {k : Int} (h0 : 0 ≤ k) (h : k < 2 ^ 100) : TxA 40 (.str ((toString k : String) : Str)) := by
  obtain ⟨n, rfl⟩ := Int.eq_ofNat_of_zero_le h0
  have e : (Str.ofString (toString ((n : Nat) : Int)) : Str) = Sx (TL.numL n) := by
    rw [← TL.tl_num]
  have hn : n < 10 ^ 40 := Nat.lt_of_lt_of_le (m := 2 ^ 100) (by omega) (by decide)
  exact ⟨_, by show V.str (Str.ofString (toString ((n : Nat) : Int))) = _; rw [e], TL.numL_len (by decide) hn, fun c hc => by
    have := TL.numL_digits n c hc
    omega⟩
theorem txa_num {k : Int} (h0 : 0 ≤ k) (h : k < 1000) : TxA 3 (.str ((toString k : String) : Str)) := by
  obtain ⟨n, rfl⟩ := Int.eq_ofNat_of_zero_le h0
  have e : (Str.ofString (toString ((n : Nat) : Int)) : Str) = Sx (TL.numL n) := by
    rw [← TL.tl_num]
  exact ⟨_, by show V.str (Str.ofString (toString ((n : Nat) : Int))) = _; rw [e], TL.numL_len (by decide) (by omega), fun c hc => by
    have := TL.numL_digits n c hc
    omega⟩
def txB (n : Nat) : V → Bool
  | .str z => decide (z.length ≤ n) && z.cps.toList.all fun c => decide (c < 128)
  | _ => false
theorem txa_all {n : Nat} {zs : List V} {v : V} (hv : v ∈ zs) (h : zs.all (txB n) = true) : TxA n v := by
  have h := List.all_eq_true.mp h v hv
  cases v with
  | str z =>
    have h : (decide (z.length ≤ n) && z.cps.toList.all fun c => decide (c < 128)) = true := h
    rw [Bool.and_eq_true] at h
    refine ⟨z.cps.toList, congrArg V.str (SX.S_tl z).symm, ?_, fun c hc => of_decide_eq_true (List.all_eq_true.mp h.2 c hc)⟩
    rw [Array.length_toList]
    exact of_decide_eq_true h.1
  | _ => cases h
theorem asc_app {a b : List Nat} (h : Asc a) (k : Asc b) : Asc (a ++ b) := fun c hc => (List.mem_append.mp hc).elim (h c) (k c)
theorem asc_take {a : List Nat} {n : Nat} (h : Asc a) : Asc (a.take n) := fun c hc => h c (List.mem_of_mem_take hc)
theorem asc_drop {a : List Nat} {n : Nat} (h : Asc a) : Asc (a.drop n) := fun c hc => h c (List.mem_of_mem_drop hc)
theorem g_cat {a b : List Nat} {H : Hp} {Q : VK} (hz : a.length + b.length ≤ 100000) (h : Q (.str (Sx (a ++ b))) H) : oAdd K (.str (Sx a)) (.str (Sx b)) H Q :=
  g_addS (by rw [Sx_len, Sx_len]; exact Nat.le_trans hz (by decide)) (by rw [Sx_cat]; exact h)
def sp_Lhalf : Sp := fun vs H Q _ => ∃ (a : Addr), vs = [.ref a] ∧ Well H a ∧ ∀ v H', TxA 40 v → Stp a H H' → Well H' a → Q v H'
theorem ok_Lhalf {f : Addr} {fd : FuncData} (F : FunD K "_law_half" "_law_half" (defArgs s_Lhalf) (defBody s_Lhalf) (defScope s_Lhalf) [] [] f fd) (B : Blt mg) (c_Ldraw : Fn P w K mg base CX0 1 "_law_draw" ["_law_well_here", "_law_many"] [] sp_Ldraw) (c_Lone : Fn P w K mg base CX0 2 "_law_one" ["_law_well_here", "_law_some"] [] sp_Lone)
    (c_Lgreat : Fn P w K mg base CX0 2 "_law_great" ["_law_well_here", "_law_bits"] [] sp_Lgreat) : FnOk P w K mg base CX0 3 f fd ["_law_well_here"] sp_Lhalf := by
  refine F.ok sc_Lhalf (fun vs H Q E h => ?_) (fun cdv A outer s H vs Q E hr h => ?_)
  · obtain ⟨a, rfl, _⟩ := h; rfl
  · obtain ⟨a, rfl, hw, q⟩ := h
    refine ⟨_, PSs.nox (pss_cons (ps_set (i := 1) sc_Lhalf.nd rfl (Or.inl rfl) (pe_op op_oAdd (pe_op op_oAdd (pe_op op_oShl pe_int pe_int) (pe_op op_oMul pe_int (pe_fn c_Lgreat (hr.mono (by first | decide | omega)) pass0 (pa_cons (pv 0) (pa_cons pe_int pa_nil))))) pe_int))
  (pss_cons (ps_set (i := 2) sc_Lhalf.nd rfl (Or.inl rfl) (pe_fn c_Ldraw (hr.mono (by first | decide | omega)) pass0 (pa_cons (pv 0) (pa_cons pe_int pa_nil))))
  (pss_one (ps_ret (pe_callTy call_str_int (by rfl) B.str (by decide +kernel) (pa_cons (pe_op op_oAdd (pe_op op_oShl (pv 1) (pv 2)) (pe_fn c_Lone (hr.mono (by first | decide | omega)) pass0 (pa_cons (pv 0) (pa_cons (pe_lstN (pa_cons pe_int (pa_cons pe_int (pa_cons pe_int (pa_cons (pe_un un_neg pe_int) pa_nil))))) pa_nil)))) pa_nil)))))), ?_⟩
    walk_at "f"
    refine g_II (shl_small (by decide) (by decide) (lt_pow_mono (a := 1) (by decide) (by decide))) ?_
    walk_at "f"
    refine ⟨a, 52, rfl, by decide, by decide, hw, fun g H1 g0 g1 s1 hw1 => ?_⟩
    walk_at "f"
    refine g_mulI (.of_left (by decide)) ?_
    walk_at "f"
    refine ⟨a, _, rfl, by decide, by decide, hw1, fun d H2 d0 d1 s2 hw2 => ?_⟩
    walk_at "f"
    rw [show (1 : Int) * 2 ^ Int.toNat 54 = 18014398509481984 by decide]
    have g1 : g < 4503599627370496 := g1
    have hd : (2 : Int) ^ d.toNat ≤ 536870912 := by
      have : (2 : Nat) ^ d.toNat ≤ 2 ^ 29 := Nat.pow_le_pow_right (by decide) (by omega)
      have e : (2 : Int) ^ d.toNat = ((2 ^ d.toNat : Nat) : Int) := by rw [Int.natCast_pow]; rfl
      rw [e]
      exact Int.ofNat_le.mpr this
    have hd0 : (1 : Int) ≤ 2 ^ d.toNat := Int.pow_pos (by decide)
    refine g_II (shl_small (by omega) (by omega) (lt_pow_mono (a := 60) (by omega) (by decide))) ?_
    walk_at "f"
    refine g_new (sz rfl) fun l3 H3 n3 s3 h3 _ => ?_
    refine ⟨a, l3, _, rfl, hw2.same s3, h3, hw2.ne_none n3, by decide, by decide, fun v H4 hv s4 hw4 => ?_⟩
    have S4 := ((s1.trans s2).trans (Stp.of s3)).trans s4
    obtain ⟨x, rfl, x0, x1⟩ : ∃ x : Int, v = .int x ∧ -1 ≤ x ∧ x ≤ 1 := by
      rcases List.mem_cons.mp hv with rfl | hv
      · exact ⟨_, rfl, by decide, by decide⟩
      rcases List.mem_cons.mp hv with rfl | hv
      · exact ⟨_, rfl, by decide, by decide⟩
      rcases List.mem_cons.mp hv with rfl | hv
      · exact ⟨_, rfl, by decide, by decide⟩
      rw [List.mem_singleton.mp hv]
      exact ⟨_, rfl, by decide, by decide⟩
    generalize hp : (2 : Int) ^ d.toNat = p at *
    have b1 : (18014398509481984 + 2 * g + 1) * p ≤ 36028797018963968 * 536870912 := Int.mul_le_mul (by omega) hd (by omega) (by omega)
    have b0 : 1 * 1 ≤ (18014398509481984 + 2 * g + 1) * p := Int.mul_le_mul (by omega) hd0 (by omega) (by omega)
    have b2 : (36028797018963968 * 536870912 + 1 : Int) < 2 ^ 100 := by decide
    generalize (18014398509481984 + 2 * g + 1) * p = u at *
    walk_at "f"
    refine ⟨Nat.lt_trans (log2_lt (k := 100) (by omega) (by decide)) (by decide), ?_⟩
    exact q _ _ (txa_int (by omega) (by omega)) S4 hw4
/-! _law_text -/
theorem sc_Ltext : FnScope ["_law_well_here", "_law_ahead", "_law_behind", "_law_sign", "_law_way", "_law_plain", "_law_many", "_law_far", "_law_point", "_law_pointed", "_law_some"] ["_law_well_here"] (defScope s_Ltext) := ⟨rfl, rfl, rfl, by decide +kernel, rfl, by decide +kernel, by decide +kernel⟩
def sp_Ltext : Sp := fun vs H Q _ => ∃ (a : Addr), vs = [.ref a] ∧ Well H a ∧ ∀ v H', TxA 200 v → Stp a H H' → Well H' a → Q v H'
theorem ok_Ltext {f : Addr} {fd : FuncData} (F : FunD K "_law_text" "_law_text" (defArgs s_Ltext) (defBody s_Ltext) (defScope s_Ltext) [] [] f fd) (B : Blt mg) (c_Ldraw : Fn P w K mg base CX0 1 "_law_draw" ["_law_well_here", "_law_many"] [] sp_Ldraw) (c_Lone : Fn P w K mg base CX0 2 "_law_one" ["_law_well_here", "_law_some"] [] sp_Lone)
    (c_Lfigures : Fn P w K mg base CX0 3 "_law_figures" ["_law_well_here", "_law_many"] [] sp_Lfigs) (c_Lhalf : Fn P w K mg base CX0 3 "_law_half" ["_law_well_here"] [] sp_Lhalf) : FnOk P w K mg base CX0 4 f fd ["_law_well_here"] sp_Ltext := by
  refine F.ok sc_Ltext (fun vs H Q E h => ?_) (fun cdv A outer s H vs Q E hr h => ?_)
  · obtain ⟨a, rfl, _⟩ := h; rfl
  · obtain ⟨a, rfl, hw, q⟩ := h
    refine ⟨_, PSs.nox (pss_cons (ps_par (i := 1) (j := 2) rfl sc_Ltext.nd rfl rfl (by decide) rfl rfl (pa_cons (pe_fn c_Lone (hr.mono (by first | decide | omega)) pass0 (pa_cons (pv 0) (pa_cons (pe_lstN (pa_cons pe_str (pa_cons pe_str (pa_cons pe_str (pa_cons pe_str pa_nil))))) pa_nil))) (pa_cons (pe_fn c_Lone (hr.mono (by first | decide | omega)) pass0 (pa_cons (pv 0) (pa_cons (pe_lstN (pa_cons pe_str (pa_cons pe_str (pa_cons pe_str (pa_cons pe_str pa_nil))))) pa_nil))) pa_nil)) (by rfl))
  (pss_cons (ps_par (i := 3) (j := 4) rfl sc_Ltext.nd rfl rfl (by decide) rfl rfl (pa_cons (pe_fn c_Lone (hr.mono (by first | decide | omega)) pass0 (pa_cons (pv 0) (pa_cons (pe_lstN (pa_cons pe_str (pa_cons pe_str (pa_cons pe_str (pa_cons pe_str pa_nil))))) pa_nil))) (pa_cons (pe_fn c_Ldraw (hr.mono (by first | decide | omega)) pass0 (pa_cons (pv 0) (pa_cons pe_int pa_nil))) pa_nil)) (by rfl))
  (pss_cons (ps_set (i := 5) sc_Ltext.nd rfl (Or.inl rfl) (pe_fn c_Lfigures (hr.mono (by first | decide | omega)) pass0 (pa_cons (pv 0) (pa_cons (pe_op op_oAdd pe_int (pe_fn c_Ldraw (hr.mono (by first | decide | omega)) pass0 (pa_cons (pv 0) (pa_cons (pe_fn c_Lone (hr.mono (by first | decide | omega)) pass0 (pa_cons (pv 0) (pa_cons (pe_lstN (pa_cons pe_int (pa_cons pe_int (pa_cons pe_int pa_nil)))) pa_nil))) pa_nil)))) pa_nil))))
  (pss_cons (ps_set (i := 6) sc_Ltext.nd rfl (Or.inl rfl) (pe_callTy call_str_int (by rfl) B.str (by decide +kernel) (pa_cons (pe_fn c_Ldraw (hr.mono (by first | decide | omega)) pass0 (pa_cons (pv 0) (pa_cons (pe_fn c_Lone (hr.mono (by first | decide | omega)) pass0 (pa_cons (pv 0) (pa_cons (pe_lstN (pa_cons pe_int (pa_cons pe_int (pa_cons pe_int pa_nil)))) pa_nil))) pa_nil))) pa_nil)))
  (pss_cons (ps_set (i := 7) sc_Ltext.nd rfl (Or.inl rfl) (pe_op op_oAdd (pe_op op_oAdd (pe_fn c_Lone (hr.mono (by first | decide | omega)) pass0 (pa_cons (pv 0) (pa_cons (pe_lstN (pa_cons pe_str (pa_cons pe_str pa_nil))) pa_nil))) (pe_fn c_Lone (hr.mono (by first | decide | omega)) pass0 (pa_cons (pv 0) (pa_cons (pe_lstN (pa_cons pe_str (pa_cons pe_str (pa_cons pe_str pa_nil)))) pa_nil)))) (pv 6)))
  (pss_cons (ps_set (i := 8) sc_Ltext.nd rfl (Or.inl rfl) (pe_fn c_Ldraw (hr.mono (by first | decide | omega)) pass0 (pa_cons (pv 0) (pa_cons (pe_op op_oAdd (pe_callB call_len_str (by rfl) B.len (by decide +kernel) (pa_cons (pv 5) pa_nil)) pe_int) pa_nil))))
  (pss_cons (ps_set (i := 9) sc_Ltext.nd rfl (Or.inl rfl) (pe_op op_oAdd (pe_op op_oAdd (pe_slice sl_str (pv 5) po_none (po_some (pv 8))) pe_str) (pe_slice sl_str (pv 5) (po_some (pv 8)) po_none)))
  (pss_cons (ps_set (i := 10) sc_Ltext.nd rfl (Or.inl rfl) (pe_lstN (pa_cons (pv 5) (pa_cons (pe_callTy call_str_int (by rfl) B.str (by decide +kernel) (pa_cons (pe_op op_oSub (pe_op op_oAdd (pe_op op_oShl pe_int pe_int) (pe_fn c_Ldraw (hr.mono (by first | decide | omega)) pass0 (pa_cons (pv 0) (pa_cons pe_int pa_nil)))) pe_int) pa_nil)) (pa_cons (pe_fn c_Lhalf (hr.mono (by first | decide | omega)) pass0 (pa_cons (pv 0) pa_nil)) (pa_cons (pe_op op_oAdd (pe_op op_oAdd (pe_op op_oAdd (pe_fn c_Lhalf (hr.mono (by first | decide | omega)) pass0 (pa_cons (pv 0) pa_nil)) pe_str) (pv 5)) (pv 7)) pa_nil))))))
  (pss_cons (ps_set (i := 10) sc_Ltext.nd rfl (Or.inl rfl) (pe_op op_oAdd (pv 10) (pe_lstN (pa_cons (pe_op op_oAdd (pe_op op_oAdd (pe_op op_oAdd pe_str (pe_fn c_Lone (hr.mono (by first | decide | omega)) pass0 (pa_cons (pv 0) (pa_cons (pe_lstN (pa_cons pe_str (pa_cons pe_str pa_nil))) pa_nil)))) (pe_fn c_Lone (hr.mono (by first | decide | omega)) pass0 (pa_cons (pv 0) (pa_cons (pe_lstN (pa_cons pe_str (pa_cons pe_str (pa_cons pe_str (pa_cons pe_str pa_nil))))) pa_nil)))) (pv 5)) pa_nil))))
  (pss_cons (ps_set (i := 10) sc_Ltext.nd rfl (Or.inl rfl) (pe_op op_oAdd (pv 10) (pe_lstN (pa_cons (pv 9) (pa_cons (pe_op op_oAdd (pv 9) (pv 7)) (pa_cons (pe_op op_oAdd (pv 5) (pv 7)) (pa_cons (pe_op op_oAdd pe_str (pv 7)) pa_nil)))))))
  (pss_one (ps_ret (pe_op op_oAdd (pe_op op_oAdd (pe_op op_oAdd (pv 1) (pv 3)) (pe_ix ix_seq (pv 10) (pv 4) (fun _ _ => rfl))) (pv 2)))))))))))))), ?_⟩
    walk_at "f"
    refine g_new (sz rfl) fun l1 H1 n1 s1 h1 _ => ?_
    refine ⟨a, l1, _, rfl, hw.same s1, h1, hw.ne_none n1, by decide, by decide, fun v1 H2 hv1 s2 hw2 => ?_⟩
    have S := (Stp.of (w := a) s1).trans s2
    replace hv1 : TxA 3 v1 := txa_all hv1 (by decide +kernel)
    walk_at "f"
    refine g_new (sz rfl) fun l3 H3 n3 s3 h3 _ => ?_
    refine ⟨a, l3, _, rfl, hw2.same s3, h3, hw2.ne_none n3, by decide, by decide, fun v2 H4 hv2 s4 hw4 => ?_⟩
    replace S := (S.trans (Stp.of s3)).trans s4
    replace hv2 : TxA 3 v2 := txa_all hv2 (by decide +kernel)
    walk_at "f"
    refine g_new (sz rfl) fun l5 H5 n5 s5 h5 _ => ?_
    refine ⟨a, l5, _, rfl, hw4.same s5, h5, hw4.ne_none n5, by decide, by decide, fun v3 H6 hv3 s6 hw6 => ?_⟩
    replace S := (S.trans (Stp.of s5)).trans s6
    replace hv3 : TxA 3 v3 := txa_all hv3 (by decide +kernel)
    walk_at "f"
    refine ⟨a, _, rfl, by decide, by decide, hw6, fun way H7 way0 way1 s7 hw7 => ?_⟩
    replace S := S.trans s7
    walk_at "f"
    refine g_new (sz rfl) fun l8 H8 n8 s8 h8 _ => ?_
    refine ⟨a, l8, _, rfl, hw7.same s8, h8, hw7.ne_none n8, by decide, by decide, fun v9 H9 hv9 s9 hw9 => ?_⟩
    replace S := (S.trans (Stp.of s8)).trans s9
    obtain ⟨m9, rfl, a9, b9⟩ : ∃ m : Int, v9 = .int m ∧ 0 < m ∧ m ≤ 40 := by
      rcases List.mem_cons.mp hv9 with rfl | hv9
      · exact ⟨_, rfl, by decide, by decide⟩
      rcases List.mem_cons.mp hv9 with rfl | hv9
      · exact ⟨_, rfl, by decide, by decide⟩
      rw [List.mem_singleton.mp hv9]
      exact ⟨_, rfl, by decide, by decide⟩
    refine ⟨a, _, rfl, a9, by omega, hw9, fun d10 H10 a10 b10 s10 hw10 => ?_⟩
    replace S := S.trans s10
    walk_at "f"
    refine ⟨a, _, rfl, by omega, by omega, hw10, fun v11 H11 hv11 s11 hw11 => ?_⟩
    replace S := S.trans s11
    replace hv11 : TxA 40 v11 := hv11.mono (by omega)
    obtain ⟨pl, rfl, pl1, pl2⟩ := hv11
    walk_at "f"
    refine g_new (sz rfl) fun l12 H12 n12 s12 h12 _ => ?_
    refine ⟨a, l12, _, rfl, hw11.same s12, h12, hw11.ne_none n12, by decide, by decide, fun v13 H13 hv13 s13 hw13 => ?_⟩
    replace S := (S.trans (Stp.of s12)).trans s13
    obtain ⟨m13, rfl, a13, b13⟩ : ∃ m : Int, v13 = .int m ∧ 0 < m ∧ m ≤ 400 := by
      rcases List.mem_cons.mp hv13 with rfl | hv13
      · exact ⟨_, rfl, by decide, by decide⟩
      rcases List.mem_cons.mp hv13 with rfl | hv13
      · exact ⟨_, rfl, by decide, by decide⟩
      rw [List.mem_singleton.mp hv13]
      exact ⟨_, rfl, by decide, by decide⟩
    refine ⟨a, _, rfl, a13, by omega, hw13, fun d14 H14 a14 b14 s14 hw14 => ?_⟩
    replace S := S.trans s14
    walk_at "f"
    refine ⟨Nat.lt_trans (log2_lt (k := 100) (by omega) (by decide)) (by decide), ?_⟩
    obtain ⟨ml, em, ml1, ml2⟩ : TxA 3 (.str ((toString d14 : String) : Str)) := txa_num a14 (by omega)
    rw [em]
    clear em
    walk_at "f"
    refine g_new (sz rfl) fun l15 H15 n15 s15 h15 _ => ?_
    refine ⟨a, l15, _, rfl, hw14.same s15, h15, hw14.ne_none n15, by decide, by decide, fun v16 H16 hv16 s16 hw16 => ?_⟩
    replace S := (S.trans (Stp.of s15)).trans s16
    obtain ⟨q16, rfl, ql16, qa16⟩ : TxA 1 v16 := txa_all hv16 (by decide +kernel)
    walk_at "f"
    refine g_new (sz rfl) fun l17 H17 n17 s17 h17 _ => ?_
    refine ⟨a, l17, _, rfl, hw16.same s17, h17, hw16.ne_none n17, by decide, by decide, fun v18 H18 hv18 s18 hw18 => ?_⟩
    replace S := (S.trans (Stp.of s17)).trans s18
    obtain ⟨q18, rfl, ql18, qa18⟩ : TxA 1 v18 := txa_all hv18 (by decide +kernel)
    walk_at "f"
    refine g_cat (by omega) ?_
    walk_at "f"
    refine g_cat (by simp only [List.length_append]; omega) ?_
    walk_at "f"
    obtain ⟨fr, er, frl, fra⟩ : ∃ r : List Nat, q16 ++ q18 ++ ml = r ∧ r.length ≤ 5 ∧ Asc r := ⟨_, rfl, by simp only [List.length_append]; omega, asc_app (asc_app qa16 qa18) ml2⟩
    rw [er]
    clear er
    refine ⟨_, rfl, by rw [Sx_len]; exact Nat.le_trans pl1 (by decide), ?_⟩
    rw [Sx_len]
    walk_at "f"
    refine ⟨a, _, rfl, by omega, by omega, hw18, fun d19 H19 a19 b19 s19 hw19 => ?_⟩
    replace S := S.trans s19
    walk_at "f"
    refine g_slS (by rw [Sx_len]; exact Nat.le_trans pl1 (by decide)) ?_
    rw [cut_to _ (by omega)]
    walk_at "f"
    rw [litP]
    refine g_cat (by simp only [List.length_take, List.length_cons, List.length_nil]; omega) ?_
    walk_at "f"
    refine g_slS (by rw [Sx_len]; exact Nat.le_trans pl1 (by decide)) ?_
    rw [cut_from _ (by omega)]
    refine g_cat (by simp only [List.length_take, List.length_drop, List.length_append, List.length_cons, List.length_nil]; omega) ?_
    walk_at "f"
    obtain ⟨po, eo, pol, poa⟩ : ∃ r : List Nat, pl.take d19.toNat ++ [46] ++ pl.drop d19.toNat = r ∧ r.length ≤ 100 ∧ Asc r := ⟨_, rfl, by simp only [List.length_take, List.length_drop, List.length_append, List.length_cons, List.length_nil]; omega, asc_app (asc_app (asc_take pl2) (by decide)) (asc_drop pl2)⟩
    rw [eo]
    clear eo
    refine g_II (shl_small (by decide) (by decide) (lt_pow_mono (a := 1) (by decide) (by decide))) ?_
    walk_at "f"
    refine ⟨a, _, rfl, by decide, by decide, hw19, fun d20 H20 a20 b20 s20 hw20 => ?_⟩
    replace S := S.trans s20
    walk_at "f"
    rw [show (1 : Int) * 2 ^ Int.toNat 63 = 9223372036854775808 by decide]
    refine ⟨Nat.lt_trans (log2_lt (k := 100) (by omega) (by decide)) (by decide), ?_⟩
    obtain ⟨il, em, il1, il2⟩ : TxA 40 (.str ((toString (9223372036854775808 + d20 - 3) : String) : Str)) := txa_int (by omega) (by omega)
    rw [em]
    clear em
    walk_at "f"
    refine ⟨a, rfl, hw20, fun v21 H21 hv21 s21 hw21 => ?_⟩
    replace S := S.trans s21
    obtain ⟨w21, rfl, wl21, wa21⟩ := hv21
    walk_at "f"
    refine ⟨a, rfl, hw21, fun v22 H22 hv22 s22 hw22 => ?_⟩
    replace S := S.trans s22
    obtain ⟨w22, rfl, wl22, wa22⟩ := hv22
    walk_at "f"
    refine g_cat (by simp only [List.length_cons, List.length_nil]; omega) ?_
    walk_at "f"
    refine g_cat (by simp only [List.length_append, List.length_cons, List.length_nil]; omega) ?_
    walk_at "f"
    refine g_cat (by simp only [List.length_append, List.length_cons, List.length_nil]; omega) ?_
    walk_at "f"
    obtain ⟨hr, eh, hrl, hra⟩ : ∃ r : List Nat, w22 ++ [46] ++ pl ++ fr = r ∧ r.length ≤ 150 ∧ Asc r := ⟨_, rfl, by simp only [List.length_append, List.length_cons, List.length_nil]; omega, asc_app (asc_app (asc_app wa22 (by decide)) pl2) fra⟩
    rw [eh]
    clear eh
    refine g_new (sz rfl) fun l23 H23 n23 s23 h23 _ => ?_
    replace S := S.trans (Stp.of s23)
    have hw23 := hw22.same s23
    have c23 : ∀ v ∈ [V.str (Sx pl), V.str (Sx il), V.str (Sx w21), V.str (Sx hr)], TxA 160 v := by
      intro v hv
      rcases List.mem_cons.mp hv with rfl | hv
      · exact ⟨_, rfl, by omega, pl2⟩
      rcases List.mem_cons.mp hv with rfl | hv
      · exact ⟨_, rfl, by omega, il2⟩
      rcases List.mem_cons.mp hv with rfl | hv
      · exact ⟨_, rfl, by omega, wa21⟩
      rw [List.mem_singleton.mp hv]
      exact ⟨_, rfl, by omega, hra⟩
    walk_at "f"
    refine g_new (sz rfl) fun l24 H24 n24 s24 h24 _ => ?_
    refine ⟨a, l24, _, rfl, hw23.same s24, h24, hw23.ne_none n24, by decide, by decide, fun v25 H25 hv25 s25 hw25 => ?_⟩
    have T25 := (Stp.of (w := a) s24).trans s25
    obtain ⟨q25, rfl, ql25, qa25⟩ : TxA 1 v25 := txa_all hv25 (by decide +kernel)
    walk_at "f"
    rw [lit0]
    refine g_cat (by simp only [List.length_cons, List.length_nil]; omega) ?_
    walk_at "f"
    refine g_new (sz rfl) fun l26 H26 n26 s26 h26 _ => ?_
    refine ⟨a, l26, _, rfl, hw25.same s26, h26, hw25.ne_none n26, by decide, by decide, fun v27 H27 hv27 s27 hw27 => ?_⟩
    replace T25 := (T25.trans (Stp.of s26)).trans s27
    obtain ⟨q27, rfl, ql27, qa27⟩ : TxA 16 v27 := txa_all hv27 (by decide +kernel)
    walk_at "f"
    refine g_cat (by simp only [List.length_append, List.length_cons, List.length_nil]; omega) ?_
    walk_at "f"
    refine g_cat (by simp only [List.length_append, List.length_cons, List.length_nil]; omega) ?_
    walk_at "f"
    obtain ⟨xr, eh, xrl, xra⟩ : ∃ r : List Nat, [48] ++ q25 ++ q27 ++ pl = r ∧ r.length ≤ 150 ∧ Asc r := ⟨_, rfl, by simp only [List.length_append, List.length_cons, List.length_nil]; omega, asc_app (asc_app (asc_app (by decide) qa25) qa27) pl2⟩
    rw [eh]
    clear eh
    refine g_new (sz rfl) fun l28 H28 n28 s28 h28 _ => ?_
    have l23a := hw22.ne_none n23
    refine .inl ⟨l23, l28, _, _, rfl, rfl, SqL.of (s28 _ _ (T25 _ _ l23a h23)), SqL.of h28, sz rfl, fun l29 H29 n29 s29 h29 _ => ?_⟩
    replace S := ((S.trans T25).trans (Stp.of s28)).trans (Stp.of s29)
    have hw29 := (hw27.same s28).same s29
    walk_at "f"
    refine g_cat (by omega) ?_
    walk_at "f"
    refine g_cat (by omega) ?_
    walk_at "f"
    refine g_cat (by simp only [List.length_cons, List.length_nil]; omega) ?_
    walk_at "f"
    refine g_new (sz rfl) fun l30 H30 n30 s30 h30 _ => ?_
    refine .inl ⟨l29, l30, _, _, rfl, rfl, SqL.of (s30 _ _ h29), SqL.of h30, sz rfl, fun l31 H31 n31 s31 h31 _ => ?_⟩
    replace S := (S.trans (Stp.of s30)).trans (Stp.of s31)
    have hw31 := (hw29.same s30).same s31
    obtain ⟨r1, rfl, rl1, ra1⟩ := hv1
    obtain ⟨r2, rfl, rl2, ra2⟩ := hv2
    obtain ⟨r3, rfl, rl3, ra3⟩ := hv3
    walk_at "f"
    refine g_cat (by omega) ?_
    have all : ∀ v ∈ [V.str (Sx pl), V.str (Sx il), V.str (Sx w21), V.str (Sx hr)] ++ [V.str (Sx xr)] ++ [V.str (Sx po), V.str (Sx (po ++ fr)), V.str (Sx (pl ++ fr)), V.str (Sx ([46] ++ fr))], TxA 160 v := by
      intro v hv
      rcases List.mem_append.mp hv with hv | hv
      · rcases List.mem_append.mp hv with hv | hv
        · exact c23 v hv
        · rw [List.mem_singleton.mp hv]
          exact ⟨_, rfl, by omega, xra⟩
      rcases List.mem_cons.mp hv with rfl | hv
      · exact ⟨_, rfl, by omega, poa⟩
      rcases List.mem_cons.mp hv with rfl | hv
      · exact ⟨_, rfl, by simp only [List.length_append]; omega, asc_app poa fra⟩
      rcases List.mem_cons.mp hv with rfl | hv
      · exact ⟨_, rfl, by simp only [List.length_append]; omega, asc_app pl2 fra⟩
      rw [List.mem_singleton.mp hv]
      exact ⟨_, rfl, by simp only [List.length_append, List.length_cons, List.length_nil]; omega, asc_app (by decide) fra⟩
    walk_at "f"
    obtain ⟨n, rfl⟩ := Int.eq_ofNat_of_zero_le way0
    have hn : n < 9 := by omega
    have hz : n < ([V.str (Sx pl), V.str (Sx il), V.str (Sx w21), V.str (Sx hr)] ++ [V.str (Sx xr)] ++ [V.str (Sx po), V.str (Sx (po ++ fr)), V.str (Sx (pl ++ fr)), V.str (Sx ([46] ++ fr))]).length := hn
    obtain ⟨zr, ez, zrl, zra⟩ := all _ (List.getElem_mem hz)
    have ea : atI ([V.str (Sx pl), V.str (Sx il), V.str (Sx w21), V.str (Sx hr)] ++ [V.str (Sx xr)] ++ [V.str (Sx po), V.str (Sx (po ++ fr)), V.str (Sx (pl ++ fr)), V.str (Sx ([46] ++ fr))]) ((n : Nat) : Int) = some (.str (Sx zr)) := by
      have e : ixN ([V.str (Sx pl), V.str (Sx il), V.str (Sx w21), V.str (Sx hr)] ++ [V.str (Sx xr)] ++ [V.str (Sx po), V.str (Sx (po ++ fr)), V.str (Sx (pl ++ fr)), V.str (Sx ([46] ++ fr))]).length ((n : Nat) : Int) = some n := by
        unfold ixN
        rw [if_pos (by omega), if_pos (by exact_mod_cast hz)]
        rfl
      unfold atI
      rw [e, ← ez]
      exact List.getElem?_eq_getElem hz
    refine g_ixL h31 ea ?_
    refine g_cat (by simp only [List.length_append]; omega) ?_
    walk_at "f"
    refine g_cat (by simp only [List.length_append]; omega) ?_
    exact q _ _ ⟨_, rfl, by simp only [List.length_append]; omega, asc_app (asc_app (asc_app ra1 ra3) zra) ra2⟩ S hw31
theorem litOdd : ("0.e-+xX 1naif" : Str) = Sx [48, 46, 101, 45, 43, 120, 88, 32, 49, 110, 97, 105, 102] := by decide +kernel
/-! _law_bent -/
theorem sc_Lbent : FnScope ["_law_well_here", "_law_text_here", "_law_at", "_law_odd"] ["_law_well_here", "_law_text_here"] (defScope s_Lbent) := ⟨rfl, rfl, rfl, by decide +kernel, rfl, by decide +kernel, by decide +kernel⟩
def sp_Lbent : Sp := fun vs H Q _ => ∃ (a : Addr) (n : Nat) (v : V), vs = [.ref a, v] ∧ n ≤ 1000 ∧ TxA n v ∧ Well H a ∧ ∀ v H', TxA (n + 3) v → Stp a H H' → Well H' a → Q v H'
theorem ok_Lbent {f : Addr} {fd : FuncData} (F : FunD K "_law_bent" "_law_bent" (defArgs s_Lbent) (defBody s_Lbent) (defScope s_Lbent) [] [] f fd) (B : Blt mg) (c_Ldraw : Fn P w K mg base CX0 1 "_law_draw" ["_law_well_here", "_law_many"] [] sp_Ldraw) (c_Lone : Fn P w K mg base CX0 2 "_law_one" ["_law_well_here", "_law_some"] [] sp_Lone) :
    FnOk P w K mg base CX0 3 f fd ["_law_well_here", "_law_text_here"] sp_Lbent := by
  refine F.ok sc_Lbent (fun vs H Q E h => ?_) (fun cdv A outer s H vs Q E hr h => ?_)
  · obtain ⟨a, n, v, rfl, _⟩ := h; rfl
  · obtain ⟨a, n, v, rfl, n1, ⟨l, rfl, l1, la⟩, hw, q⟩ := h
    refine ⟨_, PSs.nox (pss_cons (ps_set (i := 2) sc_Lbent.nd rfl (Or.inl rfl) (pe_fn c_Ldraw (hr.mono (by first | decide | omega)) pass0 (pa_cons (pv 0) (pa_cons (pe_op op_oAdd (pe_callB call_len_str (by rfl) B.len (by decide +kernel) (pa_cons (pv 1) pa_nil)) pe_int) pa_nil))))
  (pss_cons (ps_set (i := 3) sc_Lbent.nd rfl (Or.inl rfl) (pe_fn c_Lone (hr.mono (by first | decide | omega)) pass0 (pa_cons (pv 0) (pa_cons (pe_op op_oAdd (pe_callTy (call_list_S rfl) (by rfl) B.list (by decide +kernel) (pa_cons pe_str pa_nil)) (pe_lstN (pa_cons pe_str (pa_cons pe_str (pa_cons pe_str (pa_cons pe_str (pa_cons pe_str pa_nil))))))) pa_nil))))
  (pss_one (ps_ret (pe_fn c_Lone (hr.mono (by first | decide | omega)) pass0 (pa_cons (pv 0) (pa_cons (pe_lstN (pa_cons (pe_op op_oAdd (pe_op op_oAdd (pe_slice sl_str (pv 1) po_none (po_some (pv 2))) (pv 3)) (pe_slice sl_str (pv 1) (po_some (pv 2)) po_none)) (pa_cons (pe_op op_oAdd (pe_slice sl_str (pv 1) po_none (po_some (pv 2))) (pe_slice sl_str (pv 1) (po_some (pe_op op_oAdd (pv 2) pe_int)) po_none)) (pa_cons (pe_op op_oAdd (pe_op op_oAdd (pe_slice sl_str (pv 1) po_none (po_some (pv 2))) (pv 3)) (pe_slice sl_str (pv 1) (po_some (pe_op op_oAdd (pv 2) pe_int)) po_none)) pa_nil)))) pa_nil))))))), ?_⟩
    walk_at "f"
    refine ⟨_, rfl, by rw [Sx_len]; exact Nat.le_trans l1 (Nat.le_trans n1 (by decide)), ?_⟩
    rw [Sx_len]
    walk_at "f"
    refine ⟨a, _, rfl, by omega, by omega, hw, fun d H1 d0 d1 s1 hw1 => ?_⟩
    walk_at "f"
    rw [litOdd]
    refine ⟨_, rfl, by decide, fun p np => ?_⟩
    have sp := upd_sm (Same.refl H1) np (o := .lst (sgV [48, 46, 101, 45, 43, 120, 88, 32, 49, 110, 97, 105, 102]))
    walk_at "f"
    refine g_new (sz rfl) fun l2 H2 n2 s2 h2 _ => ?_
    refine .inl ⟨p, l2, _, _, rfl, rfl, SqL.of (s2 _ _ upd_same), SqL.of h2, sz rfl, fun l3 H3 n3 s3 h3 _ => ?_⟩
    have S3 := (sp.trans s2).trans s3
    have hw3 := hw1.same S3
    have all3 : (sgV [48, 46, 101, 45, 43, 120, 88, 32, 49, 110, 97, 105, 102] ++ [V.str "inf", V.str "nan", V.str "0x", V.str "e9", V.str "_"]).all (txB 3) = true := by decide +kernel
    refine ⟨a, l3, _, rfl, hw3, h3, (hw1.same (sp.trans s2)).ne_none n3, by decide, by decide, fun v4 H4 hv4 s4 hw4 => ?_⟩
    have S4 := (s1.trans (Stp.of S3)).trans s4
    obtain ⟨o, rfl, o1, o2⟩ := txa_all hv4 all3
    have big : (Sx l).length ≤ sizeLine := by rw [Sx_len]; exact Nat.le_trans l1 (Nat.le_trans n1 (by decide))
    walk_at "f"
    refine g_slS big ?_
    rw [cut_to _ d0]
    walk_at "f"
    refine g_cat (by simp only [List.length_take]; omega) ?_
    walk_at "f"
    refine g_slS big ?_
    rw [cut_from _ d0]
    refine g_cat (by simp only [List.length_take, List.length_drop, List.length_append]; omega) ?_
    walk_at "f"
    refine g_slS big ?_
    rw [cut_to _ d0]
    walk_at "f"
    refine g_slS big ?_
    rw [cut_from _ (by omega)]
    refine g_cat (by simp only [List.length_take, List.length_drop]; omega) ?_
    walk_at "f"
    refine g_slS big ?_
    rw [cut_to _ d0]
    walk_at "f"
    refine g_cat (by simp only [List.length_take]; omega) ?_
    walk_at "f"
    refine g_slS big ?_
    rw [cut_from _ (by omega)]
    refine g_cat (by simp only [List.length_take, List.length_drop, List.length_append]; omega) ?_
    walk_at "f"
    refine g_new (sz rfl) fun l5 H5 n5 s5 h5 _ => ?_
    refine ⟨a, l5, _, rfl, hw4.same s5, h5, hw4.ne_none n5, Nat.zero_lt_succ _, by simp only [List.length_cons, List.length_nil]; decide, fun v6 H6 hv6 s6 hw6 => ?_⟩
    refine q _ _ ?_ ((S4.trans (Stp.of s5)).trans s6) hw6
    rcases List.mem_cons.mp hv6 with rfl | hv
    · exact ⟨_, rfl, by simp only [List.length_take, List.length_drop, List.length_append]; omega, asc_app (asc_app (asc_take la) o2) (asc_drop la)⟩
    rcases List.mem_cons.mp hv with rfl | hv
    · exact ⟨_, rfl, by simp only [List.length_take, List.length_drop, List.length_append]; omega, asc_app (asc_take la) (asc_drop la)⟩
    rw [List.mem_singleton.mp hv]
    exact ⟨_, rfl, by simp only [List.length_take, List.length_drop, List.length_append]; omega, asc_app (asc_app (asc_take la) o2) (asc_drop la)⟩
end
end Up
set_option Elab.async false
set_option linter.all false
set_option maxRecDepth 100000
set_option maxHeartbeats 4000000
set_option exponentiation.threshold 200000
namespace Up
open PySem PySem.Spec PyProof.Rows L2
/-! ### a text read sign by sign -/
inductive LR where
  | none | int (n : Int) | flt (s : Int) (t b : Nat)
def isHU (c : Nat) : Bool := isX c || (decide (65 ≤ c) && decide (c ≤ 70))
def hexL (l : List Nat) : Nat := hexN (lowL l)
def lawTo (s : Int) (n : Nat) (p : Int) : LR := .flt s (if 0 < p then n * 10 ^ (min 3000 p.natAbs) else n) (if 0 < p then 1 else 10 ^ (min 3000 p.natAbs))
def lawExp (r3 : List Nat) : Option Int :=
  if (sgnOff r3).takeWhile isD = [] ∨ (sgnOff r3).dropWhile isD ≠ [] then none
  else some (if r3.take 1 = [45] then 0 - (dvN ((sgnOff r3).takeWhile isD) : Int) else (dvN ((sgnOff r3).takeWhile isD) : Int))
/-- what stands behind the figures: further figures, the rest -/
def laD2 (r1 : List Nat) : List Nat := if r1.take 1 = [46] then (r1.drop 1).takeWhile isD else []
def laR2 (r1 : List Nat) : List Nat := if r1.take 1 = [46] then (r1.drop 1).dropWhile isD else r1
def lawEnd (r2 : List Nat) : Option Int := if r2.take 1 = [101] ∨ r2.take 1 = [69] then lawExp (r2.drop 1) else if r2 ≠ [] then none else some 0
def lawOpt (s : Int) (n k : Nat) : Option Int → LR
  | none => .none
  | some p => lawTo s n (p - k)
def lawFar (s : Int) (u : List Nat) : LR :=
  if u.takeWhile isD ++ laD2 (u.dropWhile isD) = [] then .none else lawOpt s (dvN (u.takeWhile isD ++ laD2 (u.dropWhile isD))) (laD2 (u.dropWhile isD)).length (lawEnd (laR2 (u.dropWhile isD)))
def lawHex (s : Int) (v : List Nat) : LR :=
  if v = [] ∨ v.all isHU = false then .none else .int ((s * (hexL v : Nat)).fmod 18446744073709551616 - 18446744073709551616 * (if 9223372036854775808 ≤ (s * (hexL v : Nat)).fmod 18446744073709551616 then 1 else 0))
def lawSg (l : List Nat) : Int := if (rnT l).take 1 = [45] then -1 else 1
def lawRd (l : List Nat) : LR :=
  if (sgnOff (rnT l)).take 2 = [48, 120] ∨ (sgnOff (rnT l)).take 2 = [48, 88] then lawHex (lawSg l) ((sgnOff (rnT l)).drop 2)
  else if sgnOff (rnT l) ≠ [] ∧ (sgnOff (rnT l)).all isD = true then
    (if -9223372036854775808 ≤ lawSg l * (dvN (sgnOff (rnT l)) : Nat) ∧ lawSg l * (dvN (sgnOff (rnT l)) : Nat) < 9223372036854775808 then .int (lawSg l * (dvN (sgnOff (rnT l)) : Nat)) else .flt (lawSg l) (dvN (sgnOff (rnT l))) 1)
  else lawFar (lawSg l) (sgnOff (rnT l))
def OkR (r : Rd) : LR → Prop
  | .none => r = .none
  | .int n => r = .int n
  | .flt s t b => ∃ x, r = .flt x ∧ 0 < b ∧ ((t = 0 ∧ x = zeroL s) ∨ (0 < t ∧ x = nearL s t b))
/-! near -/
theorem near_inf {s : Int} {t b : Nat} (ht : 0 < t) (hb : 0 < b) (h : edgeN * b ≤ t) : nearL s t b = infL s := by
  rcases near_cases (s := s) ht hb with ⟨e, _⟩ | ⟨e, _⟩
  · exact e
  · omega
theorem near_low {s : Int} {t b : Nat} (ht : 0 < t) (hb : 0 < b) (h : t * 2 ^ 1075 < b) : nearL s t b = zeroL s := by
  have key : ∀ e : Int, -1074 ≤ e → 2 * TT t < scW e * b := fun e he => by
    have h1 : scW (-1074) ≤ scW e := scW_mono he
    have h2 : scW (-1074) * b ≤ scW e * b := Nat.mul_le_mul_right b h1
    have h3 : 2 * TT t = 2 ^ 926 * (t * 2 ^ 1075) := by
      unfold TT
      rw [show (2 : Nat) ^ 2000 = 2 ^ 925 * 2 ^ 1075 by rw [← Nat.pow_add], show (2 : Nat) ^ 926 = 2 * 2 ^ 925 by rw [← Nat.pow_succ']]
      generalize (2 : Nat) ^ 925 = a
      generalize (2 : Nat) ^ 1075 = c
      simp only [Nat.mul_assoc, Nat.mul_comm, Nat.mul_left_comm]
    have h4 : scW (-1074) = 2 ^ 926 := rfl
    have h5 : 2 ^ 926 * (t * 2 ^ 1075) < 2 ^ 926 * b := Nat.mul_lt_mul_of_pos_left h (Nat.two_pow_pos _)
    rw [h4] at h2
    omega
  rcases near_cases (s := s) ht hb with ⟨_, e⟩ | ⟨_, ⟨e, _⟩ | ⟨n, p, M, e, v, _, N, hM⟩⟩
  · have h1 : 1 * b ≤ edgeN * b := Nat.mul_le_mul_right b (by unfold edgeN; exact Nat.mul_pos (Nat.two_pow_pos _) (by decide))
    have h2 : t * 1 ≤ t * 2 ^ 1075 := Nat.mul_le_mul_left t (Nat.two_pow_pos _)
    omega
  · exact e
  · exfalso
    have R := N.nrm
    have k := key e R.lo
    by_cases hc : M = 2 ^ 52 ∧ -1074 < e
    · have h1 := R.dn hc.1 hc.2
      have h2 : 4 * 1 * (scW e * b) ≤ 4 * M * (scW e * b) := Nat.mul_le_mul_right _ (by omega)
      omega
    · have h1 := (R.dn' hc).1
      have h2 : 2 * 1 * (scW e * b) ≤ 2 * M * (scW e * b) := Nat.mul_le_mul_right _ (by omega)
      omega
/-! figures -/
theorem lo_D {c : Nat} (h : isD c = true) : PyProof.Rows.lo1 c = c := by
  unfold isD at h
  simp only [Bool.and_eq_true, decide_eq_true_eq] at h
  unfold PyProof.Rows.lo1
  rw [if_neg (by omega)]
theorem isD_lo (c : Nat) : isD (PyProof.Rows.lo1 c) = isD c := by
  unfold PyProof.Rows.lo1
  split
  · unfold isD
    rw [decide_eq_false (show ¬ c + 32 ≤ 57 by omega), decide_eq_false (show ¬ c ≤ 57 by omega)]
    simp
  · rfl
theorem isX_lo (c : Nat) : isX (PyProof.Rows.lo1 c) = isHU c := by
  unfold isHU isX
  rw [isD_lo]
  unfold PyProof.Rows.lo1
  by_cases h : 65 ≤ c ∧ c ≤ 90
  · rw [if_pos h]
    have : isD c = false := by
      unfold isD
      rw [decide_eq_false (show ¬ c ≤ 57 by omega)]
      simp
    rw [this, decide_eq_false (show ¬ 97 ≤ c by omega), decide_eq_true (show 97 ≤ c + 32 by omega), decide_eq_true (show 65 ≤ c by omega)]
    simp only [Bool.false_or, Bool.true_and, Bool.false_and]
    congr 1
    simp only [eq_iff_iff]
    omega
  · rw [if_neg h]
    have : (decide (65 ≤ c) && decide (c ≤ 70)) = false := by
      rw [← Bool.decide_and]
      exact decide_eq_false (by omega)
    rw [this, Bool.or_false]
theorem lo_eq {c d : Nat} (h : d < 65 ∨ (90 < d ∧ d < 97)) : PyProof.Rows.lo1 c = d ↔ c = d := by
  unfold PyProof.Rows.lo1
  split <;> omega
theorem lo_e {c : Nat} : PyProof.Rows.lo1 c = 101 ↔ c = 101 ∨ c = 69 := by
  unfold PyProof.Rows.lo1
  split <;> omega
theorem lo_x {c : Nat} : PyProof.Rows.lo1 c = 120 ↔ c = 120 ∨ c = 88 := by
  unfold PyProof.Rows.lo1
  split <;> omega
theorem low_all {l : List Nat} : (lowL l).all isD = l.all isD := by
  unfold lowL
  rw [List.all_map]
  congr 1
  exact funext isD_lo
theorem low_D {l : List Nat} (h : ∀ c ∈ l, isD c = true) : lowL l = l := by
  unfold lowL
  rw [show l.map PyProof.Rows.lo1 = l.map id from List.map_congr_left fun c hc => lo_D (h c hc), List.map_id]
theorem low_nil {l : List Nat} : lowL l = [] ↔ l = [] := by unfold lowL; exact List.map_eq_nil_iff
theorem low_app {l r : List Nat} : lowL (l ++ r) = lowL l ++ lowL r := List.map_append
theorem low_cons {c : Nat} {r : List Nat} : lowL (c :: r) = PyProof.Rows.lo1 c :: lowL r := rfl
theorem low_take1 {l : List Nat} {d : Nat} (h : d < 65 ∨ (90 < d ∧ d < 97)) : (lowL l).take 1 = [d] ↔ l.take 1 = [d] := by
  cases l with
  | nil => exact ⟨fun z => (nomatch z), fun z => (nomatch z)⟩
  | cons c r =>
    show [PyProof.Rows.lo1 c] = [d] ↔ [c] = [d]
    simp only [List.cons.injEq, and_true]
    exact lo_eq h
theorem low_off {l : List Nat} : sgnOff (lowL l) = lowL (sgnOff l) := by
  unfold sgnOff
  by_cases h : l.take 1 = [45] ∨ l.take 1 = [43]
  · rw [if_pos h, if_pos (h.imp (low_take1 (.inl (by decide))).mpr (low_take1 (.inl (by decide))).mpr)]
    unfold lowL
    rw [List.map_drop]
  · rw [if_neg h, if_neg (fun z => h (z.imp (low_take1 (.inl (by decide))).mp (low_take1 (.inl (by decide))).mp))]
theorem tw_spec (p : Nat → Bool) : ∀ u : List Nat, ∃ A R, u = A ++ R ∧ (∀ x ∈ A, p x = true) ∧ (R = [] ∨ ∃ c r, R = c :: r ∧ p c = false) ∧ u.takeWhile p = A ∧ u.dropWhile p = R := by
  intro u
  induction u with
  | nil => exact ⟨[], [], rfl, fun _ h => (nomatch h), .inl rfl, rfl, rfl⟩
  | cons c r ih =>
    cases hc : p c with
    | true =>
      obtain ⟨A, R, e1, e2, e3, e4, e5⟩ := ih
      refine ⟨c :: A, R, by rw [e1]; rfl, fun x hx => ?_, e3, by rw [List.takeWhile_cons, hc, if_pos rfl, e4], by rw [List.dropWhile_cons, hc, if_pos rfl, e5]⟩
      rcases List.mem_cons.mp hx with z | z
      · rw [z]; exact hc
      · exact e2 x z
    | false => exact ⟨[], c :: r, rfl, fun _ h => (nomatch h), .inr ⟨c, r, rfl, hc⟩, by rw [List.takeWhile_cons, hc]; rfl, by rw [List.dropWhile_cons, hc]; rfl⟩
theorem dD {l : List Nat} (h : ∀ c ∈ l, isD c = true) : Dg l := fun c hc => by
  have := h c hc
  unfold isD at this
  simpa using this
theorem dv_strip : ∀ l : List Nat, dvN (l.dropWhile is48) = dvN l
  | [] => rfl
  | c :: r => by
    cases hc : is48 c with
    | true =>
      have : c = 48 := of_decide_eq_true hc
      subst this
      rw [List.dropWhile_cons, hc, if_pos rfl, dv_strip r]
      exact (dv_0 r).symm
    | false =>
      rw [List.dropWhile_cons, hc]
      rfl
theorem dv_fold (l : List Nat) : ∀ a : Nat, l.foldl (fun acc c => acc * 10 + (c - 48)) a = a * 10 ^ l.length + dvN l := by
  induction l with
  | nil => intro a; show a = a * 1 + 0; omega
  | cons c r ih =>
    intro a
    show r.foldl _ (a * 10 + (c - 48)) = _
    have e : dvN (c :: r) = r.foldl (fun acc c => acc * 10 + (c - 48)) (0 * 10 + (c - 48)) := rfl
    rw [ih, e, ih, List.length_cons, Nat.pow_succ]
    generalize 10 ^ r.length = X
    rw [Nat.add_mul, Nat.zero_mul, Nat.zero_add, Nat.mul_assoc, Nat.mul_comm 10 X]
    omega
theorem dv_cons (c : Nat) (r : List Nat) : dvN (c :: r) = (c - 48) * 10 ^ r.length + dvN r := by
  have e : dvN (c :: r) = r.foldl (fun acc c => acc * 10 + (c - 48)) (0 * 10 + (c - 48)) := rfl
  rw [e, dv_fold, Nat.zero_mul, Nat.zero_add]
/-- a number that does not begin with 0 -/
theorem dv_ge {c : Nat} {r : List Nat} (hd : Dg (c :: r)) (h : c ≠ 48) : 10 ^ r.length ≤ dvN (c :: r) := by
  have hc := hd c List.mem_cons_self
  have e : dvN (c :: r) = (c - 48) * 10 ^ r.length + dvN r := dv_cons c r
  rw [e]
  have : 1 * 10 ^ r.length ≤ (c - 48) * 10 ^ r.length := Nat.mul_le_mul_right _ (by omega)
  omega
theorem strip_head {l : List Nat} : l.dropWhile is48 = [] ∨ ∃ c r, l.dropWhile is48 = c :: r ∧ c ≠ 48 := by
  obtain ⟨A, R, _, _, e3, _, e5⟩ := tw_spec is48 l
  rw [e5]
  rcases e3 with e3 | ⟨c, r, e3, h⟩
  · exact .inl e3
  · exact .inr ⟨c, r, e3, of_decide_eq_false h⟩
/-! what scaled comes to -/
theorem edge_ten : edgeN ≤ 10 ^ 400 := by
  unfold edgeN
  decide +kernel
theorem pow_small : 2 ^ 1075 ≤ 10 ^ 400 := by decide +kernel
def Near (P' P : Int) : Prop := P' = P ∨ (9000000 ≤ P' ∧ 9000000 ≤ P) ∨ (P' ≤ -9000000 ∧ P ≤ -9000000)
theorem scl_ok {neg : Bool} {F : List Nat} {P' P : Int} (hd : Dg F) (hl : F.length ≤ 800) (hp : Near P' P) : OkR (.flt (scl neg (F.dropWhile is48) P')) (lawTo (sgnB neg) (dvN F) P) := by
  have hbp : 0 < (if 0 < P then 1 else 10 ^ (min 3000 P.natAbs)) := by split; decide; exact Nat.pow_pos (by decide)
  refine ⟨_, rfl, hbp, ?_⟩
  rw [← dv_strip F]
  have hG : Dg (F.dropWhile is48) := dg_dw hd
  have hlen : (F.dropWhile is48).length ≤ 800 := Nat.le_trans len_dw hl
  have hh := strip_head (l := F)
  generalize F.dropWhile is48 = G at *
  rcases hh with rfl | ⟨c, r, rfl, hc⟩
  · left
    refine ⟨?_, if_pos (.inl rfl)⟩
    have e0 : dvN [] = 0 := rfl
    rw [e0]
    split <;> simp
  · have hge := dv_ge hG hc
    have hlt := dv_lt hG
    have hpos : 0 < dvN (c :: r) := Nat.lt_of_lt_of_le (Nat.pow_pos (by decide)) hge
    right
    have ht : 0 < (if 0 < P then dvN (c :: r) * 10 ^ (min 3000 P.natAbs) else dvN (c :: r)) := by split; exact Nat.mul_pos hpos (Nat.pow_pos (by decide)); exact hpos
    refine ⟨ht, ?_⟩
    rw [List.length_cons] at hlen hlt
    have hl2 : ((c :: r).length : Int) = r.length + 1 := by rw [List.length_cons]; omega
    unfold scl
    rw [hl2]
    by_cases h1 : ((r.length : Nat) : Int) + 1 + P' < -400
    · rw [if_pos (.inr h1)]
      have hP : P < 0 ∧ (r.length + 402 ≤ P.natAbs) := by unfold Near at hp; omega
      symm
      refine near_low ht hbp ?_
      rw [if_neg (by omega), if_neg (by omega)]
      have e1 : 10 ^ (r.length + 1) * 10 ^ 401 ≤ 10 ^ (min 3000 P.natAbs) := by
        rw [← Nat.pow_add]
        exact Nat.pow_le_pow_right (by decide) (by omega)
      have e2 : dvN (c :: r) * 2 ^ 1075 < 10 ^ (r.length + 1) * 10 ^ 401 :=
        Nat.lt_of_lt_of_le (Nat.mul_lt_mul_of_lt_of_le hlt (Nat.le_trans pow_small (Nat.pow_le_pow_right (by decide) (by decide))) (Nat.pow_pos (by decide))) (Nat.le_refl _)
      omega
    · rw [if_neg (fun z => z.elim (fun y => nomatch y) h1)]
      by_cases h2 : 400 < ((r.length : Nat) : Int) + 1 + P'
      · rw [if_pos h2]
        symm
        refine near_inf ht hbp ?_
        refine Nat.le_trans (Nat.mul_le_mul_right _ edge_ten) ?_
        by_cases h3 : 0 < P
        · rw [if_pos h3, if_pos h3, Nat.mul_one]
          have e1 : 10 ^ r.length * 10 ^ (min 3000 P.natAbs) ≤ dvN (c :: r) * 10 ^ (min 3000 P.natAbs) := Nat.mul_le_mul_right _ hge
          refine Nat.le_trans ?_ e1
          rw [← Nat.pow_add]
          refine Nat.pow_le_pow_right (by decide) ?_
          unfold Near at hp
          omega
        · rw [if_neg h3, if_neg h3]
          refine Nat.le_trans ?_ hge
          rw [← Nat.pow_add]
          refine Nat.pow_le_pow_right (by decide) ?_
          unfold Near at hp
          omega
      · rw [if_neg h2]
        have hPP : P' = P := by unfold Near at hp; omega
        subst hPP
        have e1 : sclP (c :: r) P' = P' := if_neg (by rw [List.length_cons]; omega)
        have e2 : sclG (c :: r) = c :: r := if_neg (by rw [List.length_cons]; omega)
        rw [e1, e2]
        by_cases h3 : 0 < P'
        · rw [if_pos (show 0 ≤ P' by omega), if_pos h3, if_pos h3, show min 3000 P'.natAbs = P'.toNat by omega]
        · rw [if_neg h3, if_neg h3]
          by_cases h4 : 0 ≤ P'
          · have : P' = 0 := by omega
            subst this
            rw [if_pos (Int.le_refl 0)]
            show nearL _ (dvN (c :: r) * 1) 1 = nearL _ (dvN (c :: r)) 1
            rw [Nat.mul_one]
          · rw [if_neg h4, show min 3000 P'.natAbs = (0 - P').toNat by omega]
/-! exponents -/
theorem exp_eq (r3 : List Nat) : (rdExp (lowL r3) = none ∧ lawExp r3 = none) ∨ ∃ p p', rdExp (lowL r3) = some p' ∧ lawExp r3 = some p ∧ (p' = p ∨ (10000000 ≤ p' ∧ 10000000 ≤ p) ∨ (p' ≤ -10000000 ∧ p ≤ -10000000)) := by
  unfold rdExp lawExp
  rw [low_off, low_all]
  have h45 : (lowL r3).take 1 = [45] ↔ r3.take 1 = [45] := low_take1 (.inl (by decide))
  generalize sgnOff r3 = D
  obtain ⟨A, R, e1, e2, e3, e4, e5⟩ := tw_spec isD D
  rw [e4, e5]
  by_cases hD : D = [] ∨ D.all isD = false
  · left
    refine ⟨if_pos (hD.imp low_nil.mpr id), if_pos ?_⟩
    rcases hD with hD | hD
    · left
      rw [hD] at e1
      exact (List.append_eq_nil_iff.mp e1.symm).1
    · by_cases hR : R = []
      · exfalso
        rw [hR, List.append_nil] at e1
        rw [e1, List.all_eq_true.mpr e2] at hD
        cases hD
      · exact .inr hR
  · have hall : ∀ x ∈ D, isD x = true := by
      have : D.all isD = true := by
        cases e : D.all isD with
        | true => rfl
        | false => exact absurd (.inr e) hD
      exact List.all_eq_true.mp this
    have hR : R = [] := by
      rcases e3 with e3 | ⟨c, r, e3, hc⟩
      · exact e3
      · have := hall c (by rw [e1, e3]; simp)
        rw [hc] at this; cases this
    have hA : A = D := by rw [e1, hR, List.append_nil]
    rw [low_D hall, hR, hA]
    right
    refine ⟨_, _, if_neg hD, if_neg (fun z => z.elim (fun y => hD (.inl y)) (fun y => y rfl)), ?_⟩
    rw [← dv_strip D]
    have hZd : Dg (D.dropWhile is48) := dg_dw (dD hall)
    have hh := strip_head (l := D)
    generalize D.dropWhile is48 = Z at *
    by_cases hz : Z.length < 8
    · rw [if_pos hz]
      left
      by_cases h : r3.take 1 = [45]
      · rw [if_pos h, if_pos (h45.mpr h)]
      · rw [if_neg h, if_neg (fun z => h (h45.mp z))]
    · rw [if_neg hz]
      have hv : 10000000 ≤ dvN Z := by
        rcases hh with rfl | ⟨c, r, rfl, hc⟩
        · exact absurd (by decide) hz
        · have := dv_ge hZd hc
          rw [List.length_cons] at hz
          have h7 : 10 ^ 7 ≤ 10 ^ r.length := Nat.pow_le_pow_right (by decide) (by omega)
          have : (10 : Nat) ^ 7 = 10000000 := by decide
          omega
      by_cases h : r3.take 1 = [45]
      · rw [if_pos h, if_pos (h45.mpr h)]; right; right; omega
      · rw [if_neg h, if_neg (fun z => h (h45.mp z))]; right; left; omega
/-! texts with a point or an exponent -/
theorem notD {l : List Nat} {c : Nat} (h : ∀ x ∈ l, isD x = true) (hc : isD c = false) : c ∉ l := fun m => by rw [h c m] at hc; cases hc
/-- the program's reading of a lowered text that is parted so -/
theorem par_form {B U X : List Nat} {pt : Bool} (hB : ∀ x ∈ B, isD x = true) (hU : ∀ x ∈ U, isD x = true) (hp : pt = false → U = []) (hX : X = [] ∨ ∃ Y, X = 101 :: Y) :
    fpG (B ++ (if pt = true then 46 :: U else []) ++ X) = B ++ U ∧ fpU (B ++ (if pt = true then 46 :: U else []) ++ X) = U ∧ rdPl (B ++ (if pt = true then 46 :: U else []) ++ X) = (match X with | [] => some 0 | _ :: Y => rdExp Y) := by
  have nB : ∀ d, isD d = false → d ∉ B := fun d hd => notD hB hd
  have nU : ∀ d, isD d = false → d ∉ U := fun d hd => notD hU hd
  have n101 : 101 ∉ B ++ (if pt = true then 46 :: U else []) := fun m => by
    rcases List.mem_append.mp m with m | m
    · exact nB 101 (by decide) m
    · cases pt with
      | false => cases m
      | true =>
        rcases List.mem_cons.mp m with m | m
        · cases m
        · exact nU 101 (by decide) m
  have e1 : parL 101 (B ++ (if pt = true then 46 :: U else []) ++ X) = (B ++ (if pt = true then 46 :: U else []), (match X with | [] => [] | _ :: _ => [101]), (match X with | [] => [] | _ :: Y => Y)) := by
    rcases hX with rfl | ⟨Y, rfl⟩
    · rw [List.append_nil]; exact parL_no n101
    · exact parL_yes n101
  have e2 : parL 46 (B ++ (if pt = true then 46 :: U else [])) = (B, (if pt = true then [46] else []), U) := by
    cases pt with
    | false =>
      rw [hp rfl]
      show parL 46 (B ++ []) = (B, [], [])
      rw [List.append_nil]
      exact parL_no (nB 46 (by decide))
    | true => exact parL_yes (nB 46 (by decide))
  unfold fpG fpU rdPl fpF
  rw [e1]
  dsimp only
  rw [e2]
  refine ⟨rfl, rfl, ?_⟩
  rcases hX with rfl | ⟨Y, rfl⟩
  · rfl
  · exact if_neg (by simp)
/-- a sign that is none of these stands ahead of any e: no number -/
theorem par_bad {B Z : List Nat} {c : Nat} (hB : ∀ x ∈ B, isD x = true ∨ x = 46) (hc : isD c = false) (c1 : c ≠ 46 ∨ 46 ∈ B) (c2 : c ≠ 101) : (fpG (B ++ c :: Z)).all isD = false := by
  have nB : 101 ∉ B := fun m => by
    rcases hB 101 m with h | h
    · exact absurd h (by decide)
    · cases h
  -- what stands ahead of the first e holds c
  have hm : ∃ Z', fpF (B ++ c :: Z) = B ++ c :: Z' := by
    unfold fpF
    by_cases h : 101 ∈ B ++ c :: Z
    · have hz : 101 ∈ Z := by
        rcases List.mem_append.mp h with m | m
        · exact absurd m nB
        · rcases List.mem_cons.mp m with m | m
          · exact absurd m.symm c2
          · exact m
      obtain ⟨p, q, h1, rfl⟩ := split_at hz
      have : B ++ c :: (p ++ 101 :: q) = (B ++ c :: p) ++ 101 :: q := by simp
      rw [this, parL_yes (fun m => by
        rcases List.mem_append.mp m with m | m
        · exact nB m
        · rcases List.mem_cons.mp m with m | m
          · exact c2 m.symm
          · exact h1 m)]
      exact ⟨p, rfl⟩
    · rw [parL_no h]
      exact ⟨Z, rfl⟩
  have hm2 : c ∈ fpG (B ++ c :: Z) := by
    obtain ⟨Z', e⟩ := hm
    unfold fpG
    rw [e]
    by_cases hb : 46 ∈ B
    · obtain ⟨p, q, h1, rfl⟩ := split_at hb
      have : p ++ 46 :: q ++ c :: Z' = p ++ 46 :: (q ++ c :: Z') := by simp
      rw [this, parL_yes h1]
      simp
    · have c1 := c1.resolve_right hb
      by_cases h : 46 ∈ Z'
      · obtain ⟨p, q, h1, rfl⟩ := split_at h
        have : B ++ c :: (p ++ 46 :: q) = (B ++ c :: p) ++ 46 :: q := by simp
        rw [this, parL_yes (fun m => by
          rcases List.mem_append.mp m with m | m
          · exact hb m
          · rcases List.mem_cons.mp m with m | m
            · exact c1 m.symm
            · exact h1 m)]
        simp
      · rw [parL_no (fun m => by
          rcases List.mem_append.mp m with m | m
          · exact hb m
          · rcases List.mem_cons.mp m with m | m
            · exact c1 m.symm
            · exact h m)]
        simp
  cases e : (fpG (B ++ c :: Z)).all isD with
  | false => rfl
  | true => have := List.all_eq_true.mp e c hm2; rw [hc] at this; cases this
theorem all_app {A B : List Nat} (h1 : ∀ x ∈ A, isD x = true) (h2 : ∀ x ∈ B, isD x = true) : (A ++ B).all isD = true := List.all_eq_true.mpr fun x hx => (List.mem_append.mp hx).elim (h1 x) (h2 x)
theorem far_end {neg : Bool} {X D1 D2 : List Nat} {v : List Nat} {o : Option Int} (h1 : ∀ x ∈ D1, isD x = true) (h2 : ∀ x ∈ D2, isD x = true) (hl : (D1 ++ D2).length ≤ 800) (eG : fpG v = D1 ++ D2) (eU : fpU v = D2)
    (he : (rdPl v = none ∧ o = none) ∨ ∃ p p', rdPl v = some p' ∧ o = some p ∧ (p' = p ∨ (10000000 ≤ p' ∧ 10000000 ≤ p) ∨ (p' ≤ -10000000 ∧ p ≤ -10000000))) :
    OkR (rdFloat neg v) (if D1 ++ D2 = [] then .none else lawOpt (sgnB neg) (dvN (D1 ++ D2)) D2.length o) := by
  unfold rdFloat
  rw [eG, eU]
  have hall := all_app h1 h2
  by_cases h0 : D1 ++ D2 = []
  · rw [if_pos (.inl h0), if_pos h0]; rfl
  · rw [if_neg (fun z => z.elim h0 (fun y => by rw [hall] at y; cases y)), if_neg h0]
    rcases he with ⟨e1, e2⟩ | ⟨p, p', e1, e2, hp⟩
    · rw [e1, e2]; rfl
    · rw [e1, e2]
      refine scl_ok (fun c hc => dD (List.all_eq_true.mp hall) c hc) hl ?_
      have : D2.length ≤ 800 := by rw [List.length_append] at hl; omega
      unfold Near
      omega
theorem far_eq (neg : Bool) (u : List Nat) (hl : u.length ≤ 800) : OkR (rdFloat neg (lowL u)) (lawFar (sgnB neg) u) := by
  obtain ⟨D1, r1, e1, d1, h1, t1, t2⟩ := tw_spec isD u
  unfold lawFar
  rw [t1, t2]
  have lu : D1.length + r1.length ≤ 800 := by rw [e1, List.length_append] at hl; exact hl
  subst e1
  rw [low_app, low_D d1]
  rcases h1 with rfl | ⟨c, r, rfl, hc⟩
  · have pf := par_form (X := []) (pt := false) (U := []) d1 (fun _ h => nomatch h) (fun _ => rfl) (.inl rfl)
    simp only [List.append_nil, Bool.false_eq_true, if_false] at pf
    have eD : laD2 [] = [] := rfl
    have eR : laR2 [] = [] := rfl
    rw [eD, eR]
    have e0 : lowL ([] : List Nat) = [] := rfl
    have eE : lawEnd [] = some 0 := by simp [lawEnd]
    rw [e0, eE]
    have fe := far_end (neg := neg) (X := []) (D2 := []) (v := D1) (o := some 0) d1 (fun _ h => nomatch h) (by simp; omega) (by rw [pf.1, List.append_nil]) pf.2.1 (.inr ⟨0, 0, pf.2.2, rfl, .inl rfl⟩)
    simpa only [List.append_nil] using fe
  · by_cases c46 : c = 46
    · subst c46
      obtain ⟨D2, r2, e2, d2, h2, t3, t4⟩ := tw_spec isD r
      have eD : laD2 (46 :: r) = D2 := (if_pos (show (46 :: r).take 1 = [46] from rfl)).trans t3
      have eR : laR2 (46 :: r) = r2 := (if_pos (show (46 :: r).take 1 = [46] from rfl)).trans t4
      rw [eD, eR]
      have l2 : D2.length + r2.length = r.length := by rw [e2, List.length_append]
      rw [List.length_cons] at lu
      have ll : (D1 ++ D2).length ≤ 800 := by rw [List.length_append]; omega
      have el : lowL (46 :: r) = 46 :: (D2 ++ lowL r2) := by rw [low_cons, (lo_eq (.inl (by decide))).mpr rfl, e2, low_app, low_D d2]
      rw [el]
      rcases h2 with rfl | ⟨c2, r3, rfl, hc2⟩
      · have pf := par_form (X := []) (pt := true) d1 d2 (fun z => nomatch z) (.inl rfl)
        simp only [List.append_nil, if_true] at pf
        have e0 : lowL ([] : List Nat) = [] := rfl
        have eE : lawEnd [] = some 0 := by simp [lawEnd]
        rw [e0, List.append_nil, eE]
        exact far_end (X := []) d1 d2 ll pf.1 pf.2.1 (.inr ⟨0, 0, pf.2.2, rfl, .inl rfl⟩)
      · by_cases he : c2 = 101 ∨ c2 = 69
        · have pf := par_form (X := 101 :: lowL r3) (pt := true) d1 d2 (fun z => nomatch z) (.inr ⟨_, rfl⟩)
          simp only [if_true] at pf
          rw [low_cons, lo_e.mpr he]
          have ee : D1 ++ 46 :: (D2 ++ 101 :: lowL r3) = D1 ++ 46 :: D2 ++ 101 :: lowL r3 := by simp
          rw [ee]
          have eE : lawEnd (c2 :: r3) = lawExp r3 := if_pos (by rcases he with rfl | rfl <;> simp)
          rw [eE]
          refine far_end (X := []) d1 d2 ll pf.1 pf.2.1 ?_
          rw [pf.2.2]
          exact exp_eq r3
        · have eE : lawEnd (c2 :: r3) = none := by
            unfold lawEnd
            rw [if_neg (by simpa using he), if_pos (by simp)]
          rw [eE]
          rw [low_cons]
          have bad := par_bad (B := D1 ++ 46 :: D2) (Z := lowL r3) (c := PyProof.Rows.lo1 c2) (fun x hx => by
            rcases List.mem_append.mp hx with hx | hx
            · exact .inl (d1 x hx)
            · rcases List.mem_cons.mp hx with hx | hx
              · exact .inr hx
              · exact .inl (d2 x hx)) (by rw [isD_lo]; exact hc2) (.inr (by simp)) (fun z => he (lo_e.mp z))
          have ee : D1 ++ 46 :: (D2 ++ PyProof.Rows.lo1 c2 :: lowL r3) = D1 ++ 46 :: D2 ++ PyProof.Rows.lo1 c2 :: lowL r3 := by simp
          rw [ee]
          unfold rdFloat
          rw [if_pos (.inr bad)]
          split <;> rfl
    · have eD : laD2 (c :: r) = [] := if_neg (by simpa using c46)
      have eR : laR2 (c :: r) = c :: r := if_neg (by simpa using c46)
      rw [eD, eR]
      rw [List.length_cons] at lu
      by_cases he : c = 101 ∨ c = 69
      · have pf := par_form (X := 101 :: lowL r) (pt := false) (U := []) d1 (fun _ h => nomatch h) (fun _ => rfl) (.inr ⟨_, rfl⟩)
        simp only [List.append_nil, Bool.false_eq_true, if_false] at pf
        rw [low_cons, lo_e.mpr he]
        have eE : lawEnd (c :: r) = lawExp r := if_pos (by rcases he with rfl | rfl <;> simp)
        rw [eE]
        refine far_end (X := []) (D2 := []) d1 (fun _ h => nomatch h) (by simp; omega) (by rw [pf.1, List.append_nil]) pf.2.1 ?_
        rw [pf.2.2]
        exact exp_eq r
      · have eE : lawEnd (c :: r) = none := by
          unfold lawEnd
          rw [if_neg (by simpa using he), if_pos (by simp)]
        rw [eE, low_cons]
        have bad := par_bad (B := D1) (Z := lowL r) (c := PyProof.Rows.lo1 c) (fun x hx => .inl (d1 x hx)) (by rw [isD_lo]; exact hc) (.inl fun z => c46 ((lo_eq (.inl (by decide))).mp z)) (fun z => he (lo_e.mp z))
        unfold rdFloat
        rw [if_pos (.inr bad)]
        split <;> rfl
/-! the whole reading -/
theorem take2_low {u : List Nat} : (lowL u).take 2 = [48, 120] ↔ u.take 2 = [48, 120] ∨ u.take 2 = [48, 88] := by
  match u with
  | [] => exact ⟨fun z => (nomatch z), fun z => z.elim (fun y => nomatch y) (fun y => nomatch y)⟩
  | [a] =>
    show [PyProof.Rows.lo1 a] = [48, 120] ↔ [a] = [48, 120] ∨ [a] = [48, 88]
    simp
  | a :: b :: r =>
    show [PyProof.Rows.lo1 a, PyProof.Rows.lo1 b] = [48, 120] ↔ [a, b] = [48, 120] ∨ [a, b] = [48, 88]
    simp only [List.cons.injEq, and_true]
    rw [lo_eq (.inl (by decide)), lo_x]
    constructor
    · rintro ⟨h1, h2 | h2⟩
      · exact .inl ⟨h1, h2⟩
      · exact .inr ⟨h1, h2⟩
    · rintro (⟨h1, h2⟩ | ⟨h1, h2⟩)
      · exact ⟨h1, .inl h2⟩
      · exact ⟨h1, .inr h2⟩
theorem hexN_lt : ∀ l : List Nat, hexN l < 18446744073709551616 := fun l => by
  rcases List.eq_nil_or_concat l with rfl | ⟨m, c, rfl⟩
  · decide
  · unfold hexN
    rw [List.concat_eq_append, List.foldl_append]
    exact Nat.mod_lt _ (by decide)
theorem wrap_hex (neg : Bool) (h : Nat) (hh : h < 18446744073709551616) : wrapI (if neg = true then 0 - (h : Int) else (h : Int)) = (sgnB neg * (h : Int)).fmod 18446744073709551616 - 18446744073709551616 * (if 9223372036854775808 ≤ (sgnB neg * (h : Int)).fmod 18446744073709551616 then 1 else 0) := by
  have e : (if neg = true then 0 - (h : Int) else (h : Int)) = sgnB neg * (h : Int) := by
    cases neg
    · show (h : Int) = 1 * h; omega
    · show 0 - (h : Int) = -1 * h; omega
  rw [e]
  generalize sgnB neg * (h : Int) = x
  unfold wrapI
  rw [Int.fmod_eq_emod_of_nonneg _ (by decide), Int.fmod_eq_emod_of_nonneg _ (by decide)]
  split <;> omega
theorem rd_ok (l : List Nat) (hl : l.length ≤ 800) : OkR (rnN l) (lawRd l) := by
  have hT : (rnT l).length ≤ 800 := Nat.le_trans strip_len hl
  have hU : (sgnOff (rnT l)).length ≤ 800 := Nat.le_trans (sgnOff_len _) hT
  have es : lawSg l = sgnB (rnS l) := by
    unfold lawSg rnS
    by_cases h : (rnT l).take 1 = [45]
    · rw [if_pos h, decide_eq_true h]; rfl
    · rw [if_neg h, decide_eq_false h]; rfl
  unfold rnN lawRd rnU
  rw [es]
  generalize sgnOff (rnT l) = u at *
  generalize rnS l = neg
  by_cases h1 : u.take 2 = [48, 120] ∨ u.take 2 = [48, 88]
  · rw [if_pos h1, if_pos (take2_low.mpr h1)]
    have ed : (lowL u).drop 2 = lowL (u.drop 2) := by unfold lowL; rw [List.map_drop]
    rw [ed]
    generalize u.drop 2 = v
    unfold rdHex lawHex
    have ea : (lowL v).all isX = v.all isHU := by
      unfold lowL
      rw [List.all_map]
      congr 1
      exact funext isX_lo
    rw [ea]
    by_cases h2 : v = [] ∨ v.all isHU = false
    · rw [if_pos h2, if_pos (h2.imp low_nil.mpr id)]; rfl
    · rw [if_neg h2, if_neg (fun z => h2 (z.imp low_nil.mp id))]
      show Rd.int _ = Rd.int _
      congr 1
      exact wrap_hex neg (hexN (lowL v)) (hexN_lt _)
  · rw [if_neg h1, if_neg (fun z => h1 (take2_low.mp z))]
    by_cases h2 : u ≠ [] ∧ u.all isD = true
    · have hd := List.all_eq_true.mp h2.2
      rw [if_pos h2, low_D hd, if_pos h2]
      have hG : Dg (u.dropWhile is48) := dg_dw (dD hd)
      have ev := dv_strip u
      unfold rdWhole
      have hlong : ¬ (u.dropWhile is48).length < 20 → 10 ^ 19 ≤ dvN (u.dropWhile is48) := fun h => by
        rcases strip_head (l := u) with e | ⟨c, r, e, hc⟩
        · rw [e] at h; exact absurd (by decide) h
        · rw [e] at h hG ⊢
          have := dv_ge hG hc
          rw [List.length_cons] at h
          exact Nat.le_trans (Nat.pow_le_pow_right (by decide) (by omega)) this
      have e19 : (10 : Nat) ^ 19 = 10000000000000000000 := by decide
      rw [e19] at hlong
      have hsm : ∀ G : List Nat, G.length < 20 → True := fun _ _ => trivial
      by_cases h3 : (u.dropWhile is48).length < 20 ∧ (dvN (u.dropWhile is48) : Int) ≤ 9223372036854775807 + b2i neg
      · rw [if_pos h3]
        rw [ev] at h3 ⊢
        have hr : -9223372036854775808 ≤ sgnB neg * (dvN u : Nat) ∧ sgnB neg * (dvN u : Nat) < 9223372036854775808 := by
          have h4 := h3.2
          cases neg
          · have h4 : (dvN u : Int) ≤ 9223372036854775807 + 0 := h4
            show -9223372036854775808 ≤ 1 * (dvN u : Int) ∧ 1 * (dvN u : Int) < 9223372036854775808
            omega
          · have h4 : (dvN u : Int) ≤ 9223372036854775807 + 1 := h4
            show -9223372036854775808 ≤ -1 * (dvN u : Int) ∧ -1 * (dvN u : Int) < 9223372036854775808
            omega
        rw [if_pos hr]
        show Rd.int _ = Rd.int _
        congr 1
        cases neg
        · show (dvN u : Int) = 1 * dvN u; omega
        · show 0 - (dvN u : Int) = -1 * dvN u; omega
      · rw [if_neg h3]
        have hr : ¬ (-9223372036854775808 ≤ sgnB neg * (dvN u : Nat) ∧ sgnB neg * (dvN u : Nat) < 9223372036854775808) := fun z => by
          refine h3 ?_
          rw [ev] at hlong ⊢
          cases neg
          · have z : -9223372036854775808 ≤ 1 * (dvN u : Int) ∧ 1 * (dvN u : Int) < 9223372036854775808 := z
            refine ⟨?_, show (dvN u : Int) ≤ 9223372036854775807 + 0 by omega⟩
            by_cases y : (u.dropWhile is48).length < 20
            · exact y
            · have := hlong y; omega
          · have z : -9223372036854775808 ≤ -1 * (dvN u : Int) ∧ -1 * (dvN u : Int) < 9223372036854775808 := z
            refine ⟨?_, show (dvN u : Int) ≤ 9223372036854775807 + 1 by omega⟩
            by_cases y : (u.dropWhile is48).length < 20
            · exact y
            · have := hlong y; omega
        rw [if_neg hr]
        have := scl_ok (neg := neg) (F := u) (P' := 0) (P := 0) (dD hd) hU (.inl rfl)
        exact this
    · rw [if_neg h2, if_neg (fun z => h2 ⟨fun y => z.1 (low_nil.mpr y), by rw [← low_all]; exact z.2⟩)]
      exact far_eq neg u hU
end Up

set_option Elab.async false
set_option linter.all false
set_option pp.maxSteps 700
set_option maxRecDepth 100000
set_option maxHeartbeats 4000000
set_option exponentiation.threshold 200000
namespace Up
open PySem PySem.Spec PyProof.Rows L2
local macro_rules | `(tactic| walk_at "u") => `(tactic| first
  | with_reducible refine g_seq ?_
  | with_reducible refine g_asg ?_
  | with_reducible refine g_op ?_
  | ((with_reducible show tVar _ _ _ _); apply g_var; exact rfl)
  | with_reducible refine g_c ?_
  | with_reducible refine g_name ?_
  | with_reducible refine g_ifs ?_
  | with_reducible refine g_tt ?_
  | with_reducible refine g_tB ?_
  | with_reducible refine g_bl ?_
  | with_reducible refine g_ret ?_
  | with_reducible refine g_cb ?_
  | with_reducible refine g_cons ?_
  | with_reducible refine g_nil ?_
  | with_reducible refine g_call ?_
  | with_reducible refine g_and ?_
  | with_reducible refine g_or ?_
  | with_reducible refine g_not ?_
  | with_reducible refine g_andV ?_
  | with_reducible refine g_orV ?_
  | with_reducible refine g_notV ?_
  | with_reducible refine g_if ?_
  | with_reducible refine g_un ?_
  | with_reducible refine g_neg ?_
  | with_reducible refine g_addI ?_
  | with_reducible refine g_subI ?_
  | with_reducible refine g_subB ?_
  | with_reducible refine g_I0 ?_
  | with_reducible refine g_cmpI ?_
  | with_reducible refine g_eqI ?_
  | with_reducible refine g_neI ?_
  | with_reducible refine g_eqS ?_
  | with_reducible refine g_neS ?_
  | with_reducible refine g_eqB ?_
  | with_reducible refine g_neB ?_
  | with_reducible refine g_bits ?_
  | with_reducible refine g_bitsI ?_
  | with_reducible refine g_fld ?_
  | with_reducible refine g_tup ?_
  | with_reducible refine g_lst ?_
  | with_reducible refine g_gtup ?_
  | with_reducible refine g_make ?_
  | with_reducible refine g_lc ?_
  | with_reducible refine g_yesT ?_
  | with_reducible refine g_intI ?_
  | with_reducible refine g_intB ?_
  | with_reducible refine g_max2 ?_
  | with_reducible refine g_abs1 ?_
  | with_reducible refine g_for ?_
  | with_reducible refine g_iList ?_
  | with_reducible refine g_iTup ?_
  | with_reducible refine g_iRng1 ?_
  | with_reducible refine g_iEnum ?_
  | with_reducible refine g_slice ?_
  | with_reducible refine g_po0 ?_
  | with_reducible refine g_po1 ?_
  | with_reducible refine g_gsub ?_
  | with_reducible refine g_par ?_
  | with_reducible refine g_par2 ?_
  | with_reducible refine g_rfl ?_
  | with_reducible refine g_meth ?_
  | with_reducible refine g_gcons ?_
  | with_reducible refine g_gnil ?_
  | with_reducible refine g_gfld ?_
  | with_reducible refine g_sfld ?_
  | with_reducible refine g_drop ?_
  | with_reducible refine g_next ?_
  | with_reducible refine iteT ?_
  | with_reducible refine iteF ?_)
local macro_rules | `(tactic| walk_at "go") => `(tactic| (repeat walk_at "u"))
local macro_rules | `(tactic| walk_at "f") => `(tactic| (repeat (first
  | walk_at "u"
  | with_reducible refine g_chain ?_
  | with_reducible refine g_par3 ?_
  | with_reducible refine g_par3' ?_
  | ((with_reducible refine show_ex ?_); first
    | refine fT (by assumption) (by assumption) ?_
    | refine fS (by assumption) (by assumption) ?_
    | refine fP (by assumption) (by assumption) ?_))))

section
variable {P : Program} {w : World} {K : PySem.W.Frag} {mg : Str → Option Value} {base : Heap} {C : Addr}
/-! _law_run -/
theorem sc_Lrun : FnScope ["_law_text_here", "_law_at", "_law_signs"] ["_law_text_here", "_law_at", "_law_signs"] (defScope s_Lrun) := ⟨rfl, rfl, rfl, by decide +kernel, rfl, by decide +kernel, by decide +kernel⟩
def runN (l : List Nat) (n : Nat) (b : List Nat) : Nat := n + ((l.drop n).takeWhile fun c => decide (c ∈ b)).length
def sp_Lrun : Sp := fun vs H Q _ => ∃ (l : List Nat) (n : Nat) (b : List Nat), vs = [.str (Sx l), .int (n : Nat), .str (Sx b)] ∧ n ≤ l.length ∧ l.length ≤ 20000 ∧ Q (.int (runN l n b : Nat)) H
theorem run_step {l : List Nat} {n : Nat} {b : List Nat} {c : Nat} (h : l[n]? = some c) : (c ∈ b → runN l n b = runN l (n + 1) b) ∧ (c ∉ b → runN l n b = n) := by
  have hn : n < l.length := (List.getElem?_eq_some_iff.mp h).1
  have e : l.drop n = c :: l.drop (n + 1) := by
    rw [List.drop_eq_getElem_cons hn]
    congr 1
    have := (List.getElem?_eq_getElem hn).symm.trans h
    injection this
  unfold runN
  rw [e, List.takeWhile_cons]
  constructor
  · intro hc
    rw [decide_eq_true hc, if_pos rfl, List.length_cons]
    omega
  · intro hc
    rw [decide_eq_false hc]
    simp
theorem ok_Lrun {f : Addr} {fd : FuncData} (F : FunD K "_law_run" "_law_run" (defArgs s_Lrun) (defBody s_Lrun) (defScope s_Lrun) [] [] f fd) (B : Blt mg) : FnOk P w K mg base CX0 1 f fd ["_law_text_here", "_law_at", "_law_signs"] sp_Lrun := by
  refine F.ok sc_Lrun (fun vs H Q E h => ?_) (fun cdv A outer s H vs Q E hr h => ?_)
  · obtain ⟨l, n, b, rfl, _⟩ := h; rfl
  · obtain ⟨l, n, b, rfl, hn, hl, q⟩ := h
    have big : (Sx l).length ≤ sizeLine := by rw [Sx_len]; exact Nat.le_trans hl (by decide)
    refine ⟨_, PSs.nox (pss_cons (ps_while PassesOwn.never (PW.pt (pw_and (pt_cmpR op_oLt (pv 1) (pe_callB call_len_str (by rfl) B.len (by decide +kernel) (pa_cons (pv 0) pa_nil)) (nomark _)) (pw_and1 (pt_cmpR op_in_str (pe_ix ix_seq (pv 0) (pv 1) (fun _ _ => rfl)) (pv 2) (by rfl)))))
    (pss_one (ps_set (i := 1) sc_Lrun.nd rfl (Or.inl rfl) (pe_op op_oAdd (pv 1) pe_int))))
  (pss_one (ps_ret (pv 1)))), ?_⟩
    walk_at "f"
    refine g_while (fun m σ' H' => ∃ k : Nat, k + m = l.length ∧ runN l n b = runN l k b ∧ σ' = [some (.str (Sx l)), some (.int (k : Nat)), some (.str (Sx b))] ∧ H = H') (l.length - n) ⟨n, by omega, rfl, rfl, rfl⟩ ?_
    rintro m _ _ ⟨k, hk, hr, rfl, rfl⟩
    walk_at "f"
    refine ⟨_, rfl, big, ?_⟩
    rw [Sx_len]
    walk_at "f"
    refine g_ite (fun h1 => ?_) fun h1 => ?_
    · have h1 : k < l.length := by omega
      walk_at "f"
      refine .inr (.inr ⟨_, _, l[k], rfl, rfl, big, ?_, ?_⟩)
      · unfold atI ixN
        rw [Sx_cps, if_pos (by omega), if_pos (by omega)]
        exact List.getElem?_eq_getElem h1
      walk_at "f"
      refine ⟨_, _, rfl, rfl, ?_⟩
      rw [in_one]
      obtain ⟨r1, r2⟩ := run_step (b := b) (List.getElem?_eq_getElem h1)
      walk_at "f"
      refine g_ite (fun h2 => ?_) fun h2 => ?_
      · refine ⟨_, fun σ' H' z => z, ?_⟩
        walk_at "f"
        exact ⟨m - 1, by omega, k + 1, by omega, by rw [hr, r1 h2], rfl, rfl⟩
      · walk_at "f"
        rw [hr, r2 h2] at q
        exact q
    · walk_at "f"
      have : runN l k b = k := by
        unfold runN
        rw [List.drop_eq_nil_of_le (by omega)]
        rfl
      rw [hr, this] at q
      exact q
/-! _law_read_far -/
theorem sc_Lreadfar : FnScope ["_law_text_here", "_law_sign", "_law_end", "_law_figures_here", "_law_places", "_law_later", "_law_first", "_law_number", "_law_top", "_law_bottom", "_law_k"] ["_law_text_here", "_law_sign", "_law_end", "_law_figures_here", "_law_places"] (defScope s_Lreadfar) := ⟨rfl, rfl, rfl, by decide +kernel, rfl, by decide +kernel, by decide +kernel⟩
theorem cut_mid (l : List Nat) (i j : Nat) : cutS (Sx l) (some ((i : Nat) : Int)) (some ((j : Nat) : Int)) = Sx ((l.drop i).take (j - i)) := by
  unfold cutS
  rw [HT.sIx_nat, HT.sIx_nat, Sx_cps, Sx_len]
  show Sx _ = _
  congr 1
  by_cases hi : i ≤ l.length
  · rw [Nat.min_eq_left hi]
    by_cases hj : j ≤ l.length
    · rw [Nat.min_eq_left hj]
    · rw [Nat.min_eq_right (show l.length ≤ j by omega), List.take_of_length_le (by rw [List.length_drop]; exact Nat.le_refl _), List.take_of_length_le (by rw [List.length_drop]; omega)]
  · rw [Nat.min_eq_right (show l.length ≤ i by omega), List.drop_of_length_le (Nat.le_refl l.length), List.drop_of_length_le (show l.length ≤ i by omega), List.take_nil, List.take_nil]
theorem cut_midI (l : List Nat) {i j : Int} (hi : 0 ≤ i) (hj : 0 ≤ j) : cutS (Sx l) (some i) (some j) = Sx ((l.drop i.toNat).take (j.toNat - i.toNat)) := by
  obtain ⟨n, rfl⟩ := Int.eq_ofNat_of_zero_le hi
  obtain ⟨m, rfl⟩ := Int.eq_ofNat_of_zero_le hj
  exact cut_mid l n m
theorem none_back {H H1 : Hp} {a : Addr} (s : Same H H1) (h : H1 a = none) : H a = none := by
  cases e : H a with
  | none => rfl
  | some o => rw [s _ _ e] at h; cases h
theorem take_tw {p : Nat → Bool} (Z : List Nat) : Z.take (Z.takeWhile p).length = Z.takeWhile p := by
  have h : Z.take (Z.takeWhile p).length = (Z.takeWhile p ++ Z.dropWhile p).take (Z.takeWhile p).length := by rw [List.takeWhile_append_dropWhile]
  rw [h, List.take_left]
theorem drop_tw {p : Nat → Bool} (Z : List Nat) : Z.drop (Z.takeWhile p).length = Z.dropWhile p := by
  have h : Z.drop (Z.takeWhile p).length = (Z.takeWhile p ++ Z.dropWhile p).drop (Z.takeWhile p).length := by rw [List.takeWhile_append_dropWhile]
  rw [h, List.drop_left]
theorem tw_mem {p : Nat → Bool} {l : List Nat} {x : Nat} (h : x ∈ l.takeWhile p) : p x = true := by
  induction l with
  | nil => cases h
  | cons c r ih =>
    rw [List.takeWhile_cons] at h
    by_cases hc : p c = true
    · rw [if_pos hc] at h
      rcases List.mem_cons.mp h with h | h
      · rw [h]; exact hc
      · exact ih h
    · rw [if_neg hc] at h; cases h
theorem int_dg {N : List Nat} (h : ∀ x ∈ N, isD x = true) (h0 : N ≠ []) (hl : N.length ≤ 4000) : intText? (Sx N) = some ((dvN N : Nat) : Int) := SX.int_S (by
  refine List.all_eq_true.mpr fun c hc => ?_
  have := h c hc
  unfold isD at this
  simp only [Bool.and_eq_true, decide_eq_true_eq] at this
  simp [this]) h0 (by omega)
def RetLR (H : Hp) (r : LR) (Q : VK) : Prop := match r with
  | .none => ∀ H', Same H H' → Q .non H'
  | .int n => ∀ a H', H a = none → Same H H' → H' a = some (.tup [.str "int", .int n]) → Q (.ref a) H'
  | .flt s t b => ∀ a H', H a = none → Same H H' → H' a = some (.tup [.str "float", .int s, .int (t : Nat), .int (b : Nat)]) → Q (.ref a) H'
theorem RetLR.later {H H1 : Hp} {r : LR} {Q : VK} (h : RetLR H r Q) (s : Same H H1) : RetLR H1 r Q := by
  cases r with
  | none => exact fun H' k => h H' (s.trans k)
  | int n => exact fun a H' na k e => h a H' (none_back s na) (s.trans k) e
  | flt x t b => exact fun a H' na k e => h a H' (none_back s na) (s.trans k) e
def sp_Lreadfar : Sp := fun vs H Q _ => ∃ (u : List Nat) (s : Int), vs = [.str (Sx u), .int s, .int ((u.takeWhile isD).length : Nat), .str (Sx (u.takeWhile isD)), .int 0] ∧ u.length ≤ 4000 ∧ RetLR H (lawFar s u) Q
theorem ok_Lreadfar {f : Addr} {fd : FuncData} (F : FunD K "_law_read_far" "_law_read_far" (defArgs s_Lreadfar) (defBody s_Lreadfar) (defScope s_Lreadfar) [] [] f fd) (B : Blt mg) (hD : PySem.W.nsIn K cStatics "sys.int_max_str_digits" = some none) (c_Lrun : Fn P w K mg base CX0 1 "_law_run" ["_law_text_here", "_law_at", "_law_signs"] [] sp_Lrun) : FnOk P w K mg base CX0 2 f fd ["_law_text_here", "_law_sign", "_law_end", "_law_figures_here", "_law_places"] sp_Lreadfar := by
  refine F.ok sc_Lreadfar (fun vs H Q E h => ?_) (fun cdv A outer s H vs Q E hr h => ?_)
  · obtain ⟨_, _, rfl, _⟩ := h; rfl
  · obtain ⟨u, sg, rfl, hl, q⟩ := h
    have big : (Sx u).length ≤ sizeLine := by rw [Sx_len]; exact Nat.le_trans hl (by decide)
    refine ⟨_, PSs.nox (C8.pss_cut (ps_if (pt_cmpR (op_oEq hr.units) (pe_slice sl_str (pv 0) (po_some (pv 2)) (po_some (pe_op op_oAdd (pv 2) pe_int))) pe_str (nomark _)) (pss_cons (ps_set (i := 5) sc_Lreadfar.nd rfl (Or.inl rfl) (pe_fn c_Lrun (hr.mono (by first | decide | omega)) pass0 (pa_cons (pv 0) (pa_cons (pe_op op_oAdd (pv 2) pe_int) (pa_cons pe_str pa_nil)))))
  (pss_cons (ps_set (i := 3) sc_Lreadfar.nd rfl (Or.inl rfl) (pe_op op_oAdd (pv 3) (pe_slice sl_str (pv 0) (po_some (pe_op op_oAdd (pv 2) pe_int)) (po_some (pv 5)))))
  (pss_one (ps_par (i := 4) (j := 2) rfl sc_Lreadfar.nd rfl rfl (by decide) rfl rfl (pa_cons (pe_op op_oSub (pe_op op_oAdd (pv 2) pe_int) (pv 5)) (pa_cons (pv 5) pa_nil)) (by rfl))))) pss_nil)
  (pss_cons (ps_if (pt_cmpR (op_oEq hr.units) (pv 3) pe_str (nomark _)) (pss_one (ps_ret pe_non)) pss_nil)
  (C8.pss_cut (ps_if (pt_cmpR op_in_seq (pe_slice sl_str (pv 0) (po_some (pv 2)) (po_some (pe_op op_oAdd (pv 2) pe_int))) (pe_tupN (pa_cons pe_str (pa_cons pe_str pa_nil))) (by rfl)) (pss_cons (ps_set (i := 6) sc_Lreadfar.nd rfl (Or.inl rfl) (pe_op op_oAdd (pe_op op_oAdd (pv 2) pe_int) (pe_callTy call_int1 (by rfl) B.int (by decide +kernel) (pa_cons (pe_cmpR op_in_seq (pe_slice sl_str (pv 0) (po_some (pe_op op_oAdd (pv 2) pe_int)) (po_some (pe_op op_oAdd (pv 2) pe_int))) (pe_tupN (pa_cons pe_str (pa_cons pe_str pa_nil))) (by rfl)) pa_nil))))
  (pss_cons (ps_set (i := 2) sc_Lreadfar.nd rfl (Or.inl rfl) (pe_fn c_Lrun (hr.mono (by first | decide | omega)) pass0 (pa_cons (pv 0) (pa_cons (pv 6) (pa_cons pe_str pa_nil)))))
  (pss_cons (ps_if (pt_cmpR (op_oEq hr.units) (pv 2) (pv 6) (nomark _)) (pss_one (ps_ret pe_non)) pss_nil)
  (pss_cons (ps_set (i := 7) sc_Lreadfar.nd rfl (Or.inl rfl) (pe_callTy (call_int_strL hD) (by rfl) B.int (by decide +kernel) (pa_cons (pe_slice sl_str (pv 0) (po_some (pv 6)) (po_some (pv 2))) pa_nil)))
  (pss_one (ps_set (i := 4) sc_Lreadfar.nd rfl (Or.inl rfl) (pe_ifExp (pt_cmpR (op_oEq hr.units) (pe_ix ix_seq (pv 0) (pe_op op_oSub (pv 6) pe_int) (fun _ _ => rfl)) pe_str (nomark _)) (pe_op op_oSub (pv 4) (pv 7)) (pe_op op_oAdd (pv 4) (pv 7))))))))) pss_nil)
  (pss_cons (ps_if (pt_cmpR op_oLt (pv 2) (pe_callB call_len_str (by rfl) B.len (by decide +kernel) (pa_cons (pv 0) pa_nil)) (nomark _)) (pss_one (ps_ret pe_non)) pss_nil)
  (pss_cons (ps_par (i := 8) (j := 9) rfl sc_Lreadfar.nd rfl rfl (by decide) rfl rfl (pa_cons (pe_callTy (call_int_strL hD) (by rfl) B.int (by decide +kernel) (pa_cons (pv 3) pa_nil)) (pa_cons pe_int pa_nil)) (by rfl))
  (pss_cons (ps_for PassesOwn.never rfl (pi_range1 (by rfl) B.range (pa_cons (pe_callB (call_min2 rfl) (by rfl) B.min (by decide +kernel) (pa_cons pe_int (pa_cons (pe_callB call_abs (by rfl) B.abs (by decide +kernel) (pa_cons (pv 4) pa_nil)) pa_nil))) pa_nil)) (pg_name (i := 10) sc_Lreadfar.nd rfl (Or.inl rfl))
    (pss_one (ps_asg (pe_ifExp (pt_cmpR op_oGt (pv 4) pe_int (nomark _)) (pe_tupN (pa_cons (pe_op op_oMul (pv 8) pe_int) (pa_cons (pv 9) pa_nil))) (pe_tupN (pa_cons (pv 8) (pa_cons (pe_op op_oMul (pv 9) pe_int) pa_nil)))) (pg_tup rfl (pgs_cons (pg_name (i := 8) sc_Lreadfar.nd rfl (Or.inl rfl)) (pgs_cons (pg_name (i := 9) sc_Lreadfar.nd rfl (Or.inl rfl)) pgs_nil))))))
  (pss_one (ps_ret (pe_tupN (pa_cons pe_str (pa_cons (pv 1) (pa_cons (pv 8) (pa_cons (pv 9) pa_nil))))))))))))), ?_⟩
    walk_at "f"
    obtain ⟨D1, r1, e1, d1, h1, t1, t2⟩ := tw_spec isD u
    unfold lawFar at q
    rw [t1] at q ⊢
    rw [t2] at q
    have du : u.drop D1.length = r1 := by rw [e1, List.drop_left]
    have lu : u.length = D1.length + r1.length := by rw [e1, List.length_append]
    have run : ∀ n, runN u n [48, 49, 50, 51, 52, 53, 54, 55, 56, 57] = n + ((u.drop n).takeWhile isD).length := fun n => by
      unfold runN
      rw [show (fun c => decide (c ∈ [48, 49, 50, 51, 52, 53, 54, 55, 56, 57])) = isD from funext fun c => mem_dg]
    refine g_cut (fun σ' H' => H = H' ∧ ∃ (e : Nat) (x5 : Option V), e ≤ u.length ∧ u.drop e = laR2 r1 ∧ σ' = [some (.str (Sx u)), some (.int sg), some (.int (e : Nat)), some (.str (Sx (D1 ++ laD2 r1))), some (.int (-((laD2 r1).length : Int))), x5, none, none, none, none, none]) ?_ ?_
    · walk_at "f"
      refine g_slS big ?_
      rw [cut_midI _ (by omega) (by omega), show ((D1.length : Int) + 1).toNat - (D1.length : Int).toNat = 1 by omega, show (D1.length : Int).toNat = D1.length from rfl, du]
      walk_at "f"
      rw [litP]
      refine g_ite (fun h1 => ?_) fun h1 => ?_
      · have h1 := Sx_inj.mp h1
        have e2 : laD2 r1 = (r1.drop 1).takeWhile isD := if_pos h1
        have e3 : laR2 r1 = (r1.drop 1).dropWhile isD := if_pos h1
        have d2 : u.drop (D1.length + 1) = r1.drop 1 := by rw [← du, List.drop_drop]
        have l1 : 1 ≤ r1.length := by
          cases r1 with
          | nil => cases h1
          | cons c r => exact Nat.succ_le_succ (Nat.zero_le _)
        have l2 : ((r1.drop 1).takeWhile isD).length + ((r1.drop 1).dropWhile isD).length = r1.length - 1 := by
          rw [← List.length_append, List.takeWhile_append_dropWhile, List.length_drop]
        walk_at "f"
        rw [litDg]
        refine ⟨u, D1.length + 1, _, rfl, by omega, by omega, ?_⟩
        rw [run, d2]
        walk_at "f"
        refine g_slS big ?_
        rw [cut_midI _ (by omega) (by omega), show ((D1.length : Int) + 1).toNat = D1.length + 1 by omega, d2]
        rw [show ((D1.length + 1 + ((r1.drop 1).takeWhile isD).length : Nat) : Int).toNat - (D1.length + 1) = ((r1.drop 1).takeWhile isD).length by omega]
        rw [take_tw]
        refine g_cat (by omega) ?_
        walk_at "f"
        refine ⟨rfl, D1.length + 1 + ((r1.drop 1).takeWhile isD).length, some (.int (D1.length + 1 + ((r1.drop 1).takeWhile isD).length : Nat)), by omega, ?_, ?_⟩
        · rw [e3, ← List.drop_drop, d2, drop_tw]
        · rw [e2]
          have : (D1.length : Int) + 1 - ((D1.length + 1 + ((r1.drop 1).takeWhile isD).length : Nat) : Int) = -(((r1.drop 1).takeWhile isD).length : Int) := by omega
          rw [this]
          rfl
      · have h1 : ¬ r1.take 1 = [46] := fun z => h1 (by rw [z])
        have e2 : laD2 r1 = [] := if_neg h1
        have e3 : laR2 r1 = r1 := if_neg h1
        walk_at "f"
        refine ⟨rfl, D1.length, none, by omega, by rw [e3, du], ?_⟩
        rw [e2, List.append_nil]
        rfl
    · rintro _ _ ⟨rfl, e, x5, le, de, rfl⟩
      have lR : (laR2 r1).length = u.length - e := by rw [← de, List.length_drop]
      have laD : ∀ c ∈ D1 ++ laD2 r1, isD c = true := fun c hc => by
        rcases List.mem_append.mp hc with hc | hc
        · exact d1 c hc
        · unfold laD2 at hc
          split at hc
          · exact tw_mem hc
          · cases hc
      have laL : (D1 ++ laD2 r1).length ≤ u.length := by
        unfold laD2
        rw [List.length_append]
        split
        · have := (List.takeWhile_sublist isD (l := r1.drop 1)).length_le
          rw [List.length_drop] at this
          omega
        · simp only [List.length_nil]; omega
      walk_at "f"
      rw [litN]
      refine g_ite (fun h0 => ?_) fun h0 => ?_
      · rw [Sx_inj.mp h0, if_pos rfl] at q
        walk_at "f"
        exact q _ (Same.refl _)
      have h0 : D1 ++ laD2 r1 ≠ [] := fun z => h0 (by rw [z])
      rw [if_neg h0] at q
      generalize hG : D1 ++ laD2 r1 = G at *
      generalize hk : (laD2 r1).length = k2 at *
      generalize hR : laR2 r1 = R at *
      walk_at "f"
      refine g_cut (fun σ' H' => Same H H' ∧ ∃ (e' : Nat) (pl : Int) (x6 x7 : Option V), e' ≤ u.length ∧ (e' < u.length → lawEnd R = none) ∧ (e' = u.length → lawEnd R = some (pl + k2)) ∧ σ' = [some (.str (Sx u)), some (.int sg), some (.int (e' : Nat)), some (.str (Sx G)), some (.int pl), x5, x6, x7, none, none, none]) ?_ ?_
      · walk_at "f"
        refine g_slS big ?_
        rw [cut_midI _ (by omega) (by omega), show ((e : Int) + 1).toNat - (e : Int).toNat = 1 by omega, show (e : Int).toNat = e from rfl, de]
        walk_at "f"
        refine g_new (sz rfl) fun p2 H2 n2 s2 hp2 _ => ?_
        refine g_in2 hp2 (.str _) (.str _) (.str _) ?_
        rw [litE, litEU]
        have es2 : decide (V.str (Sx [101]) = V.str (Sx (R.take 1)) ∨ V.str (Sx [69]) = V.str (Sx (R.take 1))) = decide (R.take 1 = [101] ∨ R.take 1 = [69]) := by
          congr 1
          rw [V.str.injEq, V.str.injEq, Sx_inj, Sx_inj, eq_comm (a := [101]), eq_comm (a := [69])]
        rw [es2]
        walk_at "f"
        refine g_ite (fun h4 => ?_) fun h4 => ?_
        · have eE : lawEnd R = lawExp (R.drop 1) := if_pos h4
          rw [eE]
          obtain ⟨c, r3, rfl, hc⟩ : ∃ c r3, R = c :: r3 ∧ (c = 101 ∨ c = 69) := by
            cases R with
            | nil => rcases h4 with h4 | h4 <;> cases h4
            | cons c r => exact ⟨c, r, rfl, by simpa using h4⟩
          rw [List.length_cons] at lR
          have de1 : u.drop (e + 1) = r3 := by rw [← List.drop_drop, de]; rfl
          rw [show (c :: r3).drop 1 = r3 from rfl]
          walk_at "f"
          refine g_slS big ?_
          rw [cut_midI _ (by omega) (by omega), show ((e : Int) + 2).toNat - ((e : Int) + 1).toNat = 1 by omega, show ((e : Int) + 1).toNat = e + 1 by omega, de1]
          walk_at "f"
          refine g_new (sz rfl) fun p3 H3 n3 s3 hp3 _ => ?_
          refine g_in2 hp3 (.str _) (.str _) (.str _) ?_
          rw [litA, litM]
          have es3 : decide (V.str (Sx [43]) = V.str (Sx (r3.take 1)) ∨ V.str (Sx [45]) = V.str (Sx (r3.take 1))) = decide (r3.take 1 = [45] ∨ r3.take 1 = [43]) := by
            congr 1
            rw [V.str.injEq, V.str.injEq, Sx_inj, Sx_inj, eq_comm (a := [43]), eq_comm (a := [45]), Or.comm]
          rw [es3]
          walk_at "f"
          have lr3 : r3.length = u.length - (e + 1) := by rw [← de1, List.length_drop]
          obtain ⟨fn, efn, lfn, dfn, xfn⟩ : ∃ fn : Nat, ((e : Int) + 1 + if decide (r3.take 1 = [45] ∨ r3.take 1 = [43]) = true then 1 else 0) = (fn : Int) ∧ fn ≤ u.length ∧ u.drop fn = sgnOff r3 ∧
              ∃ z, u[fn - 1]? = some z ∧ 1 ≤ fn ∧ (z = 45 ↔ r3.take 1 = [45]) := by
            by_cases h5 : r3.take 1 = [45] ∨ r3.take 1 = [43]
            · rw [decide_eq_true h5]
              obtain ⟨z, r4, e4⟩ : ∃ z r4, r3 = z :: r4 := by
                cases r3 with
                | nil => rcases h5 with h5 | h5 <;> cases h5
                | cons z r => exact ⟨z, r, rfl⟩
              have l4 := lr3
              rw [e4, List.length_cons] at l4
              refine ⟨e + 2, by simp only [if_true]; omega, by omega, ?_, z, ?_, by omega, ?_⟩
              · rw [show sgnOff r3 = r3.drop 1 from if_pos h5, show e + 2 = e + 1 + 1 from rfl, ← List.drop_drop, de1]
              · show u[e + 1]? = _
                rw [← List.head?_drop, de1, e4]
                rfl
              · rw [e4]; simp
            · rw [decide_eq_false h5]
              refine ⟨e + 1, by simp only [Bool.false_eq_true, if_false]; omega, by omega, ?_, c, ?_, by omega, ?_⟩
              · rw [show sgnOff r3 = r3 from if_neg h5, de1]
              · show u[e]? = _
                rw [← List.head?_drop, de]
                rfl
              · exact ⟨fun z => by omega, fun z => absurd (.inl z) h5⟩
          rw [efn, litDg]
          refine ⟨u, fn, _, rfl, lfn, by omega, ?_⟩
          rw [run, dfn]
          walk_at "f"
          have lso : ((sgnOff r3).takeWhile isD).length + ((sgnOff r3).dropWhile isD).length = u.length - fn := by
            rw [← List.length_append, List.takeWhile_append_dropWhile, ← dfn, List.length_drop]
          generalize hN : (sgnOff r3).takeWhile isD = N at *
          refine g_ite (fun h6 => ?_) fun h6 => ?_
          · walk_at "f"
            have eN : N = [] := List.length_eq_zero_iff.mp (by omega)
            have ee : lawExp r3 = none := if_pos (.inl (by rw [hN, eN]))
            rw [eE, show (c :: r3).drop 1 = r3 from rfl, ee] at q
            exact q _ (s2.trans s3)
          · walk_at "f"
            have eN : N ≠ [] := fun z => h6 (by rw [z]; rfl)
            have aN : ∀ x ∈ N, isD x = true := fun x hx => by rw [← hN] at hx; exact tw_mem hx
            refine g_slS big ?_
            rw [cut_midI _ (by omega) (by omega), show (fn : Int).toNat = fn from rfl, show ((fn + N.length : Nat) : Int).toNat - fn = N.length by omega, dfn]
            have tN : (sgnOff r3).take N.length = N := by rw [← hN, take_tw]
            rw [tN]
            walk_at "f"
            refine ⟨_, _, rfl, int_dg aN eN (by omega), by rw [Sx_len]; exact Nat.le_trans (show N.length ≤ 4000 by omega) (by decide), ?_⟩
            walk_at "f"
            obtain ⟨z, z1, z2, z3⟩ := xfn
            refine .inr (.inr ⟨_, _, z, rfl, rfl, big, ?_, ?_⟩)
            · unfold atI ixN
              rw [Sx_cps, if_pos (by omega), if_pos (by omega), show ((fn : Int) - 1).toNat = fn - 1 by omega]
              exact z1
            have Sn : ∃ pl : Int, (e : Int) = e ∧ (if decide (({ cps := #[z] } : Str) = Sx [45]) = true then -(k2 : Int) - (dvN N : Nat) else -(k2 : Int) + (dvN N : Nat)) = pl ∧
                (fn + N.length < u.length → lawExp r3 = none) ∧ (fn + N.length = u.length → lawExp r3 = some (pl + k2)) := by
              refine ⟨_, rfl, rfl, fun y => ?_, fun y => ?_⟩
              · exact if_pos (.inr fun x => by rw [x, List.length_nil] at lso; omega)
              · have en : (sgnOff r3).dropWhile isD = [] := List.length_eq_zero_iff.mp (by omega)
                unfold lawExp
                rw [hN, if_neg (fun x => x.elim eN fun t => t en)]
                congr 1
                by_cases h7 : z = 45
                · have : ({ cps := #[z] } : Str) = Sx [45] := by rw [h7]
                  rw [if_pos (z3.mp h7), if_pos (decide_eq_true this)]
                  omega
                · have : ¬ ({ cps := #[z] } : Str) = Sx [45] := fun t => h7 (by
                    have := Sx_inj.mp (show Sx [z] = Sx [45] from t)
                    injection this)
                  rw [if_neg (fun t => h7 (z3.mpr t)), decide_eq_false this]
                  simp only [Bool.false_eq_true, if_false]
                  omega
            obtain ⟨pl, _, epl, v1, v2⟩ := Sn
            walk_at "f"
            refine g_ite (fun h7 => ?_) fun h7 => ?_
            · rw [if_pos (decide_eq_true h7)] at epl
              walk_at "f"
              exact ⟨s2.trans s3, fn + N.length, pl, _, _, by omega, v1, v2, by rw [epl]; rfl⟩
            · rw [decide_eq_false h7] at epl
              simp only [Bool.false_eq_true, if_false] at epl
              walk_at "f"
              exact ⟨s2.trans s3, fn + N.length, pl, some (.int (fn : Nat)), some (.int (dvN N : Nat)), by omega, v1, v2, by rw [epl]; rfl⟩
        · walk_at "f"
          refine ⟨s2, e, -(k2 : Int), none, none, le, fun z => ?_, fun z => ?_, rfl⟩
          · unfold lawEnd
            rw [if_neg h4, if_pos (fun y => by rw [y] at lR; simp at lR; omega)]
          · have : R = [] := List.length_eq_zero_iff.mp (by omega)
            rw [this]
            show some 0 = _
            congr 1
            omega
      · rintro _ H1 ⟨s1, e', pl, x6, x7, le', v1, v2, rfl⟩
        walk_at "f"
        refine ⟨_, rfl, big, ?_⟩
        rw [Sx_len]
        walk_at "f"
        refine g_ite (fun h8 => ?_) fun h8 => ?_
        · rw [v1 (by omega)] at q
          walk_at "f"
          exact q _ s1
        rw [v2 (by omega)] at q
        have q : RetLR H (lawTo sg (dvN G) (pl + k2 - k2)) Q := q
        rw [show pl + (k2 : Int) - k2 = pl by omega] at q
        walk_at "f"
        refine ⟨_, _, rfl, int_dg laD h0 (by omega), by rw [Sx_len]; exact Nat.le_trans (show G.length ≤ 4000 by omega) (by decide), ?_⟩
        walk_at "f"
        have e30 : (if (if pl < 0 then -pl else pl) < 3000 then if pl < 0 then -pl else pl else 3000) = ((min 3000 pl.natAbs : Nat) : Int) := by
          split <;> split <;> omega
        rw [e30]
        unfold lawTo at q
        generalize hm : min 3000 pl.natAbs = mm at *
        refine ⟨by omega, by omega, ?_⟩
        rw [Int.toNat_natCast]
        refine for_range (fun i σ' H' => Same H H' ∧ ∃ (x10 : Option V), σ' = [some (.str (Sx u)), some (.int sg), some (.int (e' : Nat)), some (.str (Sx G)), some (.int pl), x5, x6, x7, some (.int ((if 0 < pl then dvN G * 10 ^ i else dvN G : Nat) : Int)), some (.int ((if 0 < pl then 1 else 10 ^ i : Nat) : Int)), x10]) ⟨s1, none, by simp⟩ ?_ ?_
        · rintro i _ H2 hi ⟨s2, x10, rfl⟩
          walk_at "f"
          refine g_ite (fun h9 => ?_) fun h9 => ?_
          · rw [if_pos h9, if_pos h9]
            walk_at "f"
            refine g_mulI (.of_right (by decide)) ?_
            walk_at "f"
            refine g_new (sz rfl) fun a H3 n3 s3 h3 _ => ?_
            refine ⟨a, _, rfl, SqT.of h3, rfl, ?_⟩
            walk_at "f"
            refine ⟨s2.trans s3, some (.int (0 + (i : Nat))), ?_⟩
            have eT : ((dvN G * 10 ^ i : Nat) : Int) * 10 = ((dvN G * 10 ^ (i + 1) : Nat) : Int) := by
              rw [Nat.pow_succ, ← Nat.mul_assoc, Int.natCast_mul (dvN G * 10 ^ i) 10]
              rfl
            rw [if_pos h9, if_pos h9, eT]
            rfl
          · rw [if_neg h9, if_neg h9]
            walk_at "f"
            refine g_mulI (.of_right (by decide)) ?_
            walk_at "f"
            refine g_new (sz rfl) fun a H3 n3 s3 h3 _ => ?_
            refine ⟨a, _, rfl, SqT.of h3, rfl, ?_⟩
            walk_at "f"
            refine ⟨s2.trans s3, some (.int (0 + (i : Nat))), ?_⟩
            have eT : ((10 ^ i : Nat) : Int) * 10 = ((10 ^ (i + 1) : Nat) : Int) := by
              rw [Nat.pow_succ, Int.natCast_mul (10 ^ i) 10]
              rfl
            rw [if_neg h9, if_neg h9, eT]
            rfl
        · rintro _ H2 ⟨s2, x10, rfl⟩
          walk_at "f"
          refine g_new (sz rfl) fun a H3 n3 s3 h3 _ => ?_
          exact q a H3 (none_back s2 n3) (s2.trans s3) h3
end
end Up

set_option Elab.async false
set_option linter.all false
set_option pp.maxSteps 700
set_option maxRecDepth 100000
set_option maxHeartbeats 4000000
set_option exponentiation.threshold 200000
namespace Up
open PySem PySem.Spec PyProof.Rows L2
local macro_rules | `(tactic| walk_at "u") => `(tactic| first
  | with_reducible refine g_seq ?_
  | with_reducible refine g_asg ?_
  | with_reducible refine g_op ?_
  | ((with_reducible show tVar _ _ _ _); apply g_var; exact rfl)
  | with_reducible refine g_c ?_
  | with_reducible refine g_name ?_
  | with_reducible refine g_ifs ?_
  | with_reducible refine g_tt ?_
  | with_reducible refine g_tB ?_
  | with_reducible refine g_bl ?_
  | with_reducible refine g_ret ?_
  | with_reducible refine g_cb ?_
  | with_reducible refine g_cons ?_
  | with_reducible refine g_nil ?_
  | with_reducible refine g_call ?_
  | with_reducible refine g_and ?_
  | with_reducible refine g_or ?_
  | with_reducible refine g_not ?_
  | with_reducible refine g_andV ?_
  | with_reducible refine g_orV ?_
  | with_reducible refine g_notV ?_
  | with_reducible refine g_if ?_
  | with_reducible refine g_un ?_
  | with_reducible refine g_neg ?_
  | with_reducible refine g_addI ?_
  | with_reducible refine g_subI ?_
  | with_reducible refine g_subB ?_
  | with_reducible refine g_I0 ?_
  | with_reducible refine g_cmpI ?_
  | with_reducible refine g_eqI ?_
  | with_reducible refine g_neI ?_
  | with_reducible refine g_eqS ?_
  | with_reducible refine g_neS ?_
  | with_reducible refine g_eqB ?_
  | with_reducible refine g_neB ?_
  | with_reducible refine g_bits ?_
  | with_reducible refine g_bitsI ?_
  | with_reducible refine g_fld ?_
  | with_reducible refine g_tup ?_
  | with_reducible refine g_lst ?_
  | with_reducible refine g_gtup ?_
  | with_reducible refine g_make ?_
  | with_reducible refine g_lc ?_
  | with_reducible refine g_yesT ?_
  | with_reducible refine g_intI ?_
  | with_reducible refine g_intB ?_
  | with_reducible refine g_max2 ?_
  | with_reducible refine g_abs1 ?_
  | with_reducible refine g_for ?_
  | with_reducible refine g_iList ?_
  | with_reducible refine g_iTup ?_
  | with_reducible refine g_iRng1 ?_
  | with_reducible refine g_iEnum ?_
  | with_reducible refine g_slice ?_
  | with_reducible refine g_po0 ?_
  | with_reducible refine g_po1 ?_
  | with_reducible refine g_gsub ?_
  | with_reducible refine g_par ?_
  | with_reducible refine g_par2 ?_
  | with_reducible refine g_rfl ?_
  | with_reducible refine g_meth ?_
  | with_reducible refine g_gcons ?_
  | with_reducible refine g_gnil ?_
  | with_reducible refine g_gfld ?_
  | with_reducible refine g_sfld ?_
  | with_reducible refine g_drop ?_
  | with_reducible refine g_next ?_
  | with_reducible refine iteT ?_
  | with_reducible refine iteF ?_)
local macro_rules | `(tactic| walk_at "go") => `(tactic| (repeat walk_at "u"))
local macro_rules | `(tactic| walk_at "f") => `(tactic| (repeat (first
  | walk_at "u"
  | with_reducible refine g_chain ?_
  | with_reducible refine g_par3 ?_
  | with_reducible refine g_par3' ?_
  | ((with_reducible refine show_ex ?_); first
    | refine fT (by assumption) (by assumption) ?_
    | refine fS (by assumption) (by assumption) ?_
    | refine fP (by assumption) (by assumption) ?_))))

section
variable {P : Program} {w : World} {K : PySem.W.Frag} {mg : Str → Option Value} {base : Heap} {C : Addr}
theorem mem_hu {c : Nat} : decide (c ∈ [48, 49, 50, 51, 52, 53, 54, 55, 56, 57, 97, 98, 99, 100, 101, 102, 65, 66, 67, 68, 69, 70]) = isHU c := by
  unfold isHU isX isD
  rw [← Bool.decide_and, ← Bool.decide_and, ← Bool.decide_or, ← Bool.decide_and, ← Bool.decide_or]
  congr 1
  simp only [List.mem_cons, List.not_mem_nil, or_false, eq_iff_iff]
  omega
theorem tw_len {p : Nat → Bool} {v : List Nat} (h : v.length ≤ (v.takeWhile p).length) : v.all p = true := by
  have e : v.takeWhile p = v := (List.takeWhile_sublist p).eq_of_length_le h
  exact List.all_eq_true.mpr fun c hc => by
    rw [← e] at hc
    exact tw_mem hc
theorem tw_allL {p : Nat → Bool} {v : List Nat} (h : v.all p = true) : (v.takeWhile p).length = v.length := by
  rw [(tw_all (List.all_eq_true.mp h)).1]
/-! _law_read -/
theorem sc_Lread : FnScope ["_law_text_here", "_law_first", "_law_last", "_law_sign", "_law_end", "_law_number", "_law_one_here", "_law_figures_here", "_law_places"] ["_law_text_here"] (defScope s_Lread) := ⟨rfl, rfl, rfl, by decide +kernel, rfl, by decide +kernel, by decide +kernel⟩
def sp_Lread : Sp := fun vs H Q _ => ∃ (l : List Nat), vs = [.str (Sx l)] ∧ l.length ≤ 4000 ∧ Asc l ∧ RetLR H (lawRd l) Q
theorem ok_Lread {f : Addr} {fd : FuncData} (F : FunD K "_law_read" "_law_read" (defArgs s_Lread) (defBody s_Lread) (defScope s_Lread) [] [] f fd) (B : Blt mg) (hD : PySem.W.nsIn K cStatics "sys.int_max_str_digits" = some none) (c_Lrun : Fn P w K mg base CX0 1 "_law_run" ["_law_text_here", "_law_at", "_law_signs"] [] sp_Lrun)
    (c_Lreadfar : Fn P w K mg base CX0 2 "_law_read_far" ["_law_text_here", "_law_sign", "_law_end", "_law_figures_here", "_law_places"] [] sp_Lreadfar) : FnOk P w K mg base CX0 3 f fd ["_law_text_here"] sp_Lread := by
  refine F.ok sc_Lread (fun vs H Q E h => ?_) (fun cdv A outer s H vs Q E hr h => ?_)
  · obtain ⟨_, rfl, _⟩ := h; rfl
  · obtain ⟨l, rfl, hl, ha, q⟩ := h
    have big : ∀ {u : List Nat}, u.length ≤ 4000 → (Sx u).length ≤ sizeLine := fun h => by rw [Sx_len]; exact Nat.le_trans h (by decide)
    refine ⟨_, PSs.nox (pss_cons (ps_set (i := 1) sc_Lread.nd rfl (Or.inl rfl) (pe_fn c_Lrun (hr.mono (by first | decide | omega)) pass0 (pa_cons (pv 0) (pa_cons pe_int (pa_cons pe_str pa_nil)))))
  (pss_cons (ps_set (i := 2) sc_Lread.nd rfl (Or.inl rfl) (pe_callB call_len_str (by rfl) B.len (by decide +kernel) (pa_cons (pv 0) pa_nil)))
  (C8.pss_cut (ps_while PassesOwn.never (PW.pt (pw_and (pt_cmpR op_oGt (pv 2) (pv 1) (nomark _)) (pw_and1 (pt_cmpR op_in_str (pe_ix ix_seq (pv 0) (pe_op op_oSub (pv 2) pe_int) (fun _ _ => rfl)) pe_str (by rfl)))))
    (pss_one (ps_set (i := 2) sc_Lread.nd rfl (Or.inl rfl) (pe_op op_oSub (pv 2) pe_int))))
  (pss_cons (ps_par (i := 0) (j := 3) rfl sc_Lread.nd rfl rfl (by decide) rfl rfl (pa_cons (pe_slice sl_str (pv 0) (po_some (pv 1)) (po_some (pv 2))) (pa_cons pe_int pa_nil)) (by rfl))
  (C8.pss_cut (ps_if (pt_cmpR op_in_seq (pe_slice sl_str (pv 0) po_none (po_some pe_int)) (pe_tupN (pa_cons pe_str (pa_cons pe_str pa_nil))) (by rfl)) (pss_one (ps_par (i := 0) (j := 3) rfl sc_Lread.nd rfl rfl (by decide) rfl rfl (pa_cons (pe_slice sl_str (pv 0) (po_some pe_int) po_none) (pa_cons (pe_ifExp (pt_cmpR (op_oEq hr.units) (pe_ix ix_seq (pv 0) pe_int (fun _ _ => rfl)) pe_str (nomark _)) (pe_un un_neg pe_int) pe_int) pa_nil)) (by rfl))) pss_nil)
  (pss_cons (ps_if (pt_cmpR op_in_seq (pe_slice sl_str (pv 0) po_none (po_some pe_int)) (pe_tupN (pa_cons pe_str (pa_cons pe_str pa_nil))) (by rfl)) (pss_cons (ps_set (i := 4) sc_Lread.nd rfl (Or.inl rfl) (pe_fn c_Lrun (hr.mono (by first | decide | omega)) pass0 (pa_cons (pv 0) (pa_cons pe_int (pa_cons pe_str pa_nil)))))
  (pss_cons (ps_if (PW.pt (pw_or (pt_cmpR op_oLt (pv 4) (pe_callB call_len_str (by rfl) B.len (by decide +kernel) (pa_cons (pv 0) pa_nil)) (nomark _)) (pw_or1 (pt_cmpR (op_oEq hr.units) (pv 4) pe_int (nomark _))))) (pss_one (ps_ret pe_non)) pss_nil)
  (pss_cons (ps_set (i := 5) sc_Lread.nd rfl (Or.inl rfl) pe_int)
  (pss_cons (ps_for PassesOwn.never rfl (pi_str (pe_slice sl_str (pv 0) (po_some pe_int) po_none)) (pg_name (i := 6) sc_Lread.nd rfl (Or.inl rfl))
    (pss_one (ps_set (i := 5) sc_Lread.nd rfl (Or.inl rfl) (pe_op op_oMod (pe_callTy call_int1 (by rfl) B.int (by decide +kernel) (pa_cons (pe_op op_oAdd (pe_op op_oMul (pv 5) pe_int) (pe_m1 PySem.F.slot_str_index PySem.F.type_str_index mt_sindex pe_str (pe_lower (pv 6)))) pa_nil)) (pe_op op_oShl pe_int pe_int)))))
  (pss_cons (ps_set (i := 5) sc_Lread.nd rfl (Or.inl rfl) (pe_op op_oMod (pe_callTy call_int1 (by rfl) B.int (by decide +kernel) (pa_cons (pe_op op_oMul (pv 3) (pv 5)) pa_nil)) (pe_op op_oShl pe_int pe_int)))
  (pss_one (ps_ret (pe_tupN (pa_cons pe_str (pa_cons (pe_op op_oSub (pv 5) (pe_op op_oMul (pe_op op_oShl pe_int pe_int) (pe_callTy call_int1 (by rfl) B.int (by decide +kernel) (pa_cons (pe_cmpR op_oGe (pv 5) (pe_op op_oShl pe_int pe_int) (nomark _)) pa_nil)))) pa_nil)))))))))) pss_nil)
  (pss_cons (ps_set (i := 4) sc_Lread.nd rfl (Or.inl rfl) (pe_fn c_Lrun (hr.mono (by first | decide | omega)) pass0 (pa_cons (pv 0) (pa_cons pe_int (pa_cons pe_str pa_nil)))))
  (pss_cons (ps_par (i := 7) (j := 8) rfl sc_Lread.nd rfl rfl (by decide) rfl rfl (pa_cons (pe_slice sl_str (pv 0) po_none (po_some (pv 4))) (pa_cons pe_int pa_nil)) (by rfl))
  (pss_cons (ps_if (PW.pt (pw_and (pt_cmpR (op_oEq hr.units) (pv 4) (pe_callB call_len_str (by rfl) B.len (by decide +kernel) (pa_cons (pv 0) pa_nil)) (nomark _)) (pw_and1 (pt_cmpR op_oGt (pv 4) pe_int (nomark _))))) (pss_cons (ps_set (i := 5) sc_Lread.nd rfl (Or.inl rfl) (pe_op op_oMul (pv 3) (pe_callTy (call_int_strL hD) (by rfl) B.int (by decide +kernel) (pa_cons (pv 7) pa_nil))))
  (pss_one (ps_ret (pe_ifExp (pt_chain op_oLe op_oLt (pe_un un_neg (pe_op op_oShl pe_int pe_int)) (pv 5) (pe_op op_oShl pe_int pe_int)) (pe_tupN (pa_cons pe_str (pa_cons (pv 5) pa_nil))) (pe_tupN (pa_cons pe_str (pa_cons (pv 3) (pa_cons (pe_callTy (call_int_strL hD) (by rfl) B.int (by decide +kernel) (pa_cons (pv 7) pa_nil)) (pa_cons pe_int pa_nil))))))))) pss_nil)
  (pss_one (ps_ret (pe_fn c_Lreadfar (hr.mono (by first | decide | omega)) pass0 (pa_cons (pv 0) (pa_cons (pv 3) (pa_cons (pv 4) (pa_cons (pv 7) (pa_cons (pv 8) pa_nil))))))))))))))))), ?_⟩
    walk_at "f"
    rw [litB]
    have rb : ∀ n, runN l n [32, 9, 10] = n + ((l.drop n).takeWhile isBk).length := fun n => by
      unfold runN
      rw [show (fun c => decide (c ∈ [32, 9, 10])) = isBk from funext fun c => mem_bl]
    refine ⟨l, 0, _, rfl, Nat.zero_le _, by omega, ?_⟩
    rw [rb, List.drop_zero, Nat.zero_add]
    have dl : l.drop (l.takeWhile isBk).length = l.dropWhile isBk := drop_tw l
    have tl : (l.takeWhile isBk).length ≤ l.length := (List.takeWhile_sublist isBk).length_le
    generalize (l.takeWhile isBk).length = n0 at *
    walk_at "f"
    refine ⟨_, rfl, big hl, ?_⟩
    rw [Sx_len]
    walk_at "f"
    refine g_cut (fun σ' H' => H = H' ∧ ∃ M : Nat, n0 ≤ M ∧ M ≤ l.length ∧ (l.drop n0).take (M - n0) = rnT l ∧ σ' = [some (.str (Sx l)), some (.int (n0 : Nat)), some (.int (M : Nat)), none, none, none, none, none, none]) ?_ ?_
    · walk_at "f"
      refine g_while (fun m σ' H' => H = H' ∧ ∃ M : Nat, M = m ∧ n0 ≤ M ∧ M ≤ l.length ∧ (∀ k, M ≤ k → k < l.length → isBk (l.getD k 0) = true) ∧ σ' = [some (.str (Sx l)), some (.int (n0 : Nat)), some (.int (M : Nat)), none, none, none, none, none, none]) l.length ⟨rfl, l.length, rfl, tl, Nat.le_refl _, fun k a b => by omega, rfl⟩ ?_
      rintro m _ _ ⟨rfl, M, rfl, M0, M1, hb, rfl⟩
      have fin : (M - n0 = 0 ∨ isBk ((l.drop n0).getD (M - n0 - 1) 0) = false) → (l.drop n0).take (M - n0) = rnT l := fun h => by
        unfold rnT stripL
        rw [← dl]
        refine (dropE_eq (by rw [List.length_drop]; omega) (fun k k1 k2 => ?_) h).symm
        rw [List.length_drop] at k2
        rw [getD_drop']
        exact hb _ (by omega) (by omega)
      walk_at "f"
      refine g_ite (fun h1 => ?_) fun h1 => ?_
      · have h1 : n0 < M := by omega
        walk_at "f"
        have hM : M - 1 < l.length := by omega
        refine .inr (.inr ⟨_, _, l[M - 1], rfl, rfl, big hl, ?_, ?_⟩)
        · unfold atI ixN
          rw [Sx_cps, if_pos (by omega), if_pos (by omega), show ((M : Int) - 1).toNat = M - 1 by omega]
          exact List.getElem?_eq_getElem hM
        walk_at "f"
        refine ⟨_, _, rfl, rfl, ?_⟩
        rw [in_one, mem_bl]
        have eg : l.getD (M - 1) 0 = l[M - 1] := by
          rw [List.getD_eq_getElem?_getD, List.getElem?_eq_getElem hM]
          rfl
        walk_at "f"
        refine g_iteb (fun h2 => ?_) fun h2 => ?_
        · refine ⟨_, fun σ' H' z => z, ?_⟩
          walk_at "f"
          refine ⟨M - 1, by omega, rfl, M - 1, rfl, by omega, by omega, fun k k1 k2 => ?_, ?_⟩
          · by_cases y : k = M - 1
            · rw [y, eg]; exact h2
            · exact hb k (by omega) k2
          · rw [show ((M : Int) - 1) = ((M - 1 : Nat) : Int) by omega]
            rfl
        · walk_at "f"
          refine ⟨rfl, M, M0, M1, fin (.inr ?_), rfl⟩
          rw [getD_drop', show n0 + (M - n0 - 1) = M - 1 by omega, eg]
          simpa using h2
      · walk_at "f"
        exact ⟨rfl, M, M0, M1, fin (.inl (by omega)), rfl⟩
    · rintro _ _ ⟨rfl, M, M0, M1, eM, rfl⟩
      walk_at "f"
      refine g_slS (big hl) ?_
      rw [cut_midI _ (by omega) (by omega), show (M : Int).toNat - (n0 : Int).toNat = M - n0 by omega, show (n0 : Int).toNat = n0 from rfl, eM]
      walk_at "f"
      have lT : (rnT l).length ≤ 4000 := Nat.le_trans strip_len hl
      refine g_cut (fun σ' H' => Same H H' ∧ σ' = [some (.str (Sx (sgnOff (rnT l)))), some (.int (n0 : Nat)), some (.int (M : Nat)), some (.int (lawSg l)), none, none, none, none, none]) ?_ ?_
      · walk_at "f"
        refine g_slS (big lT) ?_
        rw [cut_to _ (by decide), show Int.toNat 1 = 1 from rfl]
        walk_at "f"
        refine g_new (sz rfl) fun p2 H2 n2 s2 hp2 _ => ?_
        refine g_in2 hp2 (.str _) (.str _) (.str _) ?_
        rw [litA, litM]
        have es2 : decide (V.str (Sx [43]) = V.str (Sx ((rnT l).take 1)) ∨ V.str (Sx [45]) = V.str (Sx ((rnT l).take 1))) = decide ((rnT l).take 1 = [45] ∨ (rnT l).take 1 = [43]) := by
          congr 1
          rw [V.str.injEq, V.str.injEq, Sx_inj, Sx_inj, eq_comm (a := [43]), eq_comm (a := [45]), Or.comm]
        rw [es2]
        walk_at "f"
        refine g_ite (fun h4 => ?_) fun h4 => ?_
        · have e4 : sgnOff (rnT l) = (rnT l).drop 1 := if_pos h4
          obtain ⟨z, r, er⟩ : ∃ z r, rnT l = z :: r := by
            cases hh : rnT l with
            | nil => rw [hh] at h4; rcases h4 with h4 | h4 <;> cases h4
            | cons z r => exact ⟨z, r, rfl⟩
          walk_at "f"
          refine g_slS (big lT) ?_
          rw [cut_from _ (by decide), show Int.toNat 1 = 1 from rfl]
          walk_at "f"
          refine .inr (.inr ⟨_, _, z, rfl, rfl, big lT, ?_, ?_⟩)
          · rw [Sx_cps, er]
            unfold atI ixN
            rw [if_pos (by decide), if_pos (by rw [List.length_cons]; omega)]
            rfl
          walk_at "f"
          refine g_ite (fun h5 => ?_) fun h5 => ?_
          · have h5 : z = 45 := by
              have := Sx_inj.mp (show Sx [z] = Sx [45] from h5)
              injection this
            walk_at "f"
            refine ⟨s2, ?_⟩
            have eg : lawSg l = -1 := if_pos (by rw [er, h5, List.take_succ_cons, List.take_zero])
            rw [e4, eg]
            rfl
          · have h5 : z ≠ 45 := fun y => h5 (by rw [y])
            walk_at "f"
            refine ⟨s2, ?_⟩
            have eg : lawSg l = 1 := if_neg (by rw [er]; intro y; injection y with y; exact h5 y)
            rw [e4, eg]
            rfl
        · have e4 : sgnOff (rnT l) = rnT l := if_neg h4
          have eg : lawSg l = 1 := if_neg (fun y => h4 (.inl y))
          walk_at "f"
          refine ⟨s2, ?_⟩
          rw [e4, eg]
          rfl
      · rintro _ H1 ⟨s1, rfl⟩
        have hsg : lawSg l = 1 ∨ lawSg l = -1 := by
          unfold lawSg
          split
          · exact .inr rfl
          · exact .inl rfl
        have aU : Asc (sgnOff (rnT l)) := fun c hc => ha c (strip_sub c (sgnOff_sub c hc))
        have lU : (sgnOff (rnT l)).length ≤ 4000 := Nat.le_trans (sgnOff_len _) lT
        unfold lawRd at q
        generalize lawSg l = sg at *
        generalize sgnOff (rnT l) = u at *
        walk_at "f"
        refine g_slS (big lU) ?_
        rw [cut_to _ (by decide), show Int.toNat 2 = 2 from rfl]
        walk_at "f"
        refine g_new (sz rfl) fun p2 H2 n2 s2 hp2 _ => ?_
        refine g_in2 hp2 (.str _) (.str _) (.str _) ?_
        rw [lit0x, lit0X]
        have es2 : decide (V.str (Sx [48, 120]) = V.str (Sx (u.take 2)) ∨ V.str (Sx [48, 88]) = V.str (Sx (u.take 2))) = decide (u.take 2 = [48, 120] ∨ u.take 2 = [48, 88]) := by
          congr 1
          rw [V.str.injEq, V.str.injEq, Sx_inj, Sx_inj, eq_comm (a := [48, 120]), eq_comm (a := [48, 88])]
        rw [es2]
        walk_at "f"
        refine g_ite (fun h4 => ?_) fun h4 => ?_
        · rw [if_pos h4] at q
          have l2 : 2 ≤ u.length := by
            match u, h4 with
            | [], h => rcases h with h | h <;> cases h
            | [a], h => rcases h with h | h <;> (injection h with _ h; cases h)
            | _ :: _ :: r, _ => exact Nat.le_add_left 2 r.length
          walk_at "f"
          rw [litHU]
          refine ⟨u, 2, _, rfl, l2, by omega, ?_⟩
          walk_at "f"
          have lv : (u.drop 2).length = u.length - 2 := List.length_drop ..
          have aV : Asc (u.drop 2) := asc_drop aU
          have er : runN u 2 [48, 49, 50, 51, 52, 53, 54, 55, 56, 57, 97, 98, 99, 100, 101, 102, 65, 66, 67, 68, 69, 70] = 2 + ((u.drop 2).takeWhile isHU).length := by
            unfold runN
            rw [show (fun c => decide (c ∈ [48, 49, 50, 51, 52, 53, 54, 55, 56, 57, 97, 98, 99, 100, 101, 102, 65, 66, 67, 68, 69, 70])) = isHU from funext fun c => mem_hu]
          rw [er]
          refine ⟨_, rfl, big lU, ?_⟩
          rw [Sx_len]
          walk_at "f"
          refine g_ite (fun h5 => ?_) fun h5 => ?_
          · walk_at "f"
            have ee : lawHex sg (u.drop 2) = .none := by
              unfold lawHex
              refine if_pos ?_
              cases hx : (u.drop 2).all isHU with
              | false => exact .inr rfl
              | true =>
                have := tw_allL hx
                omega
            rw [ee] at q
            exact q _ (s1.trans s2)
          have ha2 : (u.drop 2).all isHU = true := tw_len (by omega)
          walk_at "f"
          refine g_ite (fun h6 => ?_) fun h6 => ?_
          · walk_at "f"
            have ee : lawHex sg (u.drop 2) = .none := by
              unfold lawHex
              refine if_pos (.inl ?_)
              rw [tw_allL ha2] at h6
              exact List.length_eq_zero_iff.mp (by omega)
            rw [ee] at q
            exact q _ (s1.trans s2)
          have h0 : u.drop 2 ≠ [] := fun y => h6 (by rw [y]; rfl)
          unfold lawHex at q
          rw [if_neg (fun y => y.elim h0 fun z => by rw [ha2] at z; cases z)] at q
          walk_at "f"
          generalize (2 + ((u.drop 2).takeWhile isHU).length) = e4 at *
          refine g_iStr ?_
          walk_at "f"
          refine g_slS (big lU) ?_
          rw [cut_from _ (by decide), show Int.toNat 2 = 2 from rfl]
          generalize u.drop 2 = v at *
          refine ⟨_, rfl, ?_⟩
          have esz : (Sx v).cps.size = v.length := by show v.toArray.size = _; simp
          have hH : ∀ n : Nat, hexL (v.take n) < 18446744073709551616 := fun n => hexN_lt _
          refine for_str (fun i σ' H' => i ≤ v.length ∧ H2 = H' ∧ ∃ e6, σ' = [some (.str (Sx u)), some (.int (n0 : Nat)), some (.int (M : Nat)), some (.int sg), some (.int (e4 : Nat)), some (.int (hexL (v.take i) : Nat)), e6, none, none]) ⟨Nat.zero_le _, rfl, _, rfl⟩ ?_ ?_
          · rintro i c _ _ hc ⟨hi, rfl, e6, rfl⟩
            have hc : v[i]? = some c := by rw [← Sx_cps v]; rw [Array.getElem?_toList]; exact hc
            have hi2 : i < v.length := by
              by_cases y : i < v.length
              · exact y
              · rw [List.getElem?_eq_none (by omega)] at hc; cases hc
            have et : hexL (v.take (i + 1)) = (hexL (v.take i) * 16 + hxV (PyProof.Rows.lo1 c)) % 18446744073709551616 := by
              unfold hexL lowL hexN
              rw [List.take_add_one, hc, List.map_append, List.foldl_append]
              rfl
            have cm : c ∈ v := List.mem_of_getElem? hc
            obtain ⟨rest, ho⟩ := hex_at (c := PyProof.Rows.lo1 c) (by rw [isX_lo]; exact List.all_eq_true.mp ha2 c cm)
            have hlt := hH i
            walk_at "f"
            refine g_mulI (.of_right (by decide)) ?_
            walk_at "f"
            refine g_m1 ?_
            walk_at "f"
            refine ⟨⟨_, rfl⟩, ?_⟩
            refine g_m0 ?_
            walk_at "f"
            refine ⟨⟨_, rfl⟩, ?_⟩
            refine ⟨_, rfl, rfl, by show (Sx [c]).length ≤ 5592405; rw [Sx_len]; exact Nat.le_trans (Nat.le_refl 1) (by decide), ?_⟩
            rw [show ({ cps := #[c] } : Str) = Sx [c] from rfl, low_S (l := [c]) (fun x hx => by rw [List.mem_singleton.mp hx]; exact aV c cm)]
            refine ⟨_, _, _, rest, rfl, rfl, ho, ?_⟩
            walk_at "f"
            refine g_II (shl_small (by decide) (by decide) (lt_pow_mono (a := 1) (by decide) (by decide))) ?_
            walk_at "f"
            refine g_modI (by decide) ?_
            walk_at "f"
            refine ⟨hi2, rfl, some (.str ⟨#[c]⟩), ?_⟩
            have e2 : (1 : Int) * 2 ^ (64 : Int).toNat = ((18446744073709551616 : Nat) : Int) := by decide
            rw [e2, et, Int.fmod_eq_emod_of_nonneg _ (by decide)]
            rfl
          · rintro _ _ ⟨_, rfl, e6, rfl⟩
            rw [esz, List.take_of_length_le (Nat.le_refl _)]
            walk_at "f"
            have hM2 : ∀ x : Int, IntMulOk sg x := fun x => .of_left (by rcases hsg with rfl | rfl <;> decide)
            refine g_mulI (hM2 _) ?_
            walk_at "f"
            refine g_II (shl_small (by decide) (by decide) (lt_pow_mono (a := 1) (by decide) (by decide))) ?_
            walk_at "f"
            refine g_modI (by decide) ?_
            walk_at "f"
            refine g_II (shl_small (by decide) (by decide) (lt_pow_mono (a := 1) (by decide) (by decide))) ?_
            walk_at "f"
            have p64 : (1 : Int) * 2 ^ Int.toNat 64 = 18446744073709551616 := by decide
            have p63 : (1 : Int) * 2 ^ Int.toNat 63 = 9223372036854775808 := by decide
            rw [p64]
            refine g_II (shl_small (by decide) (by decide) (lt_pow_mono (a := 1) (by decide) (by decide))) ?_
            walk_at "f"
            rw [p63]
            refine g_mulI (.of_right (by split <;> decide)) ?_
            walk_at "f"
            refine g_new (sz rfl) fun a H3 n3 s3 h3 _ => ?_
            refine q a H3 (none_back (s1.trans s2) n3) ((s1.trans s2).trans s3) ?_
            rw [h3]
            have eb : (if decide (9223372036854775808 ≤ (sg * (hexL v : Nat)).fmod 18446744073709551616) = true then (1 : Int) else 0) = if 9223372036854775808 ≤ (sg * (hexL v : Nat)).fmod 18446744073709551616 then 1 else 0 := by
              by_cases z : 9223372036854775808 ≤ (sg * (hexL v : Nat)).fmod 18446744073709551616
              · rw [decide_eq_true z, if_pos z]; rfl
              · rw [decide_eq_false z, if_neg z]; rfl
            rw [eb]
        · rw [if_neg h4] at q
          walk_at "f"
          rw [litDg]
          refine ⟨u, 0, _, rfl, Nat.zero_le _, by omega, ?_⟩
          walk_at "f"
          have er : runN u 0 [48, 49, 50, 51, 52, 53, 54, 55, 56, 57] = (u.takeWhile isD).length := by
            unfold runN
            rw [show (fun c => decide (c ∈ [48, 49, 50, 51, 52, 53, 54, 55, 56, 57])) = isD from funext fun c => mem_dg, List.drop_zero, Nat.zero_add]
          rw [er]
          refine g_slS (big lU) ?_
          rw [cut_to _ (by omega), show ((u.takeWhile isD).length : Int).toNat = (u.takeWhile isD).length from rfl, take_tw]
          walk_at "f"
          refine ⟨_, rfl, big lU, ?_⟩
          rw [Sx_len]
          walk_at "f"
          have far : ¬ (u ≠ [] ∧ u.all isD = true) → ∃ u' s', [V.str (Sx u), .int sg, .int ((u.takeWhile isD).length : Nat), .str (Sx (u.takeWhile isD)), .int 0] = [V.str (Sx u'), .int s', .int ((u'.takeWhile isD).length : Nat), .str (Sx (u'.takeWhile isD)), .int 0] ∧ u'.length ≤ 4000 ∧ RetLR H2 (lawFar s' u') Q := fun h => by
            rw [if_neg h] at q
            exact ⟨u, sg, rfl, lU, q.later (s1.trans s2)⟩
          refine g_ite (fun h5 => ?_) fun h5 => ?_
          · have hall : u.all isD = true := tw_len (by omega)
            have htw : u.takeWhile isD = u := (tw_all (List.all_eq_true.mp hall)).1
            walk_at "f"
            refine g_ite (fun h6 => ?_) fun h6 => ?_
            · rw [htw] at h6 ⊢
              have h0 : u ≠ [] := fun y => by rw [y] at h6; exact absurd h6 (by decide)
              rw [if_pos ⟨h0, hall⟩] at q
              have hint := int_dg (List.all_eq_true.mp hall) h0 lU
              walk_at "f"
              refine ⟨_, _, rfl, hint, big lU, ?_⟩
              have hM2 : ∀ x : Int, IntMulOk sg x := fun x => .of_left (by rcases hsg with rfl | rfl <;> decide)
              refine g_mulI (hM2 _) ?_
              walk_at "f"
              have p63 : (1 : Int) * 2 ^ Int.toNat 63 = 9223372036854775808 := by decide
              refine g_II (shl_small (by decide) (by decide) (lt_pow_mono (a := 1) (by decide) (by decide))) ?_
              rw [p63]
              walk_at "f"
              have fl : ¬ (-9223372036854775808 ≤ sg * (dvN u : Nat) ∧ sg * (dvN u : Nat) < 9223372036854775808) → ∀ a H', H2 a = none → Same H2 H' → H' a = some (.tup [.str "float", .int sg, .int (dvN u : Nat), .int 1]) → Q (.ref a) H' := fun h a H' na k e => by
                rw [if_neg h] at q
                exact q a H' (none_back (s1.trans s2) na) ((s1.trans s2).trans k) e
              refine g_ite (fun h7 => ?_) fun h7 => ?_
              · walk_at "f"
                refine g_II (shl_small (by decide) (by decide) (lt_pow_mono (a := 1) (by decide) (by decide))) ?_
                rw [p63]
                walk_at "f"
                refine g_ite (fun h8 => ?_) fun h8 => ?_
                · rw [if_pos ⟨h7, h8⟩] at q
                  walk_at "f"
                  refine g_new (sz rfl) fun a H3 n3 s3 h3 _ => ?_
                  exact q a H3 (none_back (s1.trans s2) n3) ((s1.trans s2).trans s3) h3
                · walk_at "f"
                  refine ⟨_, _, rfl, hint, big lU, ?_⟩
                  walk_at "f"
                  refine g_new (sz rfl) fun a H3 n3 s3 h3 _ => ?_
                  exact fl (fun y => h8 y.2) a H3 n3 s3 h3
              · walk_at "f"
                refine ⟨_, _, rfl, hint, big lU, ?_⟩
                walk_at "f"
                refine g_new (sz rfl) fun a H3 n3 s3 h3 _ => ?_
                exact fl (fun y => h7 y.1) a H3 n3 s3 h3
            · rw [htw] at h6
              walk_at "f"
              refine far fun y => h6 ?_
              have := List.length_pos_iff.mpr y.1
              omega
          · walk_at "f"
            refine far fun y => h5 ?_
            rw [tw_allL y.2]
end
end Up

set_option Elab.async false
set_option linter.all false
set_option pp.maxSteps 700
set_option maxRecDepth 100000
set_option maxHeartbeats 4000000
set_option exponentiation.threshold 200000
namespace Up
open PySem PySem.Spec PyProof.Rows L2
local macro_rules | `(tactic| walk_at "u") => `(tactic| first
  | with_reducible refine g_seq ?_
  | with_reducible refine g_asg ?_
  | with_reducible refine g_op ?_
  | ((with_reducible show tVar _ _ _ _); apply g_var; exact rfl)
  | with_reducible refine g_c ?_
  | with_reducible refine g_name ?_
  | with_reducible refine g_ifs ?_
  | with_reducible refine g_tt ?_
  | with_reducible refine g_tB ?_
  | with_reducible refine g_bl ?_
  | with_reducible refine g_ret ?_
  | with_reducible refine g_cb ?_
  | with_reducible refine g_cons ?_
  | with_reducible refine g_nil ?_
  | with_reducible refine g_call ?_
  | with_reducible refine g_and ?_
  | with_reducible refine g_or ?_
  | with_reducible refine g_not ?_
  | with_reducible refine g_andV ?_
  | with_reducible refine g_orV ?_
  | with_reducible refine g_notV ?_
  | with_reducible refine g_if ?_
  | with_reducible refine g_un ?_
  | with_reducible refine g_neg ?_
  | with_reducible refine g_addI ?_
  | with_reducible refine g_subI ?_
  | with_reducible refine g_subB ?_
  | with_reducible refine g_I0 ?_
  | with_reducible refine g_cmpI ?_
  | with_reducible refine g_eqI ?_
  | with_reducible refine g_neI ?_
  | with_reducible refine g_eqS ?_
  | with_reducible refine g_neS ?_
  | with_reducible refine g_eqB ?_
  | with_reducible refine g_neB ?_
  | with_reducible refine g_bits ?_
  | with_reducible refine g_bitsI ?_
  | with_reducible refine g_fld ?_
  | with_reducible refine g_tup ?_
  | with_reducible refine g_lst ?_
  | with_reducible refine g_gtup ?_
  | with_reducible refine g_make ?_
  | with_reducible refine g_lc ?_
  | with_reducible refine g_yesT ?_
  | with_reducible refine g_intI ?_
  | with_reducible refine g_intB ?_
  | with_reducible refine g_max2 ?_
  | with_reducible refine g_abs1 ?_
  | with_reducible refine g_for ?_
  | with_reducible refine g_iList ?_
  | with_reducible refine g_iTup ?_
  | with_reducible refine g_iRng1 ?_
  | with_reducible refine g_iEnum ?_
  | with_reducible refine g_slice ?_
  | with_reducible refine g_po0 ?_
  | with_reducible refine g_po1 ?_
  | with_reducible refine g_gsub ?_
  | with_reducible refine g_par ?_
  | with_reducible refine g_par2 ?_
  | with_reducible refine g_rfl ?_
  | with_reducible refine g_meth ?_
  | with_reducible refine g_gcons ?_
  | with_reducible refine g_gnil ?_
  | with_reducible refine g_gfld ?_
  | with_reducible refine g_sfld ?_
  | with_reducible refine g_drop ?_
  | with_reducible refine g_next ?_
  | with_reducible refine iteT ?_
  | with_reducible refine iteF ?_)
local macro_rules | `(tactic| walk_at "go") => `(tactic| (repeat walk_at "u"))
local macro_rules | `(tactic| walk_at "f") => `(tactic| (repeat (first
  | walk_at "u"
  | with_reducible refine g_chain ?_
  | with_reducible refine g_par3 ?_
  | with_reducible refine g_par3' ?_
  | ((with_reducible refine show_ex ?_); first
    | refine fT (by assumption) (by assumption) ?_
    | refine fS (by assumption) (by assumption) ?_
    | refine fP (by assumption) (by assumption) ?_))))

section
variable {P : Program} {w : World} {K : PySem.W.Frag} {mg : Str → Option Value} {base : Heap} {C : Addr} {H : Hp} {Q : VK} {v u : V} {x y : FL}
abbrev CEq (P : Program) (w : World) (K : PySem.W.Frag) (mg : Str → Option Value) (base : Heap) (C : Addr) : Prop := EqC P w K mg base 1 C (sp_Feq C)
theorem g_eqF (h1 : FA C H v x) (h2 : FA C H u y) (ox : x.ok) (oy : y.ok) (q : ∀ H', Same H H' → Q (.bl (eqL x y)) H') : rEqO C (sp_Feq C) v u H Q := by
  obtain ⟨a, rfl, dx, ha⟩ := id h1
  obtain ⟨b, rfl, dy, hb⟩ := id h2
  exact ⟨a, b, dx, dy, _, _, rfl, rfl, ha, hb, _, _, x, y, rfl, h1, h2, ox, oy, fun H' s => ⟨_, rfl, q H' s⟩⟩
theorem g_neF (h1 : FA C H v x) (h2 : FA C H u y) (ox : x.ok) (oy : y.ok) (q : ∀ H', Same H H' → Q (.bl (!eqL x y)) H') : rNeO C (sp_Feq C) v u H Q := by
  obtain ⟨a, rfl, dx, ha⟩ := id h1
  obtain ⟨b, rfl, dy, hb⟩ := id h2
  exact ⟨a, b, dx, dy, _, _, rfl, rfl, ha, hb, _, _, x, y, rfl, h1, h2, ox, oy, fun H' s => ⟨_, rfl, q H' s⟩⟩
def isFR : Rd → Bool
  | .flt _ => true
  | _ => false
def isIR : Rd → Bool
  | .int _ => true
  | _ => false
theorem RdAt.kf (T : FlC K mg C) : ∀ {r : Rd}, RdAt C H v r → ∃ t, KnF K C H v t (isFR r) ∧ isI v = isIR r ∧ isB v = false
  | .none, h => by
    have h : v = .non := h
    subst h
    exact ⟨_, kf_non T, rfl, rfl⟩
  | .int i, h => by
    have h : v = .int i := h
    subst h
    exact ⟨_, kf_int T, rfl, rfl⟩
  | .flt x, h => by
    obtain ⟨a, rfl, hh⟩ := (show FA C H v x from h)
    exact ⟨_, kf_fl T hh, rfl, rfl⟩
/-- what the law finds is small enough to be asked -/
def LRb : LR → Prop
  | .flt s t b => (s = 1 ∨ s = -1) ∧ t < 2 ^ BN ∧ b < 2 ^ BN
  | _ => True
/-! _law_right -/
theorem sc_Lright : FnScope ["_law_text_here", "_law_due", "_law_told"] ["_law_text_here"] (defScope s_Lright) := ⟨rfl, rfl, rfl, by decide +kernel, rfl, by decide +kernel, by decide +kernel⟩
abbrev CRd (P : Program) (w : World) (K : PySem.W.Frag) (mg : Str → Option Value) (base : Heap) (C : Addr) : Prop := Fn P w K mg base CX0 8 "read_number" ["text"] [] (sp_readnumber C)
def sp_Lright (C : Addr) : Sp := fun vs H Q _ => ∃ (l : List Nat), vs = [.str (Sx l)] ∧ l.length ≤ 4000 ∧ Asc l ∧ OkR (rnN l) (lawRd l) ∧ LRb (lawRd l) ∧ ∀ H', Same H H' → Q (.bl true) H'
theorem ok_Lright {f : Addr} {fd : FuncData} (F : FunD K "_law_right" "_law_right" (defArgs s_Lright) (defBody s_Lright) (defScope s_Lright) [] [] f fd) (B : Blt mg) (T : FlC K mg C) (c_Float : CnF P w K mg base C) (c_Feq : CEq P w K mg base C) (c_readnumber : CRd P w K mg base C)
    (c_Lread : Fn P w K mg base CX0 3 "_law_read" ["_law_text_here"] [] sp_Lread) (c_Lisnearest : Fn P w K mg base CX0 2 "_law_is_nearest" ["_law_found", "_law_sign", "_law_top", "_law_bottom"] [] (sp_Lisnearest C)) : FnOk P w K mg base CX0 9 f fd ["_law_text_here"] (sp_Lright C) := by
  have g_Float : mg "Float" = some (.ref C) := T.mg
  refine F.ok sc_Lright (fun vs H Q E h => ?_) (fun cdv A outer s H vs Q E hr h => ?_)
  · obtain ⟨_, rfl, _⟩ := h; rfl
  · obtain ⟨l, rfl, hl, ha, ok, lb, q⟩ := h
    refine ⟨_, PSs.nox (pss_cons (ps_par (i := 1) (j := 2) rfl sc_Lright.nd rfl rfl (by decide) rfl rfl (pa_cons (pe_fn c_Lread (hr.mono (by first | decide | omega)) pass0 (pa_cons (pv 0) pa_nil)) (pa_cons (pe_fn c_readnumber (hr.mono (by first | decide | omega)) pass0 (pa_cons (pv 0) pa_nil)) pa_nil)) (by rfl))
  (pss_cons (ps_if (pt_cmpR op_isN (pv 1) pe_non (nomark _)) (pss_one (ps_ret (pe_cmpR op_isN (pv 2) pe_non (nomark _)))) pss_nil)
  (pss_cons (ps_if (pt_cmpR (op_oEq hr.units) (pe_ix ix_seq (pv 1) pe_int (fun _ _ => rfl)) pe_str (nomark _)) (pss_one (ps_ret (pe_and (pe_callB call_isi (by rfl) B.isinstance (by decide +kernel) (pa_cons (pv 2) (pa_cons (pe_tyInt B) pa_nil))) (pe_one (pe_cmpR (op_oEq hr.units) (pv 2) (pe_ix ix_seq (pv 1) pe_int (fun _ _ => rfl)) (nomark _)))))) pss_nil)
  (pss_cons (ps_if (pt_not (pt_val (pe_callB call_isi (by rfl) B.isinstance (by decide +kernel) (pa_cons (pv 2) (pa_cons (pe_gref g_Float) pa_nil))))) (pss_one (ps_ret pe_bl)) pss_nil)
  (pss_cons (ps_if (pt_cmpR (op_oEq hr.units) (pe_ix ix_seq (pv 1) pe_int (fun _ _ => rfl)) pe_int (nomark _)) (pss_one (ps_ret (pe_cmpR (op_eqO c_Feq (hr.mono (by decide))) (pv 2) (pe_cn c_Float (hr.mono (by first | decide | omega)) pass0 (pa_cons (pe_ix ix_seq (pv 1) pe_int (fun _ _ => rfl)) (pa_cons pe_int (pa_cons pe_int pa_nil)))) (nomark _)))) pss_nil)
  (pss_one (ps_ret (pe_fn c_Lisnearest (hr.mono (by first | decide | omega)) pass0 (pa_cons (pv 2) (pa_cons (pe_ix ix_seq (pv 1) pe_int (fun _ _ => rfl)) (pa_cons (pe_ix ix_seq (pv 1) pe_int (fun _ _ => rfl)) (pa_cons (pe_ix ix_seq (pv 1) pe_int (fun _ _ => rfl)) pa_nil)))))))))))), ?_⟩
    walk_at "f"
    refine ⟨l, rfl, hl, ha, ?_⟩
    generalize lawRd l = r at *
    cases r with
    | none =>
      intro H1 s1
      walk_at "f"
      refine ⟨l, rfl, by omega, ha, fun H2 v s2 h2 => ?_⟩
      have ok : rnN l = .none := ok
      rw [ok] at h2
      have h2 : v = .non := h2
      subst h2
      walk_at "f"
      refine g_yes rfl ?_
      walk_at "f"
      exact q _ (s1.trans s2)
    | int n =>
      intro a H1 n1 s1 h1
      walk_at "f"
      refine ⟨l, rfl, by omega, ha, fun H2 v s2 h2 => ?_⟩
      have ok : rnN l = .int n := ok
      rw [ok] at h2
      have h2 : v = .int n := h2
      subst h2
      replace h1 := s2 _ _ h1
      walk_at "f"
      refine g_no (fun z => by cases z) ?_
      walk_at "f"
      refine g_ixT h1 rfl ?_
      walk_at "f"
      refine g_yes rfl ?_
      walk_at "f"
      refine g_isiInt kn_int ?_
      walk_at "f"
      refine iteT ?_
      walk_at "f"
      refine g_ixT h1 rfl ?_
      walk_at "f"
      rw [decide_eq_true rfl]
      exact q _ (s1.trans s2)
    | flt sg t b =>
      intro a H1 n1 s1 h1
      walk_at "f"
      refine ⟨l, rfl, by omega, ha, fun H2 v s2 h2 => ?_⟩
      obtain ⟨x, e, hb, ok⟩ := ok
      rw [e] at h2
      replace h1 := s2 _ _ h1
      obtain ⟨hs, lt, lb⟩ := lb
      walk_at "f"
      refine g_no (fun z => by cases z) ?_
      walk_at "f"
      refine g_ixT h1 rfl ?_
      walk_at "f"
      refine g_no (by decide +kernel) ?_
      walk_at "f"
      obtain ⟨ty, hk, _⟩ := RdAt.kf T h2
      refine g_isiF hk ?_
      rw [show isFR (Rd.flt x) = true from rfl]
      walk_at "f"
      refine g_nt ?_
      walk_at "f"
      refine g_ixT h1 rfl ?_
      walk_at "f"
      refine g_ite (fun h4 => ?_) fun h4 => ?_
      · walk_at "f"
        refine g_ixT h1 rfl ?_
        walk_at "f"
        have ex : x = zeroL sg := by
          rcases ok with ⟨_, e⟩ | ⟨z, _⟩
          · exact e
          · omega
        subst ex
        refine mkN (zero_mk hs) fun H3 u s3 h3 => ?_
        refine g_eqF (FA.same h2 s3) h3 (zero_ok hs) (zero_ok hs) fun H4 s4 => ?_
        rw [show eqL (zeroL sg) (mkL sg (.int 0, 0)) = true from eqL_refl (zeroL sg)]
        exact q _ (((s1.trans s2).trans s3).trans s4)
      · walk_at "f"
        refine g_ixT h1 rfl ?_
        walk_at "f"
        refine g_ixT h1 rfl ?_
        walk_at "f"
        refine g_ixT h1 rfl ?_
        walk_at "f"
        have ex : 0 < t ∧ x = nearL sg t b := by
          rcases ok with ⟨z, _⟩ | z
          · exact absurd (by rw [z]; rfl) h4
          · exact z
        obtain ⟨t0, rfl⟩ := ex
        exact ⟨v, sg, t, b, rfl, t0, hb, lt, lb, hs, h2, fun H3 s3 => q _ ((s1.trans s2).trans s3)⟩
end
end Up

set_option Elab.async false
set_option linter.all false
set_option pp.maxSteps 900
set_option maxRecDepth 100000
set_option maxHeartbeats 4000000
set_option exponentiation.threshold 200000
namespace Up
open PySem PySem.Spec PyProof.Rows L2
/-! ### texts of all finite floats -/
theorem rat_bd {n : Nat} {s p : Int} (h : FlOk s (.int n) p) (n0 : n ≠ 0) : 0 < (ratN 1 n p).toNat ∧ 0 < (ratD p).toNat ∧ (ratN 1 n p).toNat < 2 ^ 1200 ∧ (ratD p).toNat < 2 ^ 1200 := by
  obtain ⟨f1, f2, f3, f4, f5, f6⟩ := fin_of h
  rw [intBits_nat] at f4
  have bl := bits_lt n
  unfold ratN ratD
  by_cases hp : p < 0
  · rw [if_pos hp, if_pos hp]
    have e : (2 : Int) ^ (0 - p).toNat = ((2 ^ (0 - p).toNat : Nat) : Int) := by rw [Int.natCast_pow]; rfl
    rw [e, Int.toNat_natCast, Int.one_mul, Int.toNat_natCast]
    have : (2 : Nat) ^ 53 < 2 ^ 1200 := by decide
    refine ⟨by omega, Nat.pow_pos (by decide), by omega, Nat.pow_lt_pow_right (by decide) (by omega)⟩
  · rw [if_neg hp, if_neg hp]
    have e : (1 : Int) * ((n : Int) * 2 ^ p.toNat) = ((n * 2 ^ p.toNat : Nat) : Int) := by rw [Int.one_mul, Int.natCast_mul, Int.natCast_pow]; rfl
    rw [e, Int.toNat_natCast]
    refine ⟨Nat.mul_pos (by omega) (Nat.pow_pos (by decide)), by decide, ?_, by decide⟩
    refine Nat.lt_of_lt_of_le (Nat.mul_lt_mul_of_pos_right bl (Nat.pow_pos (by decide))) ?_
    rw [← Nat.pow_add]
    exact Nat.pow_le_pow_right (by decide) (by omega)
theorem sh_okay {t b : Nat} (t0 : 0 < t) (b0 : 0 < b) (ht : t < 2 ^ 1200) (hb : b < 2 ^ 1200) : ShOk t b := by
  have big : (2 : Nat) ^ 1200 < 10 ^ 400 := by decide +kernel
  have l1 : (nL (t / b)).length ≤ 400 := nL_le (by decide) (Nat.lt_of_le_of_lt (Nat.div_le_self _ _) (by omega))
  have l2 : (nL (b / t)).length ≤ 400 := nL_le (by decide) (Nat.lt_of_le_of_lt (Nat.div_le_self _ _) (by omega))
  have l3 := nL_pos (b / t)
  obtain ⟨p1, p2⟩ := pcF_small ht hb
  have sh := sh_ok t0 b0
  obtain ⟨G, F⟩ := figs_ex t0 b0
  have f2 := sh.f2
  have l4 : (nL (shF t b)).length ≤ 14 := nL_le (by decide) f2
  have p3 : -450 ≤ shP t b ∧ shP t b ≤ 450 := by unfold shP; split <;> omega
  have l5 : (nL (shP t b).natAbs).length ≤ 3 := nL_le (by decide) (by omega)
  refine ⟨⟨t0, b0, ht, hb, by rw [dg_len]; omega, by rw [dg_len]; omega, by rw [dg_len]; omega⟩, by omega, by omega, Nat.lt_trans f2 (by decide), by rw [dg_len]; omega, ?_, ?_, by rw [fr_S, Sx_len]; omega⟩
  · rw [F.eq, Sx_len]
    obtain ⟨c, r, e, _⟩ := F.hd
    rw [e, List.length_cons]
    omega
  · rw [F.eq, Sx_len]
    have := F.len
    omega
theorem tx_okay {s p : Int} {t : V} (h : FlOk s t p) : TxOk (.f s t p) := by
  rcases h.2 with ⟨rfl, _⟩ | ⟨rfl, _⟩ | ⟨n, rfl, hf⟩
  · trivial
  · trivial
  · obtain ⟨m, rfl⟩ := Int.eq_ofNat_of_zero_le hf.1
    by_cases z : m = 0
    · exact .inl (by rw [z]; rfl)
    · obtain ⟨t0, b0, ht, hb⟩ := rat_bd h z
      obtain ⟨G, l, k, F, e, P, hk, hl⟩ := shS_ex t0 b0 ht hb
      exact .inr ⟨sh_okay t0 b0 ht hb, by rw [e, Sx_len]; omega⟩
def sgL (s : Int) : List Nat := if s < 0 then [45] else []
theorem sgA_S (s : Int) : sgA s = Sx (sgL s) := by
  unfold sgA sgL
  split
  · exact litM
  · exact litN
theorem prt_head {l R : List Nat} {p : Int} (h : Prt l R p) : ∃ c r, l = c :: r ∧ c ≠ 45 := by
  cases h with
  | low z c r h1 h2 h3 h4 => exact ⟨48, _, rfl, by decide⟩
  | mid c r U h1 h2 h3 h4 h5 => exact ⟨c, _, rfl, by have := h2 c List.mem_cons_self; omega⟩
  | exp c s U N p h1 h2 h3 h4 h5 h6 h7 h8 => exact ⟨c, _, rfl, by have := h1 c List.mem_cons_self; omega⟩
end Up

set_option Elab.async false
set_option linter.all false
set_option pp.maxSteps 900
set_option maxRecDepth 100000
set_option maxHeartbeats 4000000
set_option exponentiation.threshold 200000
namespace Up
open PySem PySem.Spec PyProof.Rows L2
/-! ### the text of a number, read back, is the text of what is read -/
structure ShS (X U f : Nat) : Prop where
  f1 : 10 ^ 13 ≤ f
  f2 : f < 10 ^ 14
  up : 2 * (f * U) ≤ 2 * X + U
  dn : 2 * X ≤ 2 * (f * U) + U
  ue : 2 * (f * U) = 2 * X + U → f % 2 = 0
  de : 2 * X = 2 * (f * U) + U → f % 2 = 0
  fl : 10 ^ 13 < f ∨ f * U ≤ X ∨ 20 * (f * U) ≤ 20 * X + U
/-- the same place: the same figures -/
theorem shs_same {X U f g : Nat} (h : ShS X U f) (k : ShS X U g) (U0 : 0 < U) : f = g := by
  obtain ⟨a1, a2, a3, a4, a5, a6, a7⟩ := h
  obtain ⟨b1, b2, b3, b4, b5, b6, b7⟩ := k
  rcases Nat.lt_trichotomy f g with hlt | heq | hgt
  · have m : (f + 1) * U ≤ g * U := Nat.mul_le_mul_right U hlt
    rw [Nat.succ_mul] at m
    have e : g * U = f * U + U := by omega
    have : g = f + 1 := by
      have e2 : g * U = (f + 1) * U := by rw [Nat.succ_mul]; exact e
      exact Nat.eq_of_mul_eq_mul_right U0 e2
    have := a6 (by omega)
    have := b5 (by omega)
    omega
  · exact heq
  · have m : (g + 1) * U ≤ f * U := Nat.mul_le_mul_right U hgt
    rw [Nat.succ_mul] at m
    have e : f * U = g * U + U := by omega
    have : f = g + 1 := by
      have e2 : f * U = (g + 1) * U := by rw [Nat.succ_mul]; exact e
      exact Nat.eq_of_mul_eq_mul_right U0 e2
    have := b6 (by omega)
    have := a5 (by omega)
    omega
/-- a greater place: none -/
theorem shs_none {X U V f g : Nat} (h : ShS X U f) (k : ShS X V g) (U0 : 0 < U) (hV : 10 * U ≤ V) : False := by
  obtain ⟨a1, a2, a3, a4, a5, a6, a7⟩ := h
  obtain ⟨b1, b2, b3, b4, b5, b6, b7⟩ := k
  have m1 : f * U ≤ 99999999999999 * U := Nat.mul_le_mul_right U (by omega)
  have m2 : 20 * (10000000000000 * V) ≤ 20 * X + V := by
    rcases b7 with h | h | h
    · have : 10000000000001 * V ≤ g * V := Nat.mul_le_mul_right V (by omega)
      omega
    · have : 10000000000000 * V ≤ g * V := Nat.mul_le_mul_right V (by omega)
      omega
    · have : 10000000000000 * V ≤ g * V := Nat.mul_le_mul_right V (by omega)
      omega
  have e : f * U = 99999999999999 * U := by omega
  have ef : f = 99999999999999 := Nat.eq_of_mul_eq_mul_right U0 e
  have := a6 (by omega)
  omega
/-- near as the float is: nearer than any other -/
theorem near_A {X E D M m : Nat} (h : X = m * E) (up : 2 * D ≤ (2 * M + 1) * E) (dn : 2 * (M * E) ≤ 2 * D + E) : (X ≤ D → X ≤ M * E ∧ X + M * E ≤ 2 * D) ∧ (D ≤ X → M * E ≤ X ∧ 2 * D ≤ X + M * E) := by
  subst h
  have e : (2 * M + 1) * E = 2 * (M * E) + E := by rw [Nat.add_mul, Nat.mul_assoc, Nat.one_mul]
  rw [e] at up
  rcases Nat.lt_trichotomy m M with hlt | heq | hgt
  · have : (m + 1) * E ≤ M * E := Nat.mul_le_mul_right E hlt
    rw [Nat.succ_mul] at this
    omega
  · subst heq; omega
  · have : (M + 1) * E ≤ m * E := Nat.mul_le_mul_right E hgt
    rw [Nat.succ_mul] at this
    omega
theorem near_B {X E D M : Nat} (h : 2 * X + E ≤ 2 ^ 53 * E) (big : 2 ^ 52 ≤ M) (up : 2 * D ≤ (2 * M + 1) * E) (dn : M = 2 ^ 52 → 4 * (M * E) ≤ 4 * D + E) (dn' : M ≠ 2 ^ 52 → 2 * (M * E) ≤ 2 * D + E) : (X ≤ D → X ≤ M * E ∧ X + M * E ≤ 2 * D) ∧ (D ≤ X → M * E ≤ X ∧ 2 * D ≤ X + M * E) := by
  have e : (2 * M + 1) * E = 2 * (M * E) + E := by rw [Nat.add_mul, Nat.mul_assoc, Nat.one_mul]
  rw [e] at up
  by_cases z : M = 2 ^ 52
  · have := dn z
    subst z
    omega
  · have := dn' z
    have : (2 ^ 52 + 1) * E ≤ M * E := Nat.mul_le_mul_right E (by omega)
    rw [Nat.add_mul, Nat.one_mul] at this
    omega
theorem shs_back {X U E f M : Nat} (h : ShS X U f) (A : (X ≤ f * U → X ≤ M * E ∧ X + M * E ≤ 2 * (f * U)) ∧ (f * U ≤ X → M * E ≤ X ∧ 2 * (f * U) ≤ X + M * E))
    (low : f = 10 ^ 13 → f * U ≤ X → M * E < f * U → 20 * (f * U) ≤ 20 * (M * E) + U) : ShS (M * E) U f := by
  obtain ⟨a1, a2, a3, a4, a5, a6, a7⟩ := h
  obtain ⟨A1, A2⟩ := A
  rcases Nat.le_total X (f * U) with z | z
  · obtain ⟨c1, c2⟩ := A1 z
    clear A1 A2 low
    generalize hY : M * E = Y at *
    generalize hD : f * U = D at *
    exact ⟨a1, a2, by omega, by omega, fun y => a5 (by omega), fun y => a5 (by omega), by omega⟩
  · obtain ⟨c1, c2⟩ := A2 z
    clear A1 A2
    generalize hY : M * E = Y at *
    generalize hD : f * U = D at *
    refine ⟨a1, a2, by omega, by omega, fun y => a6 (by omega), fun y => a6 (by omega), ?_⟩
    by_cases y : 10 ^ 13 < f
    · exact .inl y
    · by_cases x : D ≤ Y
      · exact .inr (.inl (by rw [hD]; exact x))
      · exact .inr (.inr (by rw [hD]; exact low (by omega) z (by omega)))
/-! scaled -/
theorem hl_pos (p : Int) : 0 < hiN p ∧ 0 < loN p := by
  unfold hiN loN
  split
  · exact ⟨Nat.pow_pos (by decide), by decide⟩
  · exact ⟨by decide, Nat.pow_pos (by decide)⟩
theorem hl_step {p q : Int} (h : p < q) : 10 * (hiN p * loN q) ≤ hiN q * loN p := by
  unfold hiN loN
  by_cases a : 13 < p
  · rw [if_pos a, if_pos a, if_pos (by omega), if_pos (by omega)]
    obtain ⟨d, hd⟩ : ∃ d : Nat, (q - 13).toNat = (p - 13).toNat + 1 + d := ⟨(q - 13).toNat - (p - 13).toNat - 1, by omega⟩
    rw [hd, Nat.pow_add, Nat.pow_succ]
    have : 0 < 10 ^ d := Nat.pow_pos (by decide)
    have m : 10 ^ (p - 13).toNat * 10 * 1 ≤ 10 ^ (p - 13).toNat * 10 * 10 ^ d := Nat.mul_le_mul_left _ this
    omega
  · rw [if_neg a, if_neg a]
    by_cases b : 13 < q
    · rw [if_pos b, if_pos b]
      obtain ⟨d, hd⟩ : ∃ d : Nat, (q - 13).toNat = d + 1 := ⟨(q - 13).toNat - 1, by omega⟩
      rw [hd, Nat.pow_succ]
      have c1 : 0 < 10 ^ d := Nat.pow_pos (by decide)
      have c2 : 0 < 10 ^ (13 - p).toNat := Nat.pow_pos (by decide)
      have m : 1 * 1 ≤ 10 ^ d * 10 ^ (13 - p).toNat := Nat.mul_le_mul c1 c2
      have e : 10 ^ d * 10 * 10 ^ (13 - p).toNat = 10 * (10 ^ d * 10 ^ (13 - p).toNat) := by
        rw [Nat.mul_comm (10 ^ d) 10, Nat.mul_assoc]
      omega
    · rw [if_neg b, if_neg b]
      obtain ⟨d, hd⟩ : ∃ d : Nat, (13 - p).toNat = (13 - q).toNat + 1 + d := ⟨(13 - p).toNat - (13 - q).toNat - 1, by omega⟩
      rw [hd, Nat.pow_add, Nat.pow_succ]
      have : 0 < 10 ^ d := Nat.pow_pos (by decide)
      have m : 10 ^ (13 - q).toNat * 10 * 1 ≤ 10 ^ (13 - q).toNat * 10 * 10 ^ d := Nat.mul_le_mul_left _ this
      omega
theorem cancel_le {a b c : Nat} (h : 0 < c) (k : a * c ≤ b * c) : a ≤ b := Nat.le_of_mul_le_mul_right k h
/-- what is asked of t / b, scaled: X = W * k * lo, U = hi * k * Z where t * Z = W * b -/
theorem shs_iff {t b W Z f k : Nat} {p : Int} (b0 : 0 < b) (Z0 : 0 < Z) (k0 : 0 < k) (h : t * Z = W * b) : Shown t b f p ↔ ShS (W * k * loN p) (hiN p * k * Z) f := by
  have eX : (t * loN p) * (k * Z) = (W * k * loN p) * b := by
    have : (t * loN p) * (k * Z) = (t * Z) * (k * loN p) := by simp only [Nat.mul_assoc, Nat.mul_comm, Nat.mul_left_comm]
    rw [this, h]
    simp only [Nat.mul_assoc, Nat.mul_comm, Nat.mul_left_comm]
  have eU : (hiN p * b) * (k * Z) = (hiN p * k * Z) * b := by simp only [Nat.mul_assoc, Nat.mul_comm, Nat.mul_left_comm]
  have eD : (f * (hiN p * b)) * (k * Z) = (f * (hiN p * k * Z)) * b := by simp only [Nat.mul_assoc, Nat.mul_comm, Nat.mul_left_comm]
  have kz : 0 < k * Z := Nat.mul_pos k0 Z0
  have le : ∀ a1 a2 a3 c1 c2 c3 : Nat, (a1 * (t * loN p) + a2 * (f * (hiN p * b)) + a3 * (hiN p * b) ≤ c1 * (t * loN p) + c2 * (f * (hiN p * b)) + c3 * (hiN p * b)) ↔
      (a1 * (W * k * loN p) + a2 * (f * (hiN p * k * Z)) + a3 * (hiN p * k * Z) ≤ c1 * (W * k * loN p) + c2 * (f * (hiN p * k * Z)) + c3 * (hiN p * k * Z)) := by
    intro a1 a2 a3 c1 c2 c3
    have e1 : ∀ x1 x2 x3 : Nat, (x1 * (t * loN p) + x2 * (f * (hiN p * b)) + x3 * (hiN p * b)) * (k * Z) = (x1 * (W * k * loN p) + x2 * (f * (hiN p * k * Z)) + x3 * (hiN p * k * Z)) * b := by
      intro x1 x2 x3
      rw [Nat.add_mul, Nat.add_mul, Nat.add_mul, Nat.add_mul, Nat.mul_assoc x1, eX, Nat.mul_assoc x2, eD, Nat.mul_assoc x3, eU, Nat.mul_assoc x1, Nat.mul_assoc x2, Nat.mul_assoc x3]
    constructor
    · intro q
      refine cancel_le b0 ?_
      rw [← e1, ← e1]
      exact Nat.mul_le_mul_right _ q
    · intro q
      refine cancel_le kz ?_
      rw [e1, e1]
      exact Nat.mul_le_mul_right _ q
  have l1 := le 0 2 0 2 0 1
  have l2 := le 2 0 0 0 2 1
  have l3 := le 2 0 1 0 2 0
  have l4 := le 0 2 1 2 0 0
  have l5 := le 0 1 0 1 0 0
  have l6 := le 0 20 0 20 0 1
  clear le eX eU eD h
  constructor
  · rintro ⟨f1, f2, u, d, ue, de, fl⟩
    refine ⟨f1, f2, ?_, ?_, fun y => ue ?_, fun y => de ?_, ?_⟩
    all_goals
      generalize t * loN p = A1 at *
      generalize f * (hiN p * b) = A2 at *
      generalize hiN p * b = A3 at *
      generalize W * k * loN p = B1 at *
      generalize f * (hiN p * k * Z) = B2 at *
      generalize hiN p * k * Z = B3 at *
      omega
  · rintro ⟨f1, f2, u, d, ue, de, fl⟩
    refine ⟨f1, f2, ?_, ?_, fun y => ue ?_, fun y => de ?_, ?_⟩
    all_goals
      generalize t * loN p = A1 at *
      generalize f * (hiN p * b) = A2 at *
      generalize hiN p * b = A3 at *
      generalize W * k * loN p = B1 at *
      generalize f * (hiN p * k * Z) = B2 at *
      generalize hiN p * k * Z = B3 at *
      omega
/-- the figures and the place are known by what is asked of them -/
theorem shown_one {t b f : Nat} {p : Int} (t0 : 0 < t) (b0 : 0 < b) (h : Shown t b f p) : shF t b = f ∧ shP t b = p := by
  have k := sh_ok t0 b0
  generalize shF t b = g at *
  generalize shP t b = q at *
  obtain ⟨hp, lp⟩ := hl_pos p
  obtain ⟨hq, lq⟩ := hl_pos q
  have a : ShS (t * loN q * loN p) (hiN p * loN q * b) f := (shs_iff b0 b0 lq rfl).mp h
  have c : ShS (t * loN p * loN q) (hiN q * loN p * b) g := (shs_iff b0 b0 lp rfl).mp k
  rw [Nat.mul_assoc t, Nat.mul_comm (loN p), ← Nat.mul_assoc] at c
  have U0 : 0 < hiN p * loN q * b := Nat.mul_pos (Nat.mul_pos hp lq) b0
  have V0 : 0 < hiN q * loN p * b := Nat.mul_pos (Nat.mul_pos hq lp) b0
  rcases Int.lt_trichotomy p q with z | z | z
  · exact (shs_none a c U0 (by have := Nat.mul_le_mul_right b (hl_step z); rw [Nat.mul_assoc] at this; exact this)).elim
  · subst z
    exact ⟨(shs_same a c U0).symm, rfl⟩
  · exact (shs_none c a V0 (by have := Nat.mul_le_mul_right b (hl_step z); rw [Nat.mul_assoc] at this; exact this)).elim
theorem scW_add {e : Int} (h : -2000 ≤ e) (v : Nat) : scW (e + v) = 2 ^ v * scW e := by
  unfold scW
  rw [show (e + v + 2000).toNat = v + (e + 2000).toNat by omega, Nat.pow_add]
theorem ratW {n : Nat} {p : Int} (h : -1074 ≤ p) : (ratN 1 n p).toNat * 2 ^ 2000 = (n * scW p) * (ratD p).toNat := by
  unfold ratN ratD scW
  by_cases z : p < 0
  · rw [if_pos z, if_pos z]
    have e : (2 : Int) ^ (0 - p).toNat = ((2 ^ (0 - p).toNat : Nat) : Int) := by rw [Int.natCast_pow]; rfl
    rw [e, Int.one_mul, Int.toNat_natCast, Int.toNat_natCast, Nat.mul_assoc, ← Nat.pow_add]
    congr 2
    omega
  · rw [if_neg z, if_neg z]
    have e : (1 : Int) * ((n : Int) * 2 ^ p.toNat) = ((n * 2 ^ p.toNat : Nat) : Int) := by rw [Int.one_mul, Int.natCast_mul, Int.natCast_pow]; rfl
    rw [e, Int.toNat_natCast, show Int.toNat 1 = 1 from rfl, Nat.mul_one, Nat.mul_assoc, ← Nat.pow_add]
    congr 2
    omega
theorem nums310 : 40480450661461 * 10 ^ 323 < 2 * (10 ^ 13 * 2 ^ 1074) ∧ 20 * (10 ^ 13 * 2 ^ 1074) ≤ 20 * (20240225330731 * 10 ^ 323) + 2 ^ 1074 ∧ 10 ^ 323 ≤ 2 ^ 1074 ∧ 2 ^ 1074 < 10 ^ 323 * 10 := by decide +kernel
/-- the one place where it is narrow -/
theorem narrow {M b' : Nat} {p : Int} (b0 : 0 < b') (h1 : scW (-1074) * b' * loN p ≤ hiN p * b' * 2 ^ 2000) (h2 : hiN p * b' * 2 ^ 2000 < 10 * (scW (-1074) * b' * loN p))
    (up : 2 * (10 ^ 13 * (hiN p * b' * 2 ^ 2000)) ≤ (2 * M + 1) * (scW (-1074) * b' * loN p)) : 20 * (10 ^ 13 * (hiN p * b' * 2 ^ 2000)) ≤ 20 * (M * (scW (-1074) * b' * loN p)) + hiN p * b' * 2 ^ 2000 := by
  obtain ⟨n1, n2, n3, n4⟩ := nums310
  have e1 : scW (-1074) * b' * loN p = loN p * (2 ^ 926 * b') := by
    rw [show scW (-1074) = 2 ^ 926 from rfl, Nat.mul_comm]
  have e2 : hiN p * b' * 2 ^ 2000 = (hiN p * 2 ^ 1074) * (2 ^ 926 * b') := by
    rw [show (2 : Nat) ^ 2000 = 2 ^ 1074 * 2 ^ 926 by rw [← Nat.pow_add]]
    generalize (2 : Nat) ^ 1074 = a
    generalize (2 : Nat) ^ 926 = c
    simp only [Nat.mul_assoc, Nat.mul_comm, Nat.mul_left_comm]
  have k0 : 0 < 2 ^ 926 * b' := Nat.mul_pos (Nat.two_pow_pos _) b0
  rw [e1, e2] at h1 h2 up ⊢
  generalize 2 ^ 926 * b' = k at *
  have h1 : loN p ≤ hiN p * 2 ^ 1074 := cancel_le k0 h1
  have h2 : hiN p * 2 ^ 1074 < 10 * loN p := by
    rw [← Nat.mul_assoc] at h2
    exact Nat.lt_of_mul_lt_mul_right h2
  have up : 2 * (10 ^ 13 * (hiN p * 2 ^ 1074)) ≤ (2 * M + 1) * loN p := by
    refine cancel_le k0 ?_
    rw [Nat.mul_assoc, Nat.mul_assoc, Nat.mul_assoc (2 * M + 1)]
    exact up
  have goal : 20 * (10 ^ 13 * (hiN p * 2 ^ 1074)) ≤ 20 * (M * loN p) + hiN p * 2 ^ 1074 → 20 * (10 ^ 13 * (hiN p * 2 ^ 1074 * k)) ≤ 20 * (M * (loN p * k)) + hiN p * 2 ^ 1074 * k := fun g => by
    have := Nat.mul_le_mul_right k g
    rw [Nat.add_mul, Nat.mul_assoc, Nat.mul_assoc, Nat.mul_assoc 20 (M * loN p), Nat.mul_assoc M] at this
    exact this
  refine goal ?_
  clear goal
  have hp : ¬ 13 < p := fun z => by
    have e3 : loN p = 1 := if_pos z
    have e4 : 0 < hiN p := (hl_pos p).1
    rw [e3] at h2
    have : 1 * 2 ^ 1074 ≤ hiN p * 2 ^ 1074 := Nat.mul_le_mul_right _ e4
    have : (10 : Nat) < 2 ^ 1074 := by decide +kernel
    omega
  have eh : hiN p = 1 := if_neg hp
  have el : loN p = 10 ^ (13 - p).toNat := if_neg hp
  rw [eh, el, Nat.one_mul] at h1 h2 up ⊢
  clear eh el e1 e2 hp
  generalize (2 : Nat) ^ 1074 = B at *
  generalize (13 - p).toNat = j at *
  have j1 : j < 324 := by
    by_cases z : j < 324
    · exact z
    · have : (10 : Nat) ^ (323 + 1) ≤ 10 ^ j := Nat.pow_le_pow_right (by decide) (by omega)
      rw [Nat.pow_succ] at this
      generalize (10 : Nat) ^ 323 = A at *
      omega
  have j2 : 323 ≤ j := by
    by_cases z : 323 ≤ j
    · exact z
    · have : (10 : Nat) ^ (j + 1) ≤ 10 ^ 323 := Nat.pow_le_pow_right (by decide) (by omega)
      rw [Nat.pow_succ] at this
      generalize (10 : Nat) ^ 323 = A at *
      omega
  have j3 : j = 323 := by omega
  subst j3
  clear h1 h2 n3 n4 j1 j2
  generalize (10 : Nat) ^ 323 = A at *
  have m1 : 20240225330731 ≤ M := by
    by_cases z : 20240225330731 ≤ M
    · exact z
    · have : (2 * M + 1) * A ≤ 40480450661461 * A := Nat.mul_le_mul_right _ (by omega)
      omega
  have m2 : 20240225330731 * A ≤ M * A := Nat.mul_le_mul_right _ m1
  omega
/-- what lies near to the figures shows the same figures -/
theorem back_core {n M t' b' f : Nat} {p p0 e : Int} (n53 : n < 2 ^ 53) (n0 : 0 < n) (p1 : -1074 ≤ p0) (b0 : 0 < b') (ht : t' * loN p = f * hiN p * b')
    (hS : ShS (n * scW p0 * b' * loN p) (hiN p * b' * 2 ^ 2000) f) (R : Nrm t' b' M e) (big : 2 ^ 52 ≤ M ∨ e = -1074) : ShS (M * scW e * b' * loN p) (hiN p * b' * 2 ^ 2000) f ∧ 0 < M := by
  obtain ⟨hp, lp⟩ := hl_pos p
  have U0 : 0 < hiN p * b' * 2 ^ 2000 := Nat.mul_pos (Nat.mul_pos hp b0) (Nat.two_pow_pos _)
  have lo1 := R.lo
  have eD : TT t' * loN p = f * (hiN p * b' * 2 ^ 2000) := by
    unfold TT
    rw [Nat.mul_assoc, Nat.mul_comm (2 ^ 2000), ← Nat.mul_assoc, ht]
    simp only [Nat.mul_assoc, Nat.mul_comm, Nat.mul_left_comm]
  have eM : ∀ k : Nat, k * (scW e * b') * loN p = k * (scW e * b' * loN p) := fun k => by rw [Nat.mul_assoc k]
  have up : 2 * (f * (hiN p * b' * 2 ^ 2000)) ≤ (2 * M + 1) * (scW e * b' * loN p) := by
    rw [← eD, ← eM, ← Nat.mul_assoc]
    exact Nat.mul_le_mul_right _ R.up
  have dn4 : M = 2 ^ 52 → -1074 < e → 4 * (M * (scW e * b' * loN p)) ≤ 4 * (f * (hiN p * b' * 2 ^ 2000)) + scW e * b' * loN p := fun h1 h2 => by
    have := Nat.mul_le_mul_right (loN p) (R.dn h1 h2)
    rw [Nat.add_mul, eM, Nat.mul_assoc 4 M, Nat.mul_assoc 4 (TT t'), eD] at this
    exact this
  have dn2 : ¬ (M = 2 ^ 52 ∧ -1074 < e) → 2 * (M * (scW e * b' * loN p)) ≤ 2 * (f * (hiN p * b' * 2 ^ 2000)) + scW e * b' * loN p := fun h => by
    have := Nat.mul_le_mul_right (loN p) (R.dn' h).1
    rw [Nat.add_mul, eM, Nat.mul_assoc 2 M, Nat.mul_assoc 2 (TT t'), eD] at this
    exact this
  have eY : M * scW e * b' * loN p = M * (scW e * b' * loN p) := by simp only [Nat.mul_assoc]
  rw [eY]
  have E0 : 0 < scW e * b' * loN p := Nat.mul_pos (Nat.mul_pos (scW_pos e) b0) lp
  have f1 := hS.f1
  have f2 := hS.f2
  have d1 := hS.dn
  have X0 : 0 < n * scW p0 * b' * loN p := Nat.mul_pos (Nat.mul_pos (Nat.mul_pos n0 (scW_pos p0)) b0) lp
  have big13 : 10000000000000 * (hiN p * b' * 2 ^ 2000) ≤ f * (hiN p * b' * 2 ^ 2000) := Nat.mul_le_mul_right _ f1
  by_cases hc : e ≤ p0
  · obtain ⟨m, hm⟩ : ∃ m, n * scW p0 * b' * loN p = m * (scW e * b' * loN p) := by
      obtain ⟨v, hv⟩ : ∃ v : Nat, p0 = e + v := ⟨(p0 - e).toNat, by omega⟩
      refine ⟨n * 2 ^ v, ?_⟩
      rw [hv, scW_add (by omega)]
      simp only [Nat.mul_assoc, Nat.mul_comm, Nat.mul_left_comm]
    have dn : 2 * (M * (scW e * b' * loN p)) ≤ 2 * (f * (hiN p * b' * 2 ^ 2000)) + scW e * b' * loN p := by
      by_cases z : M = 2 ^ 52 ∧ -1074 < e
      · have := dn4 z.1 z.2; omega
      · exact dn2 z
    have A := near_A hm up dn
    refine ⟨shs_back hS A fun q1 q2 q3 => ?_, ?_⟩
    · rcases big with big | big
      · have m1 : 2 ^ 52 * (scW e * b' * loN p) ≤ M * (scW e * b' * loN p) := Nat.mul_le_mul_right _ big
        have m2 : (2 * M + 1) * (scW e * b' * loN p) = 2 * (M * (scW e * b' * loN p)) + scW e * b' * loN p := by rw [Nat.add_mul, Nat.mul_assoc, Nat.one_mul]
        rw [m2] at up
        have m3 : f * (hiN p * b' * 2 ^ 2000) = 10000000000000 * (hiN p * b' * 2 ^ 2000) := by rw [q1]
        rw [show (2 : Nat) ^ 52 = 4503599627370496 from rfl] at m1
        clear dn4 dn2 eM hm A d1 big13 X0 E0 hS R eD eY m2
        generalize M * (scW e * b' * loN p) = Y at *
        generalize scW e * b' * loN p = E at *
        generalize hiN p * b' * 2 ^ 2000 = U at *
        omega
      · have m2 : (2 * M + 1) * (scW e * b' * loN p) = 2 * (M * (scW e * b' * loN p)) + scW e * b' * loN p := by rw [Nat.add_mul, Nat.mul_assoc, Nat.one_mul]
        have c2 := (A.2 q2).2
        have mM : M < m := by
          by_cases z : M < m
          · exact z
          · have : m * (scW e * b' * loN p) ≤ M * (scW e * b' * loN p) := Nat.mul_le_mul_right _ (by omega)
            omega
        have gap : (M + 1) * (scW e * b' * loN p) ≤ m * (scW e * b' * loN p) := Nat.mul_le_mul_right _ mM
        rw [Nat.succ_mul, ← hm] at gap
        by_cases w : 10 * (scW e * b' * loN p) ≤ hiN p * b' * 2 ^ 2000
        · rw [m2] at up; omega
        · subst q1
          subst big
          exact narrow b0 (by omega) (by omega) up
    · rcases Nat.eq_zero_or_pos M with z | z
      · exfalso
        subst z
        rw [Nat.zero_mul] at A
        omega
      · exact z
  · have hb : 2 ^ 52 ≤ M := by
      rcases big with h | h
      · exact h
      · omega
    have s1 : scW e = 2 * scW (e - 1) := by
      have := scW_succ (e := e - 1) (by omega)
      rw [show e - 1 + 1 = e by omega] at this
      exact this
    have s2 : scW p0 ≤ scW (e - 1) := scW_mono (by omega)
    have hX : 2 * (n * scW p0 * b' * loN p) + scW e * b' * loN p ≤ 2 ^ 53 * (scW e * b' * loN p) := by
      have m1 : n * scW p0 ≤ (2 ^ 53 - 1) * scW (e - 1) := Nat.mul_le_mul (by omega) s2
      have m2 : 2 * (n * scW p0) + scW e ≤ 2 ^ 53 * scW e := by rw [s1]; omega
      have m3 := Nat.mul_le_mul_right (b' * loN p) m2
      rw [Nat.add_mul] at m3
      simp only [Nat.mul_assoc] at m3 ⊢
      exact m3
    have A := near_B hX hb up (fun z => dn4 z (by omega)) (fun z => dn2 fun y => z y.1)
    refine ⟨shs_back hS A fun q1 q2 q3 => ?_, by omega⟩
    have m1 : 2 ^ 52 * (scW e * b' * loN p) ≤ M * (scW e * b' * loN p) := Nat.mul_le_mul_right _ hb
    have m2 : (2 * M + 1) * (scW e * b' * loN p) = 2 * (M * (scW e * b' * loN p)) + scW e * b' * loN p := by rw [Nat.add_mul, Nat.mul_assoc, Nat.one_mul]
    rw [m2] at up
    have m3 : f * (hiN p * b' * 2 ^ 2000) = 10000000000000 * (hiN p * b' * 2 ^ 2000) := by rw [q1]
    rw [show (2 : Nat) ^ 52 = 4503599627370496 from rfl] at m1
    clear dn4 dn2 eM A d1 big13 X0 E0 hS R eD eY m2 hX
    generalize M * (scW e * b' * loN p) = Y at *
    generalize scW e * b' * loN p = E at *
    generalize hiN p * b' * 2 ^ 2000 = U at *
    omega
theorem back_fl {s : Int} {n t' b' f : Nat} {p p0 : Int} (h : FlOk s (.int n) p0) (n0 : n ≠ 0) (hs : Shown (ratN 1 n p0).toNat (ratD p0).toNat f p) (b0 : 0 < b') (ht : t' * loN p = f * hiN p * b') :
    nearL s t' b' = infL s ∨ ∃ (m : Nat) (q : Int), nearL s t' b' = ⟨s, .int (m : Nat), q⟩ ∧ m ≠ 0 ∧ Shown (ratN 1 m q).toNat (ratD q).toNat f p := by
  obtain ⟨g1, g2, g3, g4, g5, g6⟩ := fin_of h
  have n53 : n < 2 ^ 53 := by omega
  obtain ⟨r1, r2, r3, r4⟩ := rat_bd h n0
  obtain ⟨hp, lp⟩ := hl_pos p
  have Z0 : 0 < 2 ^ 2000 := Nat.two_pow_pos _
  have hS := (shs_iff r2 Z0 b0 (ratW g3)).mp hs
  have t0 : 0 < t' := by
    rcases Nat.eq_zero_or_pos t' with z | z
    · rw [z, Nat.zero_mul] at ht
      have := Nat.mul_pos (Nat.mul_pos (show 0 < f by have := hs.f1; omega) hp) b0
      omega
    · exact z
  rcases near_cases (s := s) t0 b0 with ⟨e, _⟩ | ⟨_, ⟨e, R⟩ | ⟨m, q, M, e', v, e, N, hM⟩⟩
  · exact .inl e
  · have := (back_core n53 (Nat.pos_of_ne_zero n0) g3 b0 ht hS R (.inr rfl)).2
    omega
  · refine .inr ⟨m, q, e, ?_, ?_⟩
    · rintro rfl
      have := N.eq
      rw [Nat.zero_mul] at this
      omega
    · have k := (back_core n53 (Nat.pos_of_ne_zero n0) g3 b0 ht hS N.nrm N.big).1
      have m0 : m ≠ 0 := by
        rintro rfl
        have := N.eq
        rw [Nat.zero_mul] at this
        omega
      have eq : M * scW e' = m * scW q := by
        rw [N.pe, scW_add (by have := N.lo; omega), ← N.eq, Nat.mul_assoc]
      rw [eq] at k
      have lo := N.lo
      have pe := N.pe
      have hq : -1074 ≤ q := by omega
      have d0 : 0 < (ratD q).toNat := by
        unfold ratD
        split
        · have e : (2 : Int) ^ (0 - q).toNat = ((2 ^ (0 - q).toNat : Nat) : Int) := by rw [Int.natCast_pow]; rfl
          rw [e, Int.toNat_natCast]
          exact Nat.two_pow_pos _
        · decide
      exact (shs_iff d0 Z0 b0 (ratW hq)).mpr k
end Up

set_option Elab.async false
set_option linter.all false
set_option pp.maxSteps 900
set_option maxRecDepth 100000
set_option maxHeartbeats 4000000
set_option exponentiation.threshold 200000
namespace Up
open PySem PySem.Spec PyProof.Rows L2
/-! ### texts of numbers, read -/
theorem twA {p : Nat → Bool} : ∀ {A : List Nat} {c : Nat} {r : List Nat}, (∀ x ∈ A, p x = true) → p c = false → (A ++ c :: r).takeWhile p = A ∧ (A ++ c :: r).dropWhile p = c :: r
  | [], c, r, _, hc => by
    rw [List.nil_append, List.takeWhile_cons, List.dropWhile_cons, hc]
    exact ⟨rfl, rfl⟩
  | a :: A, c, r, h, hc => by
    obtain ⟨h1, h2⟩ := twA (A := A) (r := r) (fun x hx => h x (List.mem_cons_of_mem _ hx)) hc
    rw [List.cons_append, List.takeWhile_cons, List.dropWhile_cons, h a List.mem_cons_self, if_pos rfl, if_pos rfl, h1, h2]
    exact ⟨rfl, rfl⟩
theorem twL {p : Nat → Bool} : ∀ {A : List Nat}, (∀ x ∈ A, p x = true) → A.takeWhile p = A ∧ A.dropWhile p = []
  | [], _ => ⟨rfl, rfl⟩
  | a :: A, h => by
    obtain ⟨h1, h2⟩ := twL (A := A) (fun x hx => h x (List.mem_cons_of_mem _ hx))
    rw [List.takeWhile_cons, List.dropWhile_cons, h a List.mem_cons_self, if_pos rfl, if_pos rfl, h1, h2]
    exact ⟨rfl, rfl⟩
theorem dw_none {p : Nat → Bool} : ∀ {l : List Nat}, (∀ x ∈ l, p x = false) → l.dropWhile p = l
  | [], _ => rfl
  | a :: A, h => by rw [List.dropWhile_cons, h a List.mem_cons_self]; rfl
theorem strip_none {p : Nat → Bool} {l : List Nat} (h : ∀ x ∈ l, p x = false) : stripL p l = l := by
  unfold stripL dropE
  rw [dw_none h, dw_none (fun x hx => h x (List.mem_reverse.mp hx)), List.reverse_reverse]
theorem dgD {l : List Nat} (h : Dg l) : ∀ c ∈ l, isD c = true := fun c hc => by
  have := h c hc
  unfold isD
  simpa using this
abbrev Hi (l : List Nat) : Prop := ∀ c ∈ l, 43 ≤ c ∧ c < 128
theorem hi_app {a b : List Nat} (h : Hi a) (k : Hi b) : Hi (a ++ b) := fun c hc => (List.mem_append.mp hc).elim (h c) (k c)
theorem hi_cons {c : Nat} {b : List Nat} (h : 43 ≤ c ∧ c < 128) (k : Hi b) : Hi (c :: b) := fun x hx => (List.mem_cons.mp hx).elim (fun z => z ▸ h) (k x)
theorem hi_dg {a : List Nat} (h : Dg a) : Hi a := fun c hc => by have := h c hc; omega
theorem hi_sg (s : Int) : Hi (sgL s) := fun c hc => by
  unfold sgL at hc
  split at hc
  · rw [List.mem_singleton.mp hc]; omega
  · cases hc
theorem hi_prt {l R : List Nat} {p : Int} (P : Prt l R p) : Hi l := by
  cases P with
  | low z c r h1 h2 h3 h4 => exact hi_app (hi_cons (by omega) (fun _ h => nomatch h)) (hi_cons (by omega) (hi_app (hi_dg (dg_zs _)) (hi_dg h2)))
  | mid c r U h1 h2 h3 h4 h5 => exact hi_app (hi_dg h2) (hi_cons (by omega) (hi_dg h3))
  | exp c s U N p h1 h2 h3 h4 h5 h6 h7 h8 =>
    have hs : s = 43 ∨ s = 45 := by omega
    refine hi_app (hi_app (hi_dg fun x hx => h1 x (by rw [List.mem_singleton.mp hx]; exact List.mem_cons_self)) ?_) (hi_cons (by omega) (hi_cons (by omega) (hi_dg h4)))
    split
    · intro _ h; cases h
    · exact hi_cons (by omega) (hi_dg fun x hx => h1 x (List.mem_cons_of_mem _ hx))
theorem hi_bk {l : List Nat} (h : Hi l) : rnT l = l := strip_none fun c hc => by
  have := h c hc
  unfold isBk
  rw [decide_eq_false (show ¬ c = 32 by omega), decide_eq_false (show ¬ c = 9 by omega), decide_eq_false (show ¬ c = 10 by omega)]
  rfl
/-- a text with a sign ahead -/
theorem sg_read {s : Int} {c : Nat} {r : List Nat} (hs : s = 1 ∨ s = -1) (h : Hi (c :: r)) (c1 : c ≠ 45 ∧ c ≠ 43) : rnT (sgL s ++ c :: r) = sgL s ++ c :: r ∧ sgnOff (rnT (sgL s ++ c :: r)) = c :: r ∧ lawSg (sgL s ++ c :: r) = s := by
  have e := hi_bk (hi_app (hi_sg s) h)
  refine ⟨e, ?_, ?_⟩
  · rw [e]
    rcases hs with rfl | rfl
    · show sgnOff (c :: r) = c :: r
      unfold sgnOff
      rw [if_neg (by
        show ¬ ([c] = [45] ∨ [c] = [43])
        rintro (z | z)
        · exact c1.1 (List.cons.inj z).1
        · exact c1.2 (List.cons.inj z).1)]
    · rfl
  · unfold lawSg
    rw [e]
    rcases hs with rfl | rfl
    · show (if [c] = [45] then (-1 : Int) else 1) = 1
      rw [if_neg fun z => c1.1 (List.cons.inj z).1]
    · rfl
theorem law_prt {s : Int} {l R : List Nat} {p : Int} (hs : s = 1 ∨ s = -1) (P : Prt l R p) : lawRd (sgL s ++ l) = lawTo s (dvN R) (p - ((R.length : Int) - 1)) := by
  have H := hi_prt P
  have key : ∀ {c r}, l = c :: r → c ≠ 45 ∧ c ≠ 43 → ¬ (l.take 2 = [48, 120] ∨ l.take 2 = [48, 88]) → l.all isD = false → lawRd (sgL s ++ l) = lawFar s l := fun {c r} e h1 h2 h3 => by
    subst e
    obtain ⟨e1, e2, e3⟩ := sg_read hs H h1
    unfold lawRd
    rw [e2, e3, if_neg h2, if_neg (fun z => by rw [h3] at z; cases z.2)]
  have far : ∀ {A r1 : List Nat} {q : Int}, l.takeWhile isD = A → l.dropWhile isD = r1 → A ≠ [] → lawEnd (laR2 r1) = some q → dvN (A ++ laD2 r1) = dvN R → q - (laD2 r1).length = p - ((R.length : Int) - 1) → lawFar s l = lawTo s (dvN R) (p - ((R.length : Int) - 1)) := fun {A r1 q} e1 e2 h1 h2 h3 h4 => by
    unfold lawFar
    rw [e1, e2, if_neg (fun z => h1 (List.append_eq_nil_iff.mp z).1), h2, h3, ← h4]
    rfl
  have n46 : isD 46 = false := by decide
  have n101 : isD 101 = false := by decide
  have anyF : ∀ {c : Nat}, c ∈ l → isD c = false → l.all isD = false := fun hc hd => by
    cases e : l.all isD with
    | false => rfl
    | true => have := List.all_eq_true.mp e _ hc; rw [hd] at this; cases this
  cases P with
  | low z c r h1 h2 h3 h4 =>
    rw [key (c := 48) (r := 46 :: (Zs z ++ c :: r)) rfl (by decide) (by rintro (z | z) <;> cases z) (anyF (c := 46) (by simp) n46)]
    obtain ⟨a1, a2⟩ := twA (p := isD) (A := [48]) (c := 46) (r := Zs z ++ c :: r) (by intro x hx; rw [List.mem_singleton.mp hx]; decide) n46
    obtain ⟨b1, b2⟩ := twL (p := isD) (A := Zs z ++ c :: r) (dgD (dg_app (dg_zs _) h2))
    have d2 : laD2 (46 :: (Zs z ++ c :: r)) = Zs z ++ c :: r := b1
    have r2 : laR2 (46 :: (Zs z ++ c :: r)) = [] := b2
    refine far a1 a2 (by simp) (q := 0) (by rw [r2]; rfl) ?_ ?_
    · rw [d2]
      show dvN (48 :: (Zs z ++ c :: r)) = _
      rw [dv_0]
      exact dv_zs _ z
    · rw [d2, List.length_append, List.length_replicate, List.length_cons]
      omega
  | mid c r U h1 h2 h3 h4 h5 =>
    have cc := h2 c List.mem_cons_self
    have e0 : (c :: r) ++ 46 :: U = c :: (r ++ 46 :: U) := rfl
    rw [key (c := c) (r := r ++ 46 :: U) rfl (by omega) (by
      show ¬ (c :: (r ++ 46 :: U).take 1 = [48, 120] ∨ c :: (r ++ 46 :: U).take 1 = [48, 88])
      rintro (z | z) <;> exact h4 (List.cons.inj z).1) (anyF (c := 46) (by simp) n46)]
    obtain ⟨a1, a2⟩ := twA (p := isD) (A := c :: r) (c := 46) (r := U) (dgD h2) n46
    obtain ⟨b1, b2⟩ := twL (p := isD) (A := U) (dgD h3)
    have d2 : laD2 (46 :: U) = U := b1
    have r2 : laR2 (46 :: U) = [] := b2
    refine far a1 a2 (by simp) (q := 0) (by rw [r2]; rfl) (by rw [d2]) ?_
    rw [d2, List.length_append, List.length_cons]
    omega
  | exp c s' U N p h1 h2 h3 h4 h5 h6 h7 h8 =>
    have cc := h1 c List.mem_cons_self
    have hU : Dg U := fun x hx => h1 x (List.mem_cons_of_mem _ hx)
    have N0 : N ≠ [] := by rintro rfl; exact absurd h5 (by decide)
    have ex : lawExp (s' :: N) = some p := by
      have hs' : s' = 43 ∨ s' = 45 := by omega
      have e1 : sgnOff (s' :: N) = N := by
        unfold sgnOff
        rcases hs' with rfl | rfl <;> rfl
      obtain ⟨b1, b2⟩ := twL (p := isD) (A := N) (dgD h4)
      unfold lawExp
      rw [e1, b1, b2, if_neg (fun z => z.elim N0 (fun y => y rfl))]
      rcases h7 with ⟨rfl, rfl⟩ | ⟨rfl, rfl⟩ <;> rfl
    have en : lawEnd (101 :: s' :: N) = some p := by
      unfold lawEnd
      rw [if_pos (.inl rfl)]
      exact ex
    by_cases u0 : U = []
    · subst u0
      rw [if_pos rfl] at H anyF far key ⊢
      rw [key (c := c) (r := 101 :: s' :: N) rfl (by omega) (by
        show ¬ ([c, 101] = [48, 120] ∨ [c, 101] = [48, 88])
        rintro (z | z) <;> exact h2 (List.cons.inj z).1) (anyF (c := 101) (by simp) n101)]
      obtain ⟨a1, a2⟩ := twA (p := isD) (A := [c]) (c := 101) (r := s' :: N) (dgD h1) n101
      refine far (q := p) a1 a2 (by simp) en rfl ?_
      show p - 0 = p - (1 - 1)
      omega
    · rw [if_neg u0] at H anyF far key ⊢
      have e0 : ([c] ++ 46 :: U) ++ 101 :: s' :: N = c :: 46 :: (U ++ 101 :: s' :: N) := by simp
      rw [key (c := c) (r := 46 :: (U ++ 101 :: s' :: N)) e0 (by omega) (by
        rw [e0]
        show ¬ ([c, 46] = [48, 120] ∨ [c, 46] = [48, 88])
        rintro (z | z) <;> exact h2 (List.cons.inj z).1) (anyF (c := 46) (by simp) n46)]
      have a0 := twA (p := isD) (A := [c]) (c := 46) (r := U ++ 101 :: s' :: N) (by intro x hx; rw [List.mem_singleton.mp hx]; exact dgD h1 c List.mem_cons_self) n46
      obtain ⟨b1, b2⟩ := twA (p := isD) (A := U) (c := 101) (r := s' :: N) (dgD hU) n101
      have d2 : laD2 (46 :: (U ++ 101 :: s' :: N)) = U := b1
      have r2 : laR2 (46 :: (U ++ 101 :: s' :: N)) = 101 :: s' :: N := b2
      refine far (A := [c]) (r1 := 46 :: (U ++ 101 :: s' :: N)) (q := p) (by rw [e0]; exact a0.1) (by rw [e0]; exact a0.2) (by simp) (by rw [r2]; exact en) (by rw [d2]; rfl) ?_
      rw [d2, List.length_cons]
      omega
/-! the text of an int -/
theorem dg_neg {n : Nat} (h : 0 < n) : dg (-(n : Int)) = Sx (45 :: nL n) := by
  have e1 : (toString (-(n : Int)) : String) = "-" ++ toString ((n : Nat) : Int) := by
    rw [Int.toString_eq_repr, Int.toString_eq_repr, Int.repr_eq_if, Int.repr_eq_if, if_neg (by omega), if_pos (by omega), Int.neg_neg]
  have e2 : dg ((n : Nat) : Int) = Sx (nL n) := dg_S n
  show Str.ofString (toString (-(n : Int))) = _
  have e3 : Str.ofString (toString ((n : Nat) : Int)) = Sx (nL n) := e2
  rw [Str.ofString_eq_toList] at e3 ⊢
  rw [e1, String.toList_append, List.map_append]
  have e4 := congrArg (fun z : Str => z.cps.toList) e3
  show (⟨(['-'].map Char.toNat ++ (toString ((n : Nat) : Int)).toList.map Char.toNat).toArray⟩ : Str) = _
  have e5 : (toString ((n : Nat) : Int)).toList.map Char.toNat = nL n := by
    have := e4
    simpa [Sx_cps] using this
  rw [e5]
  rfl
def ilL (i : Int) : List Nat := if i < 0 then 45 :: nL i.natAbs else nL i.natAbs
theorem dg_il (i : Int) : dg i = Sx (ilL i) := by
  unfold ilL
  by_cases h : i < 0
  · rw [if_pos h]
    obtain ⟨n, hn⟩ : ∃ n : Nat, i = -(n : Int) := ⟨i.natAbs, by omega⟩
    subst hn
    rw [Int.natAbs_neg, Int.natAbs_natCast]
    exact dg_neg (by omega)
  · rw [if_neg h]
    obtain ⟨n, rfl⟩ := Int.eq_ofNat_of_zero_le (show 0 ≤ i by omega)
    exact dg_S n
theorem il_len {i : Int} (h : i.natAbs < 10 ^ 30) : (ilL i).length ≤ 31 := by
  have := nL_le (n := i.natAbs) (k := 30) (by decide) h
  unfold ilL
  split
  · rw [List.length_cons]; omega
  · omega
theorem il_hi (i : Int) : Hi (ilL i) := by
  have h := hi_dg (TL.numL_digits i.natAbs)
  unfold ilL
  split
  · exact hi_cons (by omega) h
  · exact h
theorem law_int {i : Int} (h1 : -9223372036854775808 ≤ i) (h2 : i < 9223372036854775808) : lawRd (ilL i) = .int i := by
  have hd := TL.numL_digits i.natAbs
  have hv : dvN (nL i.natAbs) = i.natAbs := TL.numL_val _
  have hne : ∃ c r, nL i.natAbs = c :: r := by
    have := nL_pos i.natAbs
    cases e : nL i.natAbs with
    | nil => rw [e] at this; exact absurd this (by decide)
    | cons c r => exact ⟨c, r, rfl⟩
  obtain ⟨c, r, e⟩ := hne
  have cc := hd c (by rw [show TL.numL i.natAbs = c :: r from e]; exact List.mem_cons_self)
  have hs : (if i < 0 then (-1 : Int) else 1) = 1 ∨ (if i < 0 then (-1 : Int) else 1) = -1 := by split <;> simp
  have el : ilL i = sgL (if i < 0 then -1 else 1) ++ c :: r := by
    unfold ilL sgL
    rw [e]
    by_cases h : i < 0
    · rw [if_pos h, if_pos h, if_pos (by omega)]; rfl
    · rw [if_neg h, if_neg h, if_neg (by omega)]; rfl
  obtain ⟨e1, e2, e3⟩ := sg_read hs (by rw [← e]; exact hi_dg hd) (show c ≠ 45 ∧ c ≠ 43 by omega)
  have hall : (c :: r).all isD = true := List.all_eq_true.mpr (by rw [← e]; exact dgD hd)
  rw [el]
  unfold lawRd
  rw [e2, e3]
  have n2 : ¬ ((c :: r).take 2 = [48, 120] ∨ (c :: r).take 2 = [48, 88]) := by
    cases r with
    | nil => rintro (z | z) <;> cases z
    | cons d r2 =>
      have dd := List.all_eq_true.mp hall d (by simp)
      show ¬ ([c, d] = [48, 120] ∨ [c, d] = [48, 88])
      rintro (z | z) <;> rw [(List.cons.inj (List.cons.inj z).2).1] at dd <;> exact absurd dd (by decide)
  rw [if_neg n2, if_pos ⟨by simp, hall⟩]
  rw [← e, hv]
  have ev : (if i < 0 then (-1 : Int) else 1) * ((i.natAbs : Nat) : Int) = i := by split <;> omega
  rw [ev, if_pos ⟨h1, h2⟩]
/-! the text of a float -/
theorem back_ok {s : Int} {n : Nat} {p0 : Int} (h : FlOk s (.int n) p0) : ∃ l x, txN (.f s (.int n) p0) = Sx l ∧ l.length ≤ 100 ∧ Hi l ∧ rnN l = .flt x ∧ x.ok ∧ (x = infL s ∨ txN (.f x.s x.t x.p) = Sx l) := by
  have hs := h.1
  by_cases n0 : n = 0
  · subst n0
    have e : ∀ q : Int, txN (.f s (.int 0) q) = Sx (sgL s ++ [48, 46, 48]) := fun q => by
      have e1 : ∀ m : Int, m = 0 → txN (.f s (.int m) q) = sgA s ++ "0.0" := fun m h => if_pos h
      rw [e1 0 rfl, sgA_S, litZ2, Sx_cat]
    have hp : Prt [49, 46, 48] [49, 48] 0 := Prt.mid 49 [] [48] (by decide) (by decide) (by decide) (by decide) (.inl rfl)
    have len : (sgL s ++ [48, 46, 48]).length ≤ 100 := by rcases hs with rfl | rfl <;> decide
    have k := rd_ok (sgL s ++ [48, 46, 48]) (by omega)
    have lw : lawRd (sgL s ++ [48, 46, 48]) = lawTo s 0 (-1) := by rcases hs with rfl | rfl <;> rfl
    rw [lw] at k
    obtain ⟨x, ex, hb, q⟩ := k
    have ex0 : x = zeroL s := by
      rcases q with ⟨_, q⟩ | ⟨q, _⟩
      · exact q
      · exact absurd q (by decide)
    subst ex0
    exact ⟨_, _, e p0, len, hi_app (hi_sg s) (by decide), ex, zero_ok hs, .inr (e 0)⟩
  · obtain ⟨t0, b0, ht, hb⟩ := rat_bd h n0
    obtain ⟨G, l, k, Fg, el, Pt, hk, hl⟩ := shS_ex t0 b0 ht hb
    have sh := sh_ok t0 b0
    have n0' : ¬ ((n : Nat) : Int) = 0 := by omega
    have et : ∀ {m : Nat} {q : Int}, ¬ ((m : Nat) : Int) = 0 → txN (.f s (.int (m : Nat)) q) = sgA s ++ shS (ratN 1 m q).toNat (ratD q).toNat := fun {m q} h => if_neg h
    have e := et (q := p0) n0'
    rw [el, sgA_S, Sx_cat] at e
    have ls : (sgL s).length ≤ 1 := by unfold sgL; split <;> simp
    have len : (sgL s ++ l).length ≤ 100 := by rw [List.length_append]; omega
    have kk := rd_ok (sgL s ++ l) (by omega)
    rw [law_prt hs Pt] at kk
    obtain ⟨x, ex, hbb, q⟩ := kk
    refine ⟨_, x, e, len, hi_app (hi_sg s) (hi_prt Pt), ex, ?_⟩
    have hv := Fg.val
    have gl := Fg.len
    have G1 : 1 ≤ G.length := by obtain ⟨c, r, e, _⟩ := Fg.hd; rw [e]; exact Nat.le_add_left _ _
    generalize hf : shF (ratN 1 n p0).toNat (ratD p0).toNat = f at *
    have pb : -450 ≤ shP (ratN 1 n p0).toNat (ratD p0).toNat ∧ shP (ratN 1 n p0).toNat (ratD p0).toNat ≤ 450 := by
      have := pcF_small ht hb
      unfold shP
      split <;> omega
    generalize hp : shP (ratN 1 n p0).toNat (ratD p0).toNat = p at *
    have eR : dvN (G ++ Zs k) = dvN G * 10 ^ k := dv_app G k
    have f0 : 0 < f := by have := sh.f1; omega
    have g0 : 0 < dvN G := Nat.pos_of_ne_zero fun z => by
      have hv : dvN G * 10 ^ (14 - G.length) = f := hv
      rw [z, Nat.zero_mul] at hv; omega
    have lR : ((G ++ Zs k).length : Int) = G.length + k := by rw [List.length_append, List.length_replicate]; omega
    rw [lR] at q hbb
    generalize hP : p - ((G.length : Int) + k - 1) = P at *
    have Ps : P.natAbs ≤ 3000 := by omega
    rw [show min 3000 P.natAbs = P.natAbs by omega, eR] at *
    have tpos : 0 < (if 0 < P then dvN G * 10 ^ k * 10 ^ P.natAbs else dvN G * 10 ^ k) := by
      split
      · exact Nat.mul_pos (Nat.mul_pos g0 (ten_pos _)) (ten_pos _)
      · exact Nat.mul_pos g0 (ten_pos _)
    have q : x = nearL s (if 0 < P then dvN G * 10 ^ k * 10 ^ P.natAbs else dvN G * 10 ^ k) (if 0 < P then 1 else 10 ^ P.natAbs) := by
      rcases q with ⟨z, _⟩ | ⟨_, z⟩
      · omega
      · exact z
    have ht2 : (if 0 < P then dvN G * 10 ^ k * 10 ^ P.natAbs else dvN G * 10 ^ k) * loN p = f * hiN p * (if 0 < P then 1 else 10 ^ P.natAbs) := by
      have hv : dvN G * 10 ^ (14 - G.length) = f := hv
      rw [← hv]
      unfold loN hiN
      have pw : ∀ {a b : Nat}, a = b → dvN G * 10 ^ a = dvN G * 10 ^ b := fun h => by rw [h]
      by_cases c1 : 0 < P
      · rw [if_pos c1, if_pos c1]
        by_cases c2 : 13 < p
        · rw [if_pos c2, if_pos c2, Nat.mul_one, Nat.mul_one, Nat.mul_assoc, Nat.mul_assoc, ← Nat.pow_add, ← Nat.pow_add]
          exact pw (by omega)
        · rw [if_neg c2, if_neg c2, Nat.mul_one, Nat.mul_one, Nat.mul_assoc, Nat.mul_assoc, ← Nat.pow_add, ← Nat.pow_add]
          exact pw (by omega)
      · rw [if_neg c1, if_neg c1]
        by_cases c2 : 13 < p
        · rw [if_pos c2, if_pos c2, Nat.mul_one, Nat.mul_assoc, Nat.mul_assoc, ← Nat.pow_add, ← Nat.pow_add]
          exact pw (by omega)
        · rw [if_neg c2, if_neg c2, Nat.mul_one, Nat.mul_assoc, Nat.mul_assoc, ← Nat.pow_add, ← Nat.pow_add]
          exact pw (by omega)
    have bk := back_fl h n0 sh (b' := if 0 < P then 1 else 10 ^ P.natAbs) hbb ht2
    rw [← q] at bk
    have xo : x.ok := by rw [q]; exact near_ok hs hbb
    refine ⟨xo, ?_⟩
    rcases bk with bk | ⟨m, pq, e6, m0, s6⟩
    · exact .inl bk
    · right
      subst e6
      obtain ⟨u0, v0, _, _⟩ := rat_bd (n := m) xo m0
      obtain ⟨i1, i2⟩ := shown_one u0 v0 s6
      show txN (.f s (.int (m : Nat)) pq) = _
      rw [et (by omega), sgA_S, ← Sx_cat, ← el]
      congr 1
      unfold shS shG
      rw [i1, i2, hf, hp]
end Up

set_option Elab.async false
set_option linter.all false
set_option pp.maxSteps 700
set_option maxRecDepth 100000
set_option maxHeartbeats 4000000
set_option exponentiation.threshold 200000
namespace Up
open PySem PySem.Spec PyProof.Rows L2
local macro_rules | `(tactic| walk_at "u") => `(tactic| first
  | with_reducible refine g_seq ?_
  | with_reducible refine g_asg ?_
  | with_reducible refine g_op ?_
  | ((with_reducible show tVar _ _ _ _); apply g_var; exact rfl)
  | with_reducible refine g_c ?_
  | with_reducible refine g_name ?_
  | with_reducible refine g_ifs ?_
  | with_reducible refine g_tt ?_
  | with_reducible refine g_tB ?_
  | with_reducible refine g_bl ?_
  | with_reducible refine g_ret ?_
  | with_reducible refine g_cb ?_
  | with_reducible refine g_cons ?_
  | with_reducible refine g_nil ?_
  | with_reducible refine g_call ?_
  | with_reducible refine g_and ?_
  | with_reducible refine g_or ?_
  | with_reducible refine g_not ?_
  | with_reducible refine g_andV ?_
  | with_reducible refine g_orV ?_
  | with_reducible refine g_notV ?_
  | with_reducible refine g_if ?_
  | with_reducible refine g_un ?_
  | with_reducible refine g_neg ?_
  | with_reducible refine g_addI ?_
  | with_reducible refine g_subI ?_
  | with_reducible refine g_subB ?_
  | with_reducible refine g_I0 ?_
  | with_reducible refine g_cmpI ?_
  | with_reducible refine g_eqI ?_
  | with_reducible refine g_neI ?_
  | with_reducible refine g_eqS ?_
  | with_reducible refine g_neS ?_
  | with_reducible refine g_eqB ?_
  | with_reducible refine g_neB ?_
  | with_reducible refine g_bits ?_
  | with_reducible refine g_bitsI ?_
  | with_reducible refine g_fld ?_
  | with_reducible refine g_tup ?_
  | with_reducible refine g_lst ?_
  | with_reducible refine g_gtup ?_
  | with_reducible refine g_make ?_
  | with_reducible refine g_lc ?_
  | with_reducible refine g_yesT ?_
  | with_reducible refine g_intI ?_
  | with_reducible refine g_intB ?_
  | with_reducible refine g_max2 ?_
  | with_reducible refine g_abs1 ?_
  | with_reducible refine g_for ?_
  | with_reducible refine g_iList ?_
  | with_reducible refine g_iTup ?_
  | with_reducible refine g_iRng1 ?_
  | with_reducible refine g_iEnum ?_
  | with_reducible refine g_slice ?_
  | with_reducible refine g_po0 ?_
  | with_reducible refine g_po1 ?_
  | with_reducible refine g_gsub ?_
  | with_reducible refine g_par ?_
  | with_reducible refine g_par2 ?_
  | with_reducible refine g_rfl ?_
  | with_reducible refine g_meth ?_
  | with_reducible refine g_gcons ?_
  | with_reducible refine g_gnil ?_
  | with_reducible refine g_gfld ?_
  | with_reducible refine g_sfld ?_
  | with_reducible refine g_drop ?_
  | with_reducible refine g_next ?_
  | with_reducible refine iteT ?_
  | with_reducible refine iteF ?_)
local macro_rules | `(tactic| walk_at "go") => `(tactic| (repeat walk_at "u"))
local macro_rules | `(tactic| walk_at "f") => `(tactic| (repeat (first
  | walk_at "u"
  | with_reducible refine g_chain ?_
  | with_reducible refine g_par3 ?_
  | with_reducible refine g_par3' ?_
  | ((with_reducible refine show_ex ?_); first
    | refine fT (by assumption) (by assumption) ?_
    | refine fS (by assumption) (by assumption) ?_
    | refine fP (by assumption) (by assumption) ?_))))

section
variable {P : Program} {w : World} {K : PySem.W.Frag} {mg : Str → Option Value} {base : Heap} {C : Addr} {H : Hp} {Q : VK} {v u : V} {x y : FL}
abbrev CTx (P : Program) (w : World) (K : PySem.W.Frag) (mg : Str → Option Value) (base : Heap) (C : Addr) : Prop := Fn P w K mg base CX0 4 "text_of" ["number"] [] (sp_textof C)
theorem sc_Lbackright : FnScope ["_law_number", "_law_told"] ["_law_number"] (defScope s_Lbackright) := ⟨rfl, rfl, rfl, by decide +kernel, rfl, by decide +kernel, by decide +kernel⟩
def sp_Lback (C : Addr) : Sp := fun vs H Q _ => ∃ (v : V) (n : Nm), vs = [v] ∧ NumAt C H v n ∧ (∀ i, n = .i i → -9223372036854775808 ≤ i ∧ i < 9223372036854775808) ∧ ∀ H', Same H H' → Q (.bl true) H'
theorem ok_Lback {f : Addr} {fd : FuncData} (F : FunD K "_law_back_right" "_law_back_right" (defArgs s_Lbackright) (defBody s_Lbackright) (defScope s_Lbackright) [] [] f fd) (B : Blt mg) (T : FlC K mg C) (c_Float : CnF P w K mg base C) (c_readnumber : CRd P w K mg base C) (c_textof : CTx P w K mg base C) : FnOk P w K mg base CX0 9 f fd ["_law_number"] (sp_Lback C) := by
  have g_Float : mg "Float" = some (.ref C) := T.mg
  refine F.ok sc_Lbackright (fun vs H Q E h => ?_) (fun cdv A outer s H vs Q E hr h => ?_)
  · obtain ⟨_, _, rfl, _⟩ := h; rfl
  · obtain ⟨v, n, rfl, hn, hi, q⟩ := h
    refine ⟨_, PSs.nox (pss_cons (ps_set (i := 1) sc_Lbackright.nd rfl (Or.inl rfl) (pe_fn c_readnumber (hr.mono (by first | decide | omega)) pass0 (pa_cons (pe_fn c_textof (hr.mono (by first | decide | omega)) pass0 (pa_cons (pv 0) pa_nil)) pa_nil)))
  (pss_cons (ps_if (pt_val (pe_callB call_isi (by rfl) B.isinstance (by decide +kernel) (pa_cons (pv 0) (pa_cons (pe_tyInt B) pa_nil)))) (pss_one (ps_ret (pe_and (pe_callB call_isi (by rfl) B.isinstance (by decide +kernel) (pa_cons (pv 1) (pa_cons (pe_tyInt B) pa_nil))) (pe_one (pe_cmpR (op_oEq hr.units) (pv 1) (pv 0) (nomark _)))))) pss_nil)
  (pss_cons (ps_if (pt_val (pe_callB call_isi (by rfl) B.isinstance (by decide +kernel) (pa_cons (pe_fld (pv 0) rfl) (pa_cons (pe_tyStr B) pa_nil)))) (pss_one (ps_ret (pe_cmpR op_isN (pv 1) pe_non (nomark _)))) pss_nil)
  (pss_one (ps_ret (pe_and (pe_callB call_isi (by rfl) B.isinstance (by decide +kernel) (pa_cons (pv 1) (pa_cons (pe_gref g_Float) pa_nil))) (pe_one (pe_or (pe_cmpR (op_oEq hr.units) (pe_fn c_textof (hr.mono (by first | decide | omega)) pass0 (pa_cons (pv 1) pa_nil)) (pe_fn c_textof (hr.mono (by first | decide | omega)) pass0 (pa_cons (pv 0) pa_nil)) (nomark _)) (pe_one (pe_cmpR (op_oEq hr.units) (pe_fld (pv 1) rfl) pe_str (nomark _))))))))))), ?_⟩
    walk_at "f"
    cases n with
    | i i =>
      obtain ⟨h1, h2⟩ := hi i rfl
      have hn : v = .int i := hn
      subst hn
      have hb : i.natAbs < 2 ^ 64 := by omega
      refine ⟨_, .i i, rfl, rfl, ⟨Nat.lt_trans hb (by decide), ?_⟩, fun H1 s1 => ?_⟩
      · rw [dg_il, Sx_len]
        exact Nat.le_trans (il_len (Nat.lt_trans hb (by decide))) (by decide)
      rw [show txN (.i i) = Sx (ilL i) from dg_il i]
      walk_at "f"
      have ln : (ilL i).length ≤ 31 := il_len (Nat.lt_trans hb (by decide))
      refine ⟨_, rfl, by omega, fun c hc => (il_hi i c hc).2, fun H2 u s2 h2' => ?_⟩
      have ok := rd_ok (ilL i) (by omega)
      rw [law_int h1 h2] at ok
      have ok : rnN (ilL i) = .int i := ok
      rw [ok] at h2'
      have h2' : u = .int i := h2'
      subst h2'
      walk_at "f"
      refine g_isiInt kn_int ?_
      walk_at "f"
      refine iteT ?_
      walk_at "f"
      refine g_isiInt kn_int ?_
      walk_at "f"
      refine iteT ?_
      walk_at "f"
      rw [decide_eq_true rfl]
      exact q _ (s1.trans s2)
    | f sg tp p =>
      obtain ⟨a, rfl, ha, ho⟩ := hn
      refine ⟨_, .f sg tp p, rfl, ⟨a, rfl, ha, ho⟩, tx_okay ho, fun H1 s1 => ?_⟩
      replace ha := ha.same s1
      walk_at "f"
      have nn : (∃ z l, tp = .str z ∧ txN (.f sg tp p) = Sx l ∧ l.length ≤ 100 ∧ Hi l ∧ lawRd l = .none) ∨ ∃ m : Nat, tp = .int m := by
        have hs := ho.1
        rcases ho.2 with ⟨rfl, _⟩ | ⟨rfl, _⟩ | ⟨n, rfl, hf⟩
        · refine .inl ⟨"nan", [110, 97, 110], rfl, ?_, by decide, by decide, by rfl⟩
          rw [show txN (Nm.f sg (.str "nan") p) = ("nan" : Str) by unfold txN; exact if_pos rfl]
          decide +kernel
        · refine .inl ⟨"inf", sgL sg ++ [105, 110, 102], rfl, ?_, by rcases hs with rfl | rfl <;> decide, hi_app (hi_sg sg) (by decide), by rcases hs with rfl | rfl <;> rfl⟩
          have e : txN (.f sg (.str "inf") p) = sgA sg ++ "inf" := by
            unfold txN
            exact if_neg (fun z => inf_nan z)
          rw [e, sgA_S, show ("inf" : Str) = Sx [105, 110, 102] by decide +kernel, Sx_cat]
        · obtain ⟨m, rfl⟩ := Int.eq_ofNat_of_zero_le hf.1
          exact .inr ⟨m, rfl⟩
      rcases nn with ⟨z, l, rfl, et, hl, hh, lw⟩ | ⟨m, rfl⟩
      · rw [et]
        refine ⟨l, rfl, by omega, fun c hc => (hh c hc).2, fun H2 u s2 h2 => ?_⟩
        replace ha := ha.same s2
        have ok := rd_ok l (by omega)
        rw [lw] at ok
        have ok : rnN l = .none := ok
        rw [ok] at h2
        have h2 : u = .non := h2
        subst h2
        walk_at "f"
        refine g_isiInt (kf_fl T ha).kn ?_
        walk_at "f"
        refine iteF ?_
        walk_at "f"
        refine g_isiStr kn_str ?_
        walk_at "f"
        refine iteT ?_
        walk_at "f"
        rw [decide_eq_true rfl]
        exact q _ (s1.trans s2)
      · obtain ⟨l, x, et, hl, hh, er, xo, hx⟩ := back_ok ho
        rw [et]
        refine ⟨l, rfl, by omega, fun c hc => (hh c hc).2, fun H2 u s2 h2 => ?_⟩
        replace ha := ha.same s2
        rw [er] at h2
        obtain ⟨b, rfl, hb⟩ := (show FA C H2 u x from h2)
        walk_at "f"
        refine g_isiInt (kf_fl T ha).kn ?_
        walk_at "f"
        refine iteF ?_
        walk_at "f"
        refine g_isiStr kn_int ?_
        walk_at "f"
        refine iteF ?_
        walk_at "f"
        refine g_isiF (kf_fl T hb) ?_
        walk_at "f"
        refine ⟨_, .f x.s x.t x.p, rfl, ⟨b, rfl, hb, xo⟩, tx_okay xo, fun H3 s3 => ?_⟩
        walk_at "f"
        refine ⟨_, .f sg (.int (m : Nat)) p, rfl, ⟨a, rfl, ha.same s3, ho⟩, tx_okay ho, fun H4 s4 => ?_⟩
        replace hb := (hb.same s3).same s4
        walk_at "f"
        have S : Same H H4 := ((s1.trans s2).trans s3).trans s4
        rcases hx with rfl | hx
        · refine g_ite (fun _ => q _ S) fun _ => ?_
          walk_at "f"
          refine g_eqV (IS.scal (.str _) (.str _)) ?_
          walk_at "f"
          show Q (.bl (decide (V.str "inf" = V.str "inf"))) H4
          rw [decide_eq_true rfl]
          exact q _ S
        · refine g_yes (hx.trans et.symm) ?_
          exact q _ S
end
end Up

set_option Elab.async false
set_option linter.all false
set_option pp.maxSteps 900
set_option maxRecDepth 100000
set_option maxHeartbeats 4000000
set_option exponentiation.threshold 200000
namespace Up
open PySem PySem.Spec PyProof.Rows L2
abbrev Z5 : List Nat := List.replicate 5000 48
theorem lg1 : rnN (List.replicate 5000 57) = .flt (infL 1) := by kernel_rfl
theorem lg2 : rnN ([45] ++ Z5 ++ [55]) = .int (-7) := by kernel_rfl
theorem lg3 : rnN ([49, 101] ++ Z5 ++ [51]) = .flt ⟨1, .int 125, 3⟩ := by kernel_rfl
theorem lg4 : rnN ([45, 48, 120] ++ List.replicate 5000 102) = .int 1 := by kernel_rfl
theorem lg5 : rnN ([48, 120] ++ Z5 ++ [49, 102]) = .int 31 := by kernel_rfl
theorem lg6 : rnN ([48, 46] ++ Z5 ++ [49, 101, 53, 48, 48, 49]) = .flt ⟨1, .int 1, 0⟩ := by kernel_rfl
theorem lg7 : rnN (Z5 ++ [46] ++ Z5) = .flt ⟨1, .int 0, 0⟩ := by kernel_rfl
theorem lg8 : rnN ([45, 49] ++ Z5 ++ [101, 45, 53, 48, 48, 48]) = .flt ⟨-1, .int 1, 0⟩ := by kernel_rfl
theorem lg9 : rnN Z5 = .int 0 := by kernel_rfl
theorem lg10 : rnN ([49] ++ Z5 ++ [101, 45, 53, 52, 48, 48]) = .flt ⟨1, .int 0, 0⟩ := by kernel_rfl
theorem lg11 : rnN ([49, 101, 45] ++ Z5 ++ [49] ++ Z5) = .flt ⟨1, .int 0, 0⟩ := by kernel_rfl
theorem lg12 : rnN (Z5 ++ [120]) = .none := by kernel_rfl
end Up

set_option Elab.async false
set_option linter.all false
set_option pp.maxSteps 700
set_option maxRecDepth 100000
set_option maxHeartbeats 4000000
set_option exponentiation.threshold 200000
namespace Up
open PySem PySem.Spec PyProof.Rows L2
local macro_rules | `(tactic| walk_at "u") => `(tactic| first
  | with_reducible refine g_seq ?_
  | with_reducible refine g_asg ?_
  | with_reducible refine g_op ?_
  | ((with_reducible show tVar _ _ _ _); apply g_var; exact rfl)
  | with_reducible refine g_c ?_
  | with_reducible refine g_name ?_
  | with_reducible refine g_ifs ?_
  | with_reducible refine g_tt ?_
  | with_reducible refine g_tB ?_
  | with_reducible refine g_bl ?_
  | with_reducible refine g_ret ?_
  | with_reducible refine g_cb ?_
  | with_reducible refine g_cons ?_
  | with_reducible refine g_nil ?_
  | with_reducible refine g_call ?_
  | with_reducible refine g_and ?_
  | with_reducible refine g_or ?_
  | with_reducible refine g_not ?_
  | with_reducible refine g_andV ?_
  | with_reducible refine g_orV ?_
  | with_reducible refine g_notV ?_
  | with_reducible refine g_if ?_
  | with_reducible refine g_un ?_
  | with_reducible refine g_neg ?_
  | with_reducible refine g_addI ?_
  | with_reducible refine g_subI ?_
  | with_reducible refine g_subB ?_
  | with_reducible refine g_I0 ?_
  | with_reducible refine g_cmpI ?_
  | with_reducible refine g_eqI ?_
  | with_reducible refine g_neI ?_
  | with_reducible refine g_eqS ?_
  | with_reducible refine g_neS ?_
  | with_reducible refine g_eqB ?_
  | with_reducible refine g_neB ?_
  | with_reducible refine g_bits ?_
  | with_reducible refine g_bitsI ?_
  | with_reducible refine g_fld ?_
  | with_reducible refine g_tup ?_
  | with_reducible refine g_lst ?_
  | with_reducible refine g_gtup ?_
  | with_reducible refine g_make ?_
  | with_reducible refine g_lc ?_
  | with_reducible refine g_yesT ?_
  | with_reducible refine g_intI ?_
  | with_reducible refine g_intB ?_
  | with_reducible refine g_max2 ?_
  | with_reducible refine g_abs1 ?_
  | with_reducible refine g_for ?_
  | with_reducible refine g_iList ?_
  | with_reducible refine g_iTup ?_
  | with_reducible refine g_iRng1 ?_
  | with_reducible refine g_iEnum ?_
  | with_reducible refine g_slice ?_
  | with_reducible refine g_po0 ?_
  | with_reducible refine g_po1 ?_
  | with_reducible refine g_gsub ?_
  | with_reducible refine g_par ?_
  | with_reducible refine g_par2 ?_
  | with_reducible refine g_rfl ?_
  | with_reducible refine g_meth ?_
  | with_reducible refine g_gcons ?_
  | with_reducible refine g_gnil ?_
  | with_reducible refine g_gfld ?_
  | with_reducible refine g_sfld ?_
  | with_reducible refine g_drop ?_
  | with_reducible refine g_next ?_
  | with_reducible refine iteT ?_
  | with_reducible refine iteF ?_)
local macro_rules | `(tactic| walk_at "go") => `(tactic| (repeat walk_at "u"))
local macro_rules | `(tactic| walk_at "f") => `(tactic| (repeat (first
  | walk_at "u"
  | with_reducible refine g_chain ?_
  | with_reducible refine g_par3 ?_
  | with_reducible refine g_par3' ?_
  | ((with_reducible refine show_ex ?_); first
    | refine fT (by assumption) (by assumption) ?_
    | refine fS (by assumption) (by assumption) ?_
    | refine fP (by assumption) (by assumption) ?_))))

section
variable {P : Program} {w : World} {K : PySem.W.Frag} {mg : Str → Option Value} {base : Heap} {C : Addr} {H : Hp} {Q : VK} {v u : V} {x y : FL}
theorem rep_C {z : Str} {c : Nat} (hz : z = Sx [c]) {n : Int} (hn : 1 < n) : repS z n = Sx (List.replicate n.toNat c) := by
  subst hz
  have h : ∀ (k : Nat) (a : List Nat), (List.replicate k (#[c] : Array Nat)).foldl (· ++ ·) a.toArray = (a ++ List.replicate k c).toArray := by
    intro k
    induction k with
    | zero => intro a; simp
    | succ k ih =>
      intro a
      rw [List.replicate_succ, List.foldl_cons]
      have : a.toArray ++ (#[c] : Array Nat) = (a ++ [c]).toArray := by simp
      rw [this, ih]
      congr 1
      rw [List.append_assoc]
      rfl
  unfold repS
  rw [if_neg (by omega), if_neg (by
    rw [Sx_len, Bool.or_eq_true]
    rintro (z | z)
    · have := beq_iff_eq.mp z; omega
    · cases z)]
  show (⟨(List.replicate n.toNat (#[c] : Array Nat)).foldl (· ++ ·) #[]⟩ : Str) = SX.S (List.replicate n.toNat c)
  rw [show (#[] : Array Nat) = ([] : List Nat).toArray from rfl, h, List.nil_append]
theorem rep9 : repS "9" 5000 = Sx (List.replicate 5000 57) := rep_C (by decide +kernel) (by decide)
theorem repf : repS "f" 5000 = Sx (List.replicate 5000 102) := rep_C (by decide +kernel) (by decide)
theorem rep0 : repS "0" 5000 = Sx Z5 := rep_C (by decide +kernel) (by decide)
def RowAt (C : Addr) (H : Hp) (v : V) (p : List Nat × Rd) : Prop := ∃ a u, v = .ref a ∧ H a = some (.tup [.str (Sx p.1), u]) ∧ RdAt C H u p.2
def RowsAt (C : Addr) (H : Hp) : List V → List (List Nat × Rd) → Prop
  | [], [] => True
  | v :: vs, p :: ps => RowAt C H v p ∧ RowsAt C H vs ps
  | _, _ => False
theorem ne_none_of {H H1 : Hp} {b : Addr} (s : Same H H1) (n : H1 b = none) : H b = none := by
  cases e : H b with
  | none => rfl
  | some o => have := s _ _ e; rw [n] at this; cases this
theorem RdAt.keep {H H' : Hp} (s : ∀ b o, H b = some o → (∀ xs, o ≠ .lst xs) → H' b = some o) : ∀ {r : Rd} {v : V}, RdAt C H v r → RdAt C H' v r
  | .none, _, h => h
  | .int _, _, h => h
  | .flt _, _, h => by
    obtain ⟨a, e, dx, ha⟩ := h
    exact ⟨a, e, dx, s _ _ ha (fun _ z => nomatch z)⟩
theorem RowAt.keep {H H' : Hp} {v : V} {p : List Nat × Rd} (s : ∀ b o, H b = some o → (∀ xs, o ≠ .lst xs) → H' b = some o) : RowAt C H v p → RowAt C H' v p := fun ⟨a, u, e, h, r⟩ => ⟨a, u, e, s _ _ h (fun _ z => nomatch z), r.keep s⟩
theorem RowsAt.keep {H H' : Hp} (s : ∀ b o, H b = some o → (∀ xs, o ≠ .lst xs) → H' b = some o) : ∀ {vs : List V} {ps : List (List Nat × Rd)}, RowsAt C H vs ps → RowsAt C H' vs ps
  | [], [], _ => trivial
  | _ :: _, _ :: _, h => ⟨h.1.keep s, RowsAt.keep s h.2⟩
  | [], _ :: _, h => h.elim
  | _ :: _, [], h => h.elim
theorem RowAt.same {H H' : Hp} {v : V} {p : List Nat × Rd} (s : Same H H') : RowAt C H v p → RowAt C H' v p := fun ⟨a, u, e, h, r⟩ => ⟨a, u, e, s _ _ h, r.same s⟩
theorem RowsAt.same {H H' : Hp} (s : Same H H') : ∀ {vs : List V} {ps : List (List Nat × Rd)}, RowsAt C H vs ps → RowsAt C H' vs ps
  | [], [], _ => trivial
  | _ :: _, _ :: _, h => ⟨h.1.same s, RowsAt.same s h.2⟩
  | [], _ :: _, h => h.elim
  | _ :: _, [], h => h.elim
theorem RowsAt.snoc {H : Hp} {v : V} {p : List Nat × Rd} (r : RowAt C H v p) : ∀ {vs : List V} {ps : List (List Nat × Rd)}, RowsAt C H vs ps → RowsAt C H (vs ++ [v]) (ps ++ [p])
  | [], [], _ => ⟨r, trivial⟩
  | _ :: _, _ :: _, h => ⟨h.1, RowsAt.snoc r h.2⟩
  | [], _ :: _, h => h.elim
  | _ :: _, [], h => h.elim
theorem RowsAt.get {H : Hp} : ∀ {vs : List V} {ps : List (List Nat × Rd)} {i : Nat} {v : V}, RowsAt C H vs ps → vs[i]? = some v → ∃ p, p ∈ ps ∧ RowAt C H v p
  | v :: _, p :: _, 0, _, h, e => ⟨p, List.mem_cons_self, by cases e; exact h.1⟩
  | _ :: _, _ :: _, i + 1, _, h, e => (RowsAt.get (i := i) h.2 e).elim fun p h => ⟨p, List.mem_cons_of_mem _ h.1, h.2⟩
  | [], [], _, _, _, e => by cases e
  | [], _ :: _, _, _, h, _ => h.elim
  | _ :: _, [], _, _, h, _ => h.elim
theorem g_catZ {z1 z2 : Str} {a b : List Nat} {H : Hp} {Q : VK} (e1 : z1 = Sx a) (e2 : z2 = Sx b) (hz : a.length + b.length ≤ 100000) (h : Q (.str (Sx (a ++ b))) H) : oAdd K (.str z1) (.str z2) H Q := by
  subst e1 e2
  exact g_cat hz h
def longs : List (List Nat × Rd) := [
  (List.replicate 5000 57, .flt (infL 1)), ([45] ++ Z5 ++ [55], .int (-7)), ([49, 101] ++ Z5 ++ [51], .flt ⟨1, .int 125, 3⟩),
  ([45, 48, 120] ++ List.replicate 5000 102, .int 1), ([48, 120] ++ Z5 ++ [49, 102], .int 31), ([48, 46] ++ Z5 ++ [49, 101, 53, 48, 48, 49], .flt ⟨1, .int 1, 0⟩),
  (Z5 ++ [46] ++ Z5, .flt ⟨1, .int 0, 0⟩), ([45, 49] ++ Z5 ++ [101, 45, 53, 48, 48, 48], .flt ⟨-1, .int 1, 0⟩), (Z5, .int 0),
  ([49] ++ Z5 ++ [101, 45, 53, 52, 48, 48], .flt ⟨1, .int 0, 0⟩), ([49, 101, 45] ++ Z5 ++ [49] ++ Z5, .flt ⟨1, .int 0, 0⟩), (Z5 ++ [120], .none)]
theorem longs_ok : ∀ p ∈ longs, rnN p.1 = p.2 ∧ p.1.length ≤ 20000 ∧ Asc p.1 ∧ ∀ x, p.2 = .flt x → x.ok := by
  have A : ∀ l : List Nat, l.all (fun c => decide (c < 128)) = true → Asc l := fun l h c hc => of_decide_eq_true (List.all_eq_true.mp h c hc)
  intro p hp
  simp only [longs, List.mem_cons, List.not_mem_nil, or_false] at hp
  rcases hp with rfl | rfl | rfl | rfl | rfl | rfl | rfl | rfl | rfl | rfl | rfl | rfl
  · exact ⟨lg1, by decide +kernel, A _ (by decide +kernel), fun x e => by cases e; exact mkL_ok (v := (.str "inf", 0)) (mk_inf (.inl rfl))⟩
  · exact ⟨lg2, by decide +kernel, A _ (by decide +kernel), fun x e => by cases e⟩
  · exact ⟨lg3, by decide +kernel, A _ (by decide +kernel), fun x e => by cases e; exact mkL_ok (v := (.int 125, 3)) (mk_of_flok (n := 125) (.inl rfl) (by decide) (by decide) (by decide))⟩
  · exact ⟨lg4, by decide +kernel, A _ (by decide +kernel), fun x e => by cases e⟩
  · exact ⟨lg5, by decide +kernel, A _ (by decide +kernel), fun x e => by cases e⟩
  · exact ⟨lg6, by decide +kernel, A _ (by decide +kernel), fun x e => by cases e; exact mkL_ok (v := (.int 1, 0)) (mk_of_flok (n := 1) (.inl rfl) (by decide) (by decide) (by decide))⟩
  · exact ⟨lg7, by decide +kernel, A _ (by decide +kernel), fun x e => by cases e; exact zero_ok (.inl rfl)⟩
  · exact ⟨lg8, by decide +kernel, A _ (by decide +kernel), fun x e => by cases e; exact mkL_ok (v := (.int 1, 0)) (mk_of_flok (n := 1) (.inr rfl) (by decide) (by decide) (by decide))⟩
  · exact ⟨lg9, by decide +kernel, A _ (by decide +kernel), fun x e => by cases e⟩
  · exact ⟨lg10, by decide +kernel, A _ (by decide +kernel), fun x e => by cases e; exact zero_ok (.inl rfl)⟩
  · exact ⟨lg11, by decide +kernel, A _ (by decide +kernel), fun x e => by cases e; exact zero_ok (.inl rfl)⟩
  · exact ⟨lg12, by decide +kernel, A _ (by decide +kernel), fun x e => by cases e⟩
theorem sc_Llongright : FnScope ["_law_many", "_law_rows", "_law_text_here", "_law_due", "_law_found"] [] (defScope s_Llongright) := ⟨rfl, rfl, rfl, by decide +kernel, rfl, by decide +kernel, by decide +kernel⟩
def sp_Llong : Sp := fun vs H Q _ => vs = [] ∧ ∀ H', Same H H' → Q (.bl true) H'
theorem ok_Llong {f : Addr} {fd : FuncData} (F : FunD K "_law_long_right" "_law_long_right" (defArgs s_Llongright) (defBody s_Llongright) (defScope s_Llongright) [] [] f fd) (B : Blt mg) (T : FlC K mg C) (c_Float : CnF P w K mg base C) (c_Feq : CEq P w K mg base C) (c_readnumber : CRd P w K mg base C) : FnOk P w K mg base CX0 9 f fd [] sp_Llong := by
  have g_Float : mg "Float" = some (.ref C) := T.mg
  refine F.ok sc_Llongright (fun vs H Q E h => ?_) (fun cdv A outer s H vs Q E hr h => ?_)
  · obtain ⟨rfl, _⟩ := h; rfl
  · obtain ⟨rfl, q⟩ := h
    refine ⟨_, PSs.nox (pss_cons (ps_set (i := 0) sc_Llongright.nd rfl (Or.inl rfl) (pe_op op_mulT pe_str pe_int))
  (pss_cons (ps_set (i := 1) sc_Llongright.nd rfl (Or.inl rfl) (pe_lstN (pa_cons (pe_tupN (pa_cons (pe_op op_mulT pe_str pe_int) (pa_cons (pe_cn c_Float (hr.mono (by first | decide | omega)) pass0 (pa_cons pe_int (pa_cons pe_str (pa_cons pe_int pa_nil)))) pa_nil))) (pa_cons (pe_tupN (pa_cons (pe_op op_oAdd (pe_op op_oAdd pe_str (pv 0)) pe_str) (pa_cons (pe_un un_neg pe_int) pa_nil))) (pa_cons (pe_tupN (pa_cons (pe_op op_oAdd (pe_op op_oAdd pe_str (pv 0)) pe_str) (pa_cons (pe_cn c_Float (hr.mono (by first | decide | omega)) pass0 (pa_cons pe_int (pa_cons pe_int (pa_cons pe_int pa_nil)))) pa_nil))) pa_nil)))))
  (pss_cons (ps_set (i := 1) sc_Llongright.nd rfl (Or.inl rfl) (pe_op op_oAdd (pv 1) (pe_lstN (pa_cons (pe_tupN (pa_cons (pe_op op_oAdd pe_str (pe_op op_mulT pe_str pe_int)) (pa_cons pe_int pa_nil))) (pa_cons (pe_tupN (pa_cons (pe_op op_oAdd (pe_op op_oAdd pe_str (pv 0)) pe_str) (pa_cons pe_int pa_nil))) (pa_cons (pe_tupN (pa_cons (pe_op op_oAdd (pe_op op_oAdd pe_str (pv 0)) pe_str) (pa_cons (pe_cn c_Float (hr.mono (by first | decide | omega)) pass0 (pa_cons pe_int (pa_cons pe_int (pa_cons pe_int pa_nil)))) pa_nil))) pa_nil))))))
  (pss_cons (ps_set (i := 1) sc_Llongright.nd rfl (Or.inl rfl) (pe_op op_oAdd (pv 1) (pe_lstN (pa_cons (pe_tupN (pa_cons (pe_op op_oAdd (pe_op op_oAdd (pv 0) pe_str) (pv 0)) (pa_cons (pe_cn c_Float (hr.mono (by first | decide | omega)) pass0 (pa_cons pe_int (pa_cons pe_int (pa_cons pe_int pa_nil)))) pa_nil))) (pa_cons (pe_tupN (pa_cons (pe_op op_oAdd (pe_op op_oAdd pe_str (pv 0)) pe_str) (pa_cons (pe_cn c_Float (hr.mono (by first | decide | omega)) pass0 (pa_cons (pe_un un_neg pe_int) (pa_cons pe_int (pa_cons pe_int pa_nil)))) pa_nil))) (pa_cons (pe_tupN (pa_cons (pv 0) (pa_cons pe_int pa_nil))) pa_nil))))))
  (pss_cons (ps_set (i := 1) sc_Llongright.nd rfl (Or.inl rfl) (pe_op op_oAdd (pv 1) (pe_lstN (pa_cons (pe_tupN (pa_cons (pe_op op_oAdd (pe_op op_oAdd pe_str (pv 0)) pe_str) (pa_cons (pe_cn c_Float (hr.mono (by first | decide | omega)) pass0 (pa_cons pe_int (pa_cons pe_int (pa_cons pe_int pa_nil)))) pa_nil))) (pa_cons (pe_tupN (pa_cons (pe_op op_oAdd (pe_op op_oAdd (pe_op op_oAdd pe_str (pv 0)) pe_str) (pv 0)) (pa_cons (pe_cn c_Float (hr.mono (by first | decide | omega)) pass0 (pa_cons pe_int (pa_cons pe_int (pa_cons pe_int pa_nil)))) pa_nil))) pa_nil)))))
  (pss_cons (ps_expr (pe_bm PySem.F.plainAttrs_list PySem.F.slot_list_append PySem.F.type_list_append mt_append (pv 1) (pa_cons (pe_tupN (pa_cons (pe_op op_oAdd (pv 0) pe_str) (pa_cons pe_non pa_nil))) pa_nil)))
  (pss_cons (ps_for PassesOwn.never rfl (pi_list (pv 1)) (pg_tup rfl (pgs_cons (pg_name (i := 2) sc_Llongright.nd rfl (Or.inl rfl)) (pgs_cons (pg_name (i := 3) sc_Llongright.nd rfl (Or.inl rfl)) pgs_nil)))
    (pss_cons (ps_set (i := 4) sc_Llongright.nd rfl (Or.inl rfl) (pe_fn c_readnumber (hr.mono (by first | decide | omega)) pass0 (pa_cons (pv 2) pa_nil)))
  (pss_one (ps_if (PW.pt (pw_or (pt_cmpR (op_or (op_neO c_Feq (hr.mono (by decide))) (op_oNe hr.units)) (pv 4) (pv 3) (nomark _)) (pw_or1 (pt_cmpR (op_oNe hr.units) (pe_callB call_isi (by rfl) B.isinstance (by decide +kernel) (pa_cons (pv 4) (pa_cons (pe_gref g_Float) pa_nil))) (pe_callB call_isi (by rfl) B.isinstance (by decide +kernel) (pa_cons (pv 3) (pa_cons (pe_gref g_Float) pa_nil))) (nomark _))))) (pss_one (ps_ret pe_bl)) pss_nil))))
  (pss_one (ps_ret pe_bl))))))))), ?_⟩
    walk_at "f"
    refine g_mulT (by decide) (by decide) (by decide +kernel) (by decide +kernel) ?_
    rw [rep0]
    walk_at "f"
    have R : RowsAt C H [] [] := trivial
    have S : Same H H := Same.refl _
    refine g_mulT (by decide) (by decide) (by decide +kernel) (by decide +kernel) ?_
    rw [rep9]
    walk_at "f"
    refine mkN (mk_inf (.inl rfl)) fun H1 f1 s1 h1 => ?_
    replace R := R.same s1
    replace S := S.trans s1
    replace h1 : FA C H1 f1 (infL 1) := h1
    walk_at "f"
    refine g_new (sz rfl) fun r2 H2 n2 s2 t2 _ => ?_
    replace R := (R.same s2).snoc (show RowAt C H2 (.ref r2) (List.replicate 5000 57, .flt (infL 1)) from ⟨_, _, rfl, t2, FA.same h1 s2⟩)
    replace S := S.trans s2
    walk_at "f"
    refine g_catZ (a := [45]) (b := Z5) (by first | rfl | decide +kernel) (by first | rfl | decide +kernel) (by decide +kernel) ?_
    walk_at "f"
    refine g_catZ (a := [45] ++ Z5) (b := [55]) (by first | rfl | decide +kernel) (by first | rfl | decide +kernel) (by decide +kernel) ?_
    walk_at "f"
    refine g_new (sz rfl) fun r3 H3 n3 s3 t3 _ => ?_
    replace R := (R.same s3).snoc (show RowAt C H3 (.ref r3) ([45] ++ Z5 ++ [55], .int (-7)) from ⟨_, _, rfl, t3, rfl⟩)
    replace S := S.trans s3
    walk_at "f"
    refine g_catZ (a := [49, 101]) (b := Z5) (by first | rfl | decide +kernel) (by first | rfl | decide +kernel) (by decide +kernel) ?_
    walk_at "f"
    refine g_catZ (a := [49, 101] ++ Z5) (b := [51]) (by first | rfl | decide +kernel) (by first | rfl | decide +kernel) (by decide +kernel) ?_
    walk_at "f"
    refine mkN (mk_of_flok (n := 125) (.inl rfl) (by decide) (by decide) (by decide)) fun H4 f4 s4 h4 => ?_
    replace R := R.same s4
    replace S := S.trans s4
    replace h4 : FA C H4 f4 ⟨1, .int 125, 3⟩ := h4
    walk_at "f"
    refine g_new (sz rfl) fun r5 H5 n5 s5 t5 _ => ?_
    replace R := (R.same s5).snoc (show RowAt C H5 (.ref r5) ([49, 101] ++ Z5 ++ [51], .flt ⟨1, .int 125, 3⟩) from ⟨_, _, rfl, t5, FA.same h4 s5⟩)
    replace S := S.trans s5
    walk_at "f"
    refine g_new (sz rfl) fun la H6 n6 s6 tla _ => ?_
    replace R := R.same s6
    have zla : H la = none := ne_none_of S n6
    replace S := S.trans s6
    walk_at "f"
    refine g_mulT (by decide) (by decide) (by decide +kernel) (by decide +kernel) ?_
    rw [repf]
    walk_at "f"
    refine g_catZ (a := [45, 48, 120]) (b := List.replicate 5000 102) (by first | rfl | decide +kernel) (by first | rfl | decide +kernel) (by decide +kernel) ?_
    walk_at "f"
    refine g_new (sz rfl) fun r7 H7 n7 s7 t7 _ => ?_
    replace R := (R.same s7).snoc (show RowAt C H7 (.ref r7) ([45, 48, 120] ++ List.replicate 5000 102, .int 1) from ⟨_, _, rfl, t7, rfl⟩)
    replace S := S.trans s7
    replace tla := s7 _ _ tla
    walk_at "f"
    refine g_catZ (a := [48, 120]) (b := Z5) (by first | rfl | decide +kernel) (by first | rfl | decide +kernel) (by decide +kernel) ?_
    walk_at "f"
    refine g_catZ (a := [48, 120] ++ Z5) (b := [49, 102]) (by first | rfl | decide +kernel) (by first | rfl | decide +kernel) (by decide +kernel) ?_
    walk_at "f"
    refine g_new (sz rfl) fun r8 H8 n8 s8 t8 _ => ?_
    replace R := (R.same s8).snoc (show RowAt C H8 (.ref r8) ([48, 120] ++ Z5 ++ [49, 102], .int 31) from ⟨_, _, rfl, t8, rfl⟩)
    replace S := S.trans s8
    replace tla := s8 _ _ tla
    walk_at "f"
    refine g_catZ (a := [48, 46]) (b := Z5) (by first | rfl | decide +kernel) (by first | rfl | decide +kernel) (by decide +kernel) ?_
    walk_at "f"
    refine g_catZ (a := [48, 46] ++ Z5) (b := [49, 101, 53, 48, 48, 49]) (by first | rfl | decide +kernel) (by first | rfl | decide +kernel) (by decide +kernel) ?_
    walk_at "f"
    refine mkN (mk_of_flok (n := 1) (.inl rfl) (by decide) (by decide) (by decide)) fun H9 f9 s9 h9 => ?_
    replace R := R.same s9
    replace S := S.trans s9
    replace h9 : FA C H9 f9 ⟨1, .int 1, 0⟩ := h9
    replace tla := s9 _ _ tla
    walk_at "f"
    refine g_new (sz rfl) fun r10 H10 n10 s10 t10 _ => ?_
    replace R := (R.same s10).snoc (show RowAt C H10 (.ref r10) ([48, 46] ++ Z5 ++ [49, 101, 53, 48, 48, 49], .flt ⟨1, .int 1, 0⟩) from ⟨_, _, rfl, t10, FA.same h9 s10⟩)
    replace S := S.trans s10
    replace tla := s10 _ _ tla
    walk_at "f"
    refine g_new (sz rfl) fun lb H11 n11 s11 tlb _ => ?_
    replace R := R.same s11
    have zlb : H lb = none := ne_none_of S n11
    replace S := S.trans s11
    replace tla := s11 _ _ tla
    walk_at "f"
    refine .inl ⟨_, lb, _, _, rfl, rfl, SqL.of tla, SqL.of tlb, (sz rfl), fun lc H12 n12 s12 tlc _ => ?_⟩
    replace R := R.same s12
    have zlc : H lc = none := ne_none_of S n12
    replace S := S.trans s12
    walk_at "f"
    refine g_catZ (a := Z5) (b := [46]) (by first | rfl | decide +kernel) (by first | rfl | decide +kernel) (by decide +kernel) ?_
    walk_at "f"
    refine g_catZ (a := Z5 ++ [46]) (b := Z5) (by first | rfl | decide +kernel) (by first | rfl | decide +kernel) (by decide +kernel) ?_
    walk_at "f"
    refine mkN (zero_mk (.inl rfl)) fun H13 f13 s13 h13 => ?_
    replace R := R.same s13
    replace S := S.trans s13
    replace h13 : FA C H13 f13 ⟨1, .int 0, 0⟩ := h13
    replace tlc := s13 _ _ tlc
    walk_at "f"
    refine g_new (sz rfl) fun r14 H14 n14 s14 t14 _ => ?_
    replace R := (R.same s14).snoc (show RowAt C H14 (.ref r14) (Z5 ++ [46] ++ Z5, .flt ⟨1, .int 0, 0⟩) from ⟨_, _, rfl, t14, FA.same h13 s14⟩)
    replace S := S.trans s14
    replace tlc := s14 _ _ tlc
    walk_at "f"
    refine g_catZ (a := [45, 49]) (b := Z5) (by first | rfl | decide +kernel) (by first | rfl | decide +kernel) (by decide +kernel) ?_
    walk_at "f"
    refine g_catZ (a := [45, 49] ++ Z5) (b := [101, 45, 53, 48, 48, 48]) (by first | rfl | decide +kernel) (by first | rfl | decide +kernel) (by decide +kernel) ?_
    walk_at "f"
    refine mkN (mk_of_flok (n := 1) (.inr rfl) (by decide) (by decide) (by decide)) fun H15 f15 s15 h15 => ?_
    replace R := R.same s15
    replace S := S.trans s15
    replace h15 : FA C H15 f15 ⟨-1, .int 1, 0⟩ := h15
    replace tlc := s15 _ _ tlc
    walk_at "f"
    refine g_new (sz rfl) fun r16 H16 n16 s16 t16 _ => ?_
    replace R := (R.same s16).snoc (show RowAt C H16 (.ref r16) ([45, 49] ++ Z5 ++ [101, 45, 53, 48, 48, 48], .flt ⟨-1, .int 1, 0⟩) from ⟨_, _, rfl, t16, FA.same h15 s16⟩)
    replace S := S.trans s16
    replace tlc := s16 _ _ tlc
    walk_at "f"
    refine g_new (sz rfl) fun r17 H17 n17 s17 t17 _ => ?_
    replace R := (R.same s17).snoc (show RowAt C H17 (.ref r17) (Z5, .int 0) from ⟨_, _, rfl, t17, rfl⟩)
    replace S := S.trans s17
    replace tlc := s17 _ _ tlc
    walk_at "f"
    refine g_new (sz rfl) fun ld H18 n18 s18 tld _ => ?_
    replace R := R.same s18
    have zld : H ld = none := ne_none_of S n18
    replace S := S.trans s18
    replace tlc := s18 _ _ tlc
    walk_at "f"
    refine .inl ⟨_, ld, _, _, rfl, rfl, SqL.of tlc, SqL.of tld, (sz rfl), fun le H19 n19 s19 tle _ => ?_⟩
    replace R := R.same s19
    have zle : H le = none := ne_none_of S n19
    replace S := S.trans s19
    walk_at "f"
    refine g_catZ (a := [49]) (b := Z5) (by first | rfl | decide +kernel) (by first | rfl | decide +kernel) (by decide +kernel) ?_
    walk_at "f"
    refine g_catZ (a := [49] ++ Z5) (b := [101, 45, 53, 52, 48, 48]) (by first | rfl | decide +kernel) (by first | rfl | decide +kernel) (by decide +kernel) ?_
    walk_at "f"
    refine mkN (zero_mk (.inl rfl)) fun H20 f20 s20 h20 => ?_
    replace R := R.same s20
    replace S := S.trans s20
    replace h20 : FA C H20 f20 ⟨1, .int 0, 0⟩ := h20
    replace tle := s20 _ _ tle
    walk_at "f"
    refine g_new (sz rfl) fun r21 H21 n21 s21 t21 _ => ?_
    replace R := (R.same s21).snoc (show RowAt C H21 (.ref r21) ([49] ++ Z5 ++ [101, 45, 53, 52, 48, 48], .flt ⟨1, .int 0, 0⟩) from ⟨_, _, rfl, t21, FA.same h20 s21⟩)
    replace S := S.trans s21
    replace tle := s21 _ _ tle
    walk_at "f"
    refine g_catZ (a := [49, 101, 45]) (b := Z5) (by first | rfl | decide +kernel) (by first | rfl | decide +kernel) (by decide +kernel) ?_
    walk_at "f"
    refine g_catZ (a := [49, 101, 45] ++ Z5) (b := [49]) (by first | rfl | decide +kernel) (by first | rfl | decide +kernel) (by decide +kernel) ?_
    walk_at "f"
    refine g_catZ (a := [49, 101, 45] ++ Z5 ++ [49]) (b := Z5) (by first | rfl | decide +kernel) (by first | rfl | decide +kernel) (by decide +kernel) ?_
    walk_at "f"
    refine mkN (zero_mk (.inl rfl)) fun H22 f22 s22 h22 => ?_
    replace R := R.same s22
    replace S := S.trans s22
    replace h22 : FA C H22 f22 ⟨1, .int 0, 0⟩ := h22
    replace tle := s22 _ _ tle
    walk_at "f"
    refine g_new (sz rfl) fun r23 H23 n23 s23 t23 _ => ?_
    replace R := (R.same s23).snoc (show RowAt C H23 (.ref r23) ([49, 101, 45] ++ Z5 ++ [49] ++ Z5, .flt ⟨1, .int 0, 0⟩) from ⟨_, _, rfl, t23, FA.same h22 s23⟩)
    replace S := S.trans s23
    replace tle := s23 _ _ tle
    walk_at "f"
    refine g_new (sz rfl) fun lf H24 n24 s24 tlf _ => ?_
    replace R := R.same s24
    have zlf : H lf = none := ne_none_of S n24
    replace S := S.trans s24
    replace tle := s24 _ _ tle
    walk_at "f"
    refine .inl ⟨_, lf, _, _, rfl, rfl, SqL.of tle, SqL.of tlf, (sz rfl), fun lg H25 n25 s25 tlg _ => ?_⟩
    replace R := R.same s25
    have zlg : H lg = none := ne_none_of S n25
    replace S := S.trans s25
    walk_at "f"
    refine g_bm ?_
    walk_at "f"
    refine ⟨tyL tlg, ?_⟩
    walk_at "f"
    refine g_catZ (a := Z5) (b := [120]) (by first | rfl | decide +kernel) (by first | rfl | decide +kernel) (by decide +kernel) ?_
    walk_at "f"
    refine g_new (sz rfl) fun r26 H26 n26 s26 t26 _ => ?_
    replace R := (R.same s26).snoc (show RowAt C H26 (.ref r26) (Z5 ++ [120], .none) from ⟨_, _, rfl, t26, rfl⟩)
    replace S := S.trans s26
    replace tlg := s26 _ _ tlg
    walk_at "f"
    refine g_app tlg (Nat.lt_of_lt_of_le (Nat.le_refl 12) (sz rfl)) fun Ha la1 oth => ?_
    have kp : ∀ b o, H26 b = some o → (∀ xs, o ≠ .lst xs) → Ha b = some o := fun b o e n => by
      by_cases z : b = lg
      · rw [z, tlg] at e; cases e; exact absurd rfl (n _)
      · rw [oth b z]; exact e
    replace R := R.keep kp
    replace S : Same H Ha := fun b o e => by
      by_cases z : b = lg
      · rw [z, zlg] at e; cases e
      · rw [oth b z]; exact S b o e
    have R : RowsAt C Ha ([V.ref r2, V.ref r3, V.ref r5] ++ [V.ref r7, V.ref r8, V.ref r10] ++ [V.ref r14, V.ref r16, V.ref r17] ++ [V.ref r21, V.ref r23] ++ [V.ref r26]) longs := R
    walk_at "f"
    refine ⟨lg, rfl, ⟨_, SqL.of la1⟩, ?_⟩
    generalize hvs : [V.ref r2, V.ref r3, V.ref r5] ++ [V.ref r7, V.ref r8, V.ref r10] ++ [V.ref r14, V.ref r16, V.ref r17] ++ [V.ref r21, V.ref r23] ++ [V.ref r26] = vs at *
    refine for_list (K := K) (a := lg) (xs := vs) (fun i σ' H' => ∃ e1 e2 e3, σ' = [some (.str (Sx Z5)), some (.ref lg), e1, e2, e3] ∧ Same Ha H') ⟨_, _, _, rfl, Same.refl _⟩ ?_ ?_ ?_
    · rintro i _ H' _ ⟨_, _, _, _, sH⟩
      exact SqL.of (sH _ _ la1)
    · rintro i z _ Hb hz ⟨e1, e2, e3, rfl, sb⟩
      obtain ⟨pr, hp, a, u, rfl, ta, hu⟩ := (R.same sb).get hz
      obtain ⟨l, r⟩ := pr
      obtain ⟨er, hl, hasc, flok⟩ := longs_ok _ hp
      walk_at "f"
      refine ⟨a, _, rfl, SqT.of ta, rfl, ?_⟩
      walk_at "f"
      refine ⟨l, rfl, hl, hasc, fun H3 w s3 h3 => ?_⟩
      rw [er] at h3
      replace hu := hu.same s3
      obtain ⟨ty, hk, _⟩ := RdAt.kf T h3
      obtain ⟨ty2, hk2, _⟩ := RdAt.kf T hu
      have fin : ∃ e1 e2 e3, [some (V.str (Sx Z5)), some (.ref lg), some (.str (Sx l)), some u, some w] = [some (V.str (Sx Z5)), some (.ref lg), e1, e2, e3] ∧ Same Ha H3 := ⟨_, _, _, rfl, sb.trans s3⟩
      cases r with
      | none =>
        have h3 : w = .non := h3
        have hu : u = .non := hu
        subst h3 hu
        walk_at "f"
        refine .inr (g_neV rfl ?_)
        rw [decide_eq_true rfl]
        walk_at "f"
        refine iteF ?_
        walk_at "f"
        refine g_isiF hk ?_
        walk_at "f"
        refine g_isiF hk2 ?_
        walk_at "f"
        rw [decide_eq_true rfl]
        refine iteF ?_
        walk_at "f"
        exact fin
      | int n =>
        have h3 : w = .int n := h3
        have hu : u = .int n := hu
        subst h3 hu
        walk_at "f"
        refine .inr (g_neI ?_)
        rw [decide_eq_true rfl]
        walk_at "f"
        refine iteF ?_
        walk_at "f"
        refine g_isiF hk ?_
        walk_at "f"
        refine g_isiF hk2 ?_
        walk_at "f"
        rw [decide_eq_true rfl]
        refine iteF ?_
        walk_at "f"
        exact fin
      | flt x =>
        have xo := flok x rfl
        walk_at "f"
        refine .inl (g_neF h3 hu xo xo fun H4 s4 => ?_)
        rw [eqL_refl]
        obtain ⟨b3, rfl, hb3⟩ := (show FA C H3 w x from h3)
        obtain ⟨b4, rfl, hb4⟩ := (show FA C H3 u x from hu)
        walk_at "f"
        refine iteF ?_
        walk_at "f"
        refine g_isiF (kf_fl T (hb3.same s4)) ?_
        walk_at "f"
        refine g_isiF (kf_fl T (hb4.same s4)) ?_
        walk_at "f"
        rw [decide_eq_true rfl]
        refine iteF ?_
        walk_at "f"
        exact ⟨_, _, _, rfl, (sb.trans s3).trans s4⟩
    · rintro _ Hb ⟨e1, e2, e3, rfl, sb⟩
      walk_at "f"
      exact q _ (S.trans sb)
end
end Up

set_option Elab.async false
set_option linter.all false
set_option pp.maxSteps 900
set_option maxRecDepth 100000
set_option maxHeartbeats 4000000
set_option exponentiation.threshold 200000
namespace Up
open PySem PySem.Spec PyProof.Rows L2
/-! ### what the law finds is small; the last texts -/
theorem ten7 : 10 ^ 7000 < 2 ^ 30000 := by decide +kernel
theorem lrb_to {s : Int} {n : Nat} {p : Int} (hs : s = 1 ∨ s = -1) (h : n < 10 ^ 4000) : ∃ t b, lawTo s n p = .flt s t b ∧ t < 2 ^ 30000 ∧ b < 2 ^ 30000 := by
  have c : 10 ^ (min 3000 p.natAbs) ≤ 10 ^ 3000 := Nat.pow_le_pow_right (by decide) (by omega)
  have e : (10 : Nat) ^ 7000 = 10 ^ 4000 * 10 ^ 3000 := by rw [← Nat.pow_add]
  have z : 0 < 10 ^ 3000 := ten_pos _
  have big := ten7
  refine ⟨_, _, rfl, ?_, ?_⟩
  · have : n * 10 ^ (min 3000 p.natAbs) < 10 ^ 7000 := by
      rw [e]
      exact Nat.mul_lt_mul_of_lt_of_le h c z
    have k : 10 ^ 4000 ≤ 10 ^ 7000 := Nat.pow_le_pow_right (by decide) (by decide)
    split <;> omega
  · have k : 10 ^ 3000 ≤ 10 ^ 7000 := Nat.pow_le_pow_right (by decide) (by decide)
    have k1 : 10 ^ 0 ≤ 10 ^ 7000 := Nat.pow_le_pow_right (by decide) (by decide)
    split <;> omega
theorem dv_small {l : List Nat} (h : ∀ c ∈ l, isD c = true) (hl : l.length ≤ 4000) : dvN l < 10 ^ 4000 :=
  Nat.lt_of_lt_of_le (dv_lt (dD h)) (Nat.pow_le_pow_right (by decide) hl)
theorem tw_D (u : List Nat) : ∀ c ∈ u.takeWhile isD, isD c = true := by
  obtain ⟨A, R, _, h, _, e, _⟩ := tw_spec isD u
  rw [e]
  exact h
theorem lrb_far {s : Int} {u : List Nat} (hs : s = 1 ∨ s = -1) (hl : u.length ≤ 4000) : lawFar s u = .none ∨ ∃ t b, lawFar s u = .flt s t b ∧ t < 2 ^ 30000 ∧ b < 2 ^ 30000 := by
  unfold lawFar
  split
  · exact .inl rfl
  · have lenU : (u.takeWhile isD).length + (u.dropWhile isD).length = u.length := by
      rw [← List.length_append, List.takeWhile_append_dropWhile]
    have d2 : (∀ c ∈ laD2 (u.dropWhile isD), isD c = true) ∧ (laD2 (u.dropWhile isD)).length ≤ (u.dropWhile isD).length := by
      unfold laD2
      split
      · refine ⟨tw_D _, Nat.le_trans (List.takeWhile_sublist _).length_le ?_⟩
        rw [List.length_drop]; omega
      · exact ⟨fun _ h => (nomatch h), Nat.zero_le _⟩
    have hs2 : dvN (u.takeWhile isD ++ laD2 (u.dropWhile isD)) < 10 ^ 4000 := dv_small (fun c hc => (List.mem_append.mp hc).elim (tw_D u c) (d2.1 c)) (by rw [List.length_append]; omega)
    cases lawEnd (laR2 (u.dropWhile isD)) with
    | none => exact .inl rfl
    | some p => exact .inr (lrb_to hs hs2)
theorem lrb_ok (l : List Nat) (hl : l.length ≤ 4000) : (∀ s t b, lawRd l = .flt s t b → (s = 1 ∨ s = -1) ∧ t < 2 ^ 30000 ∧ b < 2 ^ 30000) := by
  intro s t b
  have hs : lawSg l = 1 ∨ lawSg l = -1 := by unfold lawSg; split <;> simp
  have hU : (sgnOff (rnT l)).length ≤ 4000 := Nat.le_trans (sgnOff_len _) (Nat.le_trans strip_len hl)
  unfold lawRd
  split
  · unfold lawHex
    split <;> intro h <;> cases h
  · split
    · rename_i h2
      split
      · intro h; cases h
      · intro h
        cases h
        refine ⟨hs, Nat.lt_of_lt_of_le (dv_small (List.all_eq_true.mp h2.2) hU) ?_, Nat.one_lt_two_pow (by decide)⟩
        exact Nat.le_trans (Nat.pow_le_pow_right (by decide) (by decide)) (Nat.le_of_lt ten7)
    · intro h
      rcases lrb_far hs hU with e | ⟨t', b', e, h1, h2⟩
      · rw [e] at h; cases h
      · rw [e] at h
        cases h
        exact ⟨hs, h1, h2⟩
/-! the long ones -/
theorem okl {l : List Nat} {x : FL} {s : Int} {t b : Nat} (e1 : rnN l = .flt x) (e2 : lawRd l = .flt s t b) (hb : 0 < b) (ht : 0 < t) (e3 : x = nearL s t b) : OkR (rnN l) (lawRd l) := by
  rw [e1, e2]
  exact ⟨x, rfl, hb, .inr ⟨ht, e3⟩⟩
theorem ok9 : OkR (rnN (List.replicate 900 57)) (lawRd (List.replicate 900 57)) :=
  okl (x := infL 1) (s := 1) (t := 10 ^ 900 - 1) (b := 1) (by kernel_rfl) (by kernel_rfl) (by decide) (by decide +kernel) (by kernel_rfl)
abbrev Z9 : List Nat := List.replicate 900 48
theorem okA : OkR (rnN ([49] ++ Z9 ++ [101, 45, 57, 48, 48])) (lawRd ([49] ++ Z9 ++ [101, 45, 57, 48, 48])) :=
  okl (x := ⟨1, .int 1, 0⟩) (s := 1) (t := 10 ^ 900) (b := 10 ^ 900) (by kernel_rfl) (by kernel_rfl) (by decide +kernel) (by decide +kernel) (by kernel_rfl)
theorem okB : OkR (rnN ([48, 46, 53] ++ Z9 ++ [49])) (lawRd ([48, 46, 53] ++ Z9 ++ [49])) :=
  okl (x := ⟨1, .int 1, -1⟩) (s := 1) (t := 5 * 10 ^ 901 + 1) (b := 10 ^ 902) (by kernel_rfl) (by kernel_rfl) (by decide +kernel) (by decide +kernel) (by kernel_rfl)
abbrev N9 : List Nat := [57, 48, 48, 55, 49, 57, 57, 50, 53, 52, 55, 52, 48, 57, 57, 51]
theorem okC : OkR (rnN (N9 ++ Z9 ++ [49, 101, 45, 57, 48, 48])) (lawRd (N9 ++ Z9 ++ [49, 101, 45, 57, 48, 48])) :=
  okl (x := ⟨1, .int 5629499534213121, 4⟩) (s := 1) (t := 9007199254740993 * 10 ^ 901 + 1) (b := 10 ^ 900) (by kernel_rfl) (by kernel_rfl) (by decide +kernel) (by decide +kernel) (by kernel_rfl)
end Up

set_option Elab.async false
set_option linter.all false
set_option pp.maxSteps 600
set_option maxRecDepth 100000
set_option maxHeartbeats 4000000
set_option exponentiation.threshold 200000
namespace Up
open PySem PySem.Spec PyProof.Rows L2
local macro_rules | `(tactic| walk_at "u") => `(tactic| first
  | with_reducible refine g_seq ?_
  | with_reducible refine g_asg ?_
  | with_reducible refine g_op ?_
  | ((with_reducible show tVar _ _ _ _); apply g_var; exact rfl)
  | with_reducible refine g_c ?_
  | with_reducible refine g_name ?_
  | with_reducible refine g_ifs ?_
  | with_reducible refine g_tt ?_
  | with_reducible refine g_tB ?_
  | with_reducible refine g_bl ?_
  | with_reducible refine g_ret ?_
  | with_reducible refine g_cb ?_
  | with_reducible refine g_cons ?_
  | with_reducible refine g_nil ?_
  | with_reducible refine g_call ?_
  | with_reducible refine g_and ?_
  | with_reducible refine g_or ?_
  | with_reducible refine g_not ?_
  | with_reducible refine g_andV ?_
  | with_reducible refine g_orV ?_
  | with_reducible refine g_notV ?_
  | with_reducible refine g_if ?_
  | with_reducible refine g_un ?_
  | with_reducible refine g_neg ?_
  | with_reducible refine g_addI ?_
  | with_reducible refine g_subI ?_
  | with_reducible refine g_subB ?_
  | with_reducible refine g_I0 ?_
  | with_reducible refine g_cmpI ?_
  | with_reducible refine g_eqI ?_
  | with_reducible refine g_neI ?_
  | with_reducible refine g_eqS ?_
  | with_reducible refine g_neS ?_
  | with_reducible refine g_eqB ?_
  | with_reducible refine g_neB ?_
  | with_reducible refine g_bits ?_
  | with_reducible refine g_bitsI ?_
  | with_reducible refine g_fld ?_
  | with_reducible refine g_tup ?_
  | with_reducible refine g_lst ?_
  | with_reducible refine g_gtup ?_
  | with_reducible refine g_make ?_
  | with_reducible refine g_lc ?_
  | with_reducible refine g_yesT ?_
  | with_reducible refine g_intI ?_
  | with_reducible refine g_intB ?_
  | with_reducible refine g_max2 ?_
  | with_reducible refine g_abs1 ?_
  | with_reducible refine g_for ?_
  | with_reducible refine g_iList ?_
  | with_reducible refine g_iTup ?_
  | with_reducible refine g_iRng1 ?_
  | with_reducible refine g_iEnum ?_
  | with_reducible refine g_slice ?_
  | with_reducible refine g_po0 ?_
  | with_reducible refine g_po1 ?_
  | with_reducible refine g_gsub ?_
  | with_reducible refine g_par ?_
  | with_reducible refine g_par2 ?_
  | with_reducible refine g_rfl ?_
  | with_reducible refine g_meth ?_
  | with_reducible refine g_gcons ?_
  | with_reducible refine g_gnil ?_
  | with_reducible refine g_gfld ?_
  | with_reducible refine g_sfld ?_
  | with_reducible refine g_drop ?_
  | with_reducible refine g_next ?_
  | with_reducible refine iteT ?_
  | with_reducible refine iteF ?_)
local macro_rules | `(tactic| walk_at "go") => `(tactic| (repeat walk_at "u"))
local macro_rules | `(tactic| walk_at "f") => `(tactic| (repeat (first
  | walk_at "u"
  | with_reducible refine g_chain ?_
  | with_reducible refine g_par3 ?_
  | with_reducible refine g_par3' ?_
  | ((with_reducible refine show_ex ?_); first
    | refine fT (by assumption) (by assumption) ?_
    | refine fS (by assumption) (by assumption) ?_
    | refine fP (by assumption) (by assumption) ?_))))

section
variable {P : Program} {w : World} {K : PySem.W.Frag} {mg : Str → Option Value} {base : Heap} {C CT : Addr}
def oV : Option Int → V
  | some i => .int i
  | none => .non
/-! whole_of -/
def wholeF (s : Int) : V → Int → Option Int
  | .int m, p => if p < 0 ∨ 64 < ((Builtin.Int.intBits m : Nat) : Int) + p then none else if -9223372036854775808 ≤ s * (m * 2 ^ p.toNat) ∧ s * (m * 2 ^ p.toNat) ≤ 9223372036854775807 then some (s * (m * 2 ^ p.toNat)) else none
  | _, _ => none
def wholeN : Nm → Option Int
  | .i n => some n
  | .f s t p => wholeF s t p
end
end Up

set_option Elab.async false
set_option linter.all false
set_option maxRecDepth 100000
set_option maxHeartbeats 4000000
set_option exponentiation.threshold 200000
namespace Up
open PySem PySem.Spec PyProof.Rows L2
local macro_rules | `(tactic| walk_at "u") => `(tactic| first
  | with_reducible refine g_seq ?_
  | with_reducible refine g_asg ?_
  | with_reducible refine g_op ?_
  | ((with_reducible show tVar _ _ _ _); apply g_var; exact rfl)
  | with_reducible refine g_c ?_
  | with_reducible refine g_name ?_
  | with_reducible refine g_ifs ?_
  | with_reducible refine g_tt ?_
  | with_reducible refine g_tB ?_
  | with_reducible refine g_bl ?_
  | with_reducible refine g_ret ?_
  | with_reducible refine g_cb ?_
  | with_reducible refine g_cons ?_
  | with_reducible refine g_nil ?_
  | with_reducible refine g_call ?_
  | with_reducible refine g_and ?_
  | with_reducible refine g_or ?_
  | with_reducible refine g_not ?_
  | with_reducible refine g_andV ?_
  | with_reducible refine g_orV ?_
  | with_reducible refine g_notV ?_
  | with_reducible refine g_if ?_
  | with_reducible refine g_un ?_
  | with_reducible refine g_neg ?_
  | with_reducible refine g_addI ?_
  | with_reducible refine g_subI ?_
  | with_reducible refine g_subB ?_
  | with_reducible refine g_I0 ?_
  | with_reducible refine g_cmpI ?_
  | with_reducible refine g_eqI ?_
  | with_reducible refine g_neI ?_
  | with_reducible refine g_eqS ?_
  | with_reducible refine g_neS ?_
  | with_reducible refine g_eqB ?_
  | with_reducible refine g_neB ?_
  | with_reducible refine g_bits ?_
  | with_reducible refine g_bitsI ?_
  | with_reducible refine g_fld ?_
  | with_reducible refine g_tup ?_
  | with_reducible refine g_lst ?_
  | with_reducible refine g_gtup ?_
  | with_reducible refine g_make ?_
  | with_reducible refine g_lc ?_
  | with_reducible refine g_yesT ?_
  | with_reducible refine g_intI ?_
  | with_reducible refine g_intB ?_
  | with_reducible refine g_max2 ?_
  | with_reducible refine g_abs1 ?_
  | with_reducible refine g_for ?_
  | with_reducible refine g_iList ?_
  | with_reducible refine g_iTup ?_
  | with_reducible refine g_iRng1 ?_
  | with_reducible refine g_iEnum ?_
  | with_reducible refine g_slice ?_
  | with_reducible refine g_po0 ?_
  | with_reducible refine g_po1 ?_
  | with_reducible refine g_gsub ?_
  | with_reducible refine g_par ?_
  | with_reducible refine g_par2 ?_
  | with_reducible refine g_rfl ?_
  | with_reducible refine g_meth ?_
  | with_reducible refine g_gcons ?_
  | with_reducible refine g_gnil ?_
  | with_reducible refine g_gfld ?_
  | with_reducible refine g_sfld ?_
  | with_reducible refine g_drop ?_
  | with_reducible refine g_next ?_
  | with_reducible refine iteT ?_
  | with_reducible refine iteF ?_)
local macro_rules | `(tactic| walk_at "go") => `(tactic| (repeat walk_at "u"))

section
variable {P : Program} {w : World} {K : PySem.W.Frag} {mg : Str → Option Value} {base : Heap} {C : Addr}
/-! is_number -/
theorem sc_isnumber : FnScope ["thing"] ["thing"] (defScope s_isnumber) := ⟨rfl, rfl, rfl, by decide +kernel, rfl, by decide +kernel, by decide +kernel⟩
def sp_isnumber (K : PySem.W.Frag) (C : Addr) : Sp := fun vs H Q _ => ∃ x t b, vs = [x] ∧ KnF K C H x t b ∧ Q (.bl (b || isI x)) H
theorem ok_isnumber {f : Addr} {fd : FuncData} (F : FunD K "is_number" "is_number" (defArgs s_isnumber) (defBody s_isnumber) (defScope s_isnumber) [] [] f fd) (B : Blt mg) (T : FlC K mg C) (c_isplain : Fn P w K mg base CX0 1 "is_plain" ["number"] [] (sp_isplain K)) : FnOk P w K mg base CX0 2 f fd ["thing"] (sp_isnumber K C) := by
  have g_Float : mg "Float" = some (.ref C) := T.mg
  refine F.ok sc_isnumber (fun vs H Q E h => ?_) (fun cdv A outer s H vs Q E hr h => ?_)
  · obtain ⟨x, t, b, rfl, _⟩ := h; rfl
  · obtain ⟨x, t, b, rfl, hk, q⟩ := h
    refine ⟨_, PSs.nox (pss_one (ps_ret (pe_or (pe_callB call_isi (by rfl) B.isinstance (by decide +kernel) (pa_cons (pv 0) (pa_cons (pe_gref g_Float) pa_nil))) (pe_one (pe_fn c_isplain (hr.mono (by first | decide | omega)) pass0 (pa_cons (pv 0) pa_nil)))))), ?_⟩
    walk_at "go"
    refine g_isiF hk ?_
    walk_at "go"
    cases b
    · refine iteF ?_
      walk_at "go"
      exact ⟨x, t, rfl, hk.kn, q⟩
    · refine iteT ?_
      exact q
/-! place_of -/
theorem sc_placeof : FnScope ["number"] ["number"] (defScope s_placeof) := ⟨rfl, rfl, rfl, by decide +kernel, rfl, by decide +kernel, by decide +kernel⟩
def plc : Nm → Option (Int × Int)
  | .i k => some (k, 1)
  | .f s (.int m) p => some (ratN s m p, ratD p)
  | .f s (.str x) _ => if x = "nan" then none else some (s * 2 ^ 1025, 1)
  | .f _ _ _ => none
def RetO (H : Hp) (o : Option (Int × Int)) (Q : VK) : Prop := match o with
  | none => ∀ H', Same H H' → Q .non H'
  | some (x, y) => RetT H [.int x, .int y] Q
def sp_placeof (C : Addr) : Sp := fun vs H Q _ => ∃ v n, vs = [v] ∧ NumAt C H v n ∧ RetO H (plc n) Q
theorem ok_placeof {f : Addr} {fd : FuncData} (F : FunD K "place_of" "place_of" (defArgs s_placeof) (defBody s_placeof) (defScope s_placeof) [] [] f fd) (B : Blt mg) (T : FlC K mg C) (i_TOO_GREAT : ∃ t, mg "TOO_GREAT" = some (.int 1024 t)) (c_isfinite : Mt P w K mg base CX0 1 C "is_finite" ["self"] (sp_isfinite C)) (c_ratio : Mt P w K mg base CX0 1 C "ratio" ["self"] (sp_ratio C)) :
    FnOk P w K mg base CX0 2 f fd ["number"] (sp_placeof C) := by
  have g_Float : mg "Float" = some (.ref C) := T.mg
  refine F.ok sc_placeof (fun vs H Q E h => ?_) (fun cdv A outer s H vs Q E hr h => ?_)
  · obtain ⟨x, n, rfl, _⟩ := h; rfl
  · obtain ⟨x, n, rfl, hn, q⟩ := h
    refine ⟨_, PSs.nox (pss_cons (ps_if (pt_not (pt_val (pe_callB call_isi (by rfl) B.isinstance (by decide +kernel) (pa_cons (pv 0) (pa_cons (pe_gref g_Float) pa_nil))))) (pss_one (ps_ret (pe_tupN (pa_cons (pv 0) (pa_cons pe_int pa_nil))))) pss_nil)
  (pss_cons (ps_if (pt_val (pe_mt0 c_isfinite (hr.mono (by first | decide | omega)) pass0 (pv 0))) (pss_one (ps_ret (pe_mt0 c_ratio (hr.mono (by first | decide | omega)) pass0 (pv 0)))) pss_nil)
  (pss_one (ps_ret (pe_ifExp (pt_cmpR (op_oEq hr.units) (pe_fld (pv 0) rfl) pe_str (nomark _)) pe_non (pe_tupN (pa_cons (pe_op op_oShl (pe_fld (pv 0) rfl) (pe_op op_oAdd (pe_gint i_TOO_GREAT) pe_int)) (pa_cons pe_int pa_nil)))))))), ?_⟩
    obtain ⟨t, hk, _, _⟩ := hn.kf T
    walk_at "go"
    refine g_isiF hk ?_
    walk_at "go"
    cases n with
    | i k =>
      have hn : x = .int k := hn
      subst hn
      refine iteT ?_
      walk_at "go"
      exact g_new (sz rfl) fun a H1 na s1 ha _ => q _ _ na s1 ha
    | f sg tp p =>
      obtain ⟨a, rfl, hf, ho⟩ := hn
      refine iteF ?_
      walk_at "go"
      obtain ⟨dx, hd⟩ := id hf
      refine ⟨a, dx, _, rfl, hd, rfl, ?_⟩
      walk_at "go"
      refine ⟨a, sg, tp, p, rfl, hf, ho, ?_⟩
      walk_at "go"
      rcases id ho.2 with ⟨rfl, _, _⟩ | ⟨rfl, _⟩ | ⟨m, rfl, hfin⟩
      · refine iteF ?_
        walk_at "go"
        refine ⟨a, C, dx, _, _, rfl, hd, T.own.cl, T.nT, fl_top _ _ _, ?_⟩
        walk_at "go"
        refine g_yes rfl ?_
        walk_at "go"
        exact q H (Same.refl _)
      · refine iteF ?_
        walk_at "go"
        refine ⟨a, C, dx, _, _, rfl, hd, T.own.cl, T.nT, fl_top _ _ _, ?_⟩
        walk_at "go"
        refine g_no (by decide +kernel) ?_
        walk_at "go"
        refine ⟨a, C, dx, _, _, rfl, hd, T.own.cl, T.nS, fl_sign _ _ _, ?_⟩
        walk_at "go"
        refine g_II (shl_small (by decide) (by decide) (by rcases ho.1 with rfl | rfl <;> exact lt_pow_mono (a := 1) (by decide) (by decide))) ?_
        walk_at "go"
        have e : plc (.f sg (.str "inf") p) = some (sg * 2 ^ 1025, 1) := by
          show (if ("inf" : Str) = "nan" then none else some (sg * 2 ^ 1025, (1 : Int))) = _
          rw [if_neg (by decide +kernel)]
        rw [e] at q
        exact g_new (sz rfl) fun b H1 nb s1 hb _ => q _ _ nb s1 hb
      · refine iteT ?_
        walk_at "go"
        refine ⟨a, dx, _, rfl, hd, rfl, ?_⟩
        walk_at "go"
        exact ⟨a, sg, m, p, rfl, hf, ho, q⟩
/-! order_of -/
theorem sc_orderof : FnScope ["one", "other", "first", "second", "gap"] ["one", "other"] (defScope s_orderof) := ⟨rfl, rfl, rfl, by decide +kernel, rfl, by decide +kernel, by decide +kernel⟩
def gapO : Option (Int × Int) → Option (Int × Int) → Option Int
  | some (a, b), some (c, d) => some (a * d - c * b)
  | _, _ => none
def ordN (n m : Nm) : Option Int := (gapO (plc n) (plc m)).map fun g => b2i (decide (0 < g)) - b2i (decide (g < 0))
def nOk : Nm → Prop
  | .i k => bigOk k
  | .f s t p => FlOk s t p
theorem plc_small {n : Nm} (h : nOk n) : ∀ x y, plc n = some (x, y) → x.natAbs < 2 ^ 5000 ∧ y.natAbs < 2 ^ 5000 ∧ 0 < y := by
  intro x y e
  cases n with
  | i k =>
    have e : some (k, (1 : Int)) = some (x, y) := e
    injection e with e
    injection e with e1 e2
    subst e1 e2
    exact ⟨h, lt_pow_mono (a := 1) (by decide) (by decide), by decide⟩
  | f s t p =>
    obtain ⟨hs, h2⟩ := id h
    rcases h2 with ⟨rfl, _, _⟩ | ⟨rfl, _⟩ | ⟨m, rfl, hf⟩
    · have e : (if ("nan" : Str) = "nan" then none else some (s * 2 ^ 1025, (1 : Int))) = some (x, y) := e
      rw [if_pos rfl] at e
      cases e
    · have e : (if ("inf" : Str) = "nan" then none else some (s * 2 ^ 1025, (1 : Int))) = some (x, y) := e
      rw [if_neg (by decide +kernel)] at e
      injection e with e
      injection e with e1 e2
      subst e1 e2
      refine ⟨?_, lt_pow_mono (a := 1) (by decide) (by decide), by decide⟩
      rw [sgn_abs hs, Int.natAbs_pow]
      exact Nat.pow_lt_pow_right (by decide) (by decide)
    · have e : some (ratN s m p, ratD p) = some (x, y) := e
      injection e with e
      injection e with e1 e2
      subst e1 e2
      have hhi := hf.hi
      obtain ⟨f1, f2, f3, f4, f5⟩ := hf
      have hm : m.natAbs < 2 ^ 53 := by omega
      unfold ratN ratD
      by_cases hp : p < 0
      · rw [if_pos hp, if_pos hp, sgn_abs hs]
        refine ⟨lt_pow_mono hm (by decide), ?_, Int.pow_pos (by decide)⟩
        rw [Int.natAbs_pow]
        exact Nat.pow_lt_pow_right (by decide) (by omega)
      · rw [if_neg hp, if_neg hp, sgn_abs hs]
        refine ⟨?_, lt_pow_mono (a := 1) (by decide) (by decide), by decide⟩
        rw [Int.natAbs_mul, Int.natAbs_pow]
        have h1 : m.natAbs * Int.natAbs 2 ^ p.toNat < 2 ^ 53 * 2 ^ p.toNat := Nat.mul_lt_mul_of_pos_right hm (Nat.two_pow_pos _)
        rw [← Nat.pow_add] at h1
        exact lt_pow_mono h1 (by omega)
def sp_orderof (C : Addr) : Sp := fun vs H Q _ => ∃ v u n m, vs = [v, u] ∧ NumAt C H v n ∧ NumAt C H u m ∧ nOk n ∧ nOk m ∧ ∀ H', Same H H' → Q (oV (ordN n m)) H'
theorem ok_orderof {f : Addr} {fd : FuncData} (F : FunD K "order_of" "order_of" (defArgs s_orderof) (defBody s_orderof) (defScope s_orderof) [] [] f fd) (B : Blt mg) (c_placeof : Fn P w K mg base CX0 2 "place_of" ["number"] [] (sp_placeof C)) : FnOk P w K mg base CX0 3 f fd ["one", "other"] (sp_orderof C) := by
  refine F.ok sc_orderof (fun vs H Q E h => ?_) (fun cdv A outer s H vs Q E hr h => ?_)
  · obtain ⟨_, _, _, _, rfl, _⟩ := h; rfl
  · obtain ⟨v, u, n, m, rfl, hn, hm, on, om, q⟩ := h
    refine ⟨_, PSs.nox (pss_cons (ps_par (i := 2) (j := 3) rfl sc_orderof.nd rfl rfl (by decide) rfl rfl (pa_cons (pe_fn c_placeof (hr.mono (by first | decide | omega)) pass0 (pa_cons (pv 0) pa_nil)) (pa_cons (pe_fn c_placeof (hr.mono (by first | decide | omega)) pass0 (pa_cons (pv 1) pa_nil)) pa_nil)) (by rfl))
  (pss_cons (ps_if (PW.pt (pw_or (pt_cmpR op_isN (pv 2) pe_non (nomark _)) (pw_or1 (pt_cmpR op_isN (pv 3) pe_non (nomark _))))) (pss_one (ps_ret pe_non)) pss_nil)
  (pss_cons (ps_set (i := 4) sc_orderof.nd rfl (Or.inl rfl) (pe_op op_oSub (pe_op op_oMul (pe_ix ix_seq (pv 2) pe_int (fun _ _ => rfl)) (pe_ix ix_seq (pv 3) pe_int (fun _ _ => rfl))) (pe_op op_oMul (pe_ix ix_seq (pv 3) pe_int (fun _ _ => rfl)) (pe_ix ix_seq (pv 2) pe_int (fun _ _ => rfl)))))
  (pss_one (ps_ret (pe_op op_oSub (pe_cmpR op_oGt (pv 4) pe_int (nomark _)) (pe_cmpR op_oLt (pv 4) pe_int (nomark _)))))))), ?_⟩
    walk_at "go"
    refine ⟨v, n, rfl, hn, ?_⟩
    unfold ordN at q
    have sn := plc_small on
    have sm := plc_small om
    cases en : plc n with
    | none =>
      rw [en] at q
      intro H1 s1
      walk_at "go"
      refine ⟨u, m, rfl, hm.same s1, ?_⟩
      cases em : plc m with
      | none =>
        intro H2 s2
        walk_at "go"
        refine g_yes rfl ?_
        walk_at "go"
        exact q _ (s1.trans s2)
      | some xy =>
        intro H2 a2 na2 s2 ha2
        walk_at "go"
        refine g_yes rfl ?_
        walk_at "go"
        exact q _ (s1.trans s2)
    | some xy =>
      rw [en] at q
      intro H1 a1 na1 s1 ha1
      walk_at "go"
      refine ⟨u, m, rfl, hm.same s1, ?_⟩
      cases em : plc m with
      | none =>
        rw [em] at q
        intro H2 s2
        walk_at "go"
        refine g_no (fun z => nomatch z) ?_
        walk_at "go"
        refine g_yes rfl ?_
        walk_at "go"
        exact q _ (s1.trans s2)
      | some zw =>
        rw [em] at q
        intro H2 a2 na2 s2 ha2
        obtain ⟨p1, p2, p3⟩ := sn _ _ en
        obtain ⟨r1, r2, r3⟩ := sm _ _ em
        have hb := s2 _ _ ha1
        walk_at "go"
        refine g_no (fun z => nomatch z) ?_
        walk_at "go"
        refine g_no (fun z => nomatch z) ?_
        walk_at "go"
        refine g_ixT hb rfl ?_
        walk_at "go"
        refine g_ixT ha2 rfl ?_
        refine g_mulI (mul_small (lt_pow_mono p1 (by decide)) (lt_pow_mono r2 (by decide))) ?_
        walk_at "go"
        refine g_ixT ha2 rfl ?_
        walk_at "go"
        refine g_ixT hb rfl ?_
        refine g_mulI (mul_small (lt_pow_mono r1 (by decide)) (lt_pow_mono p2 (by decide))) ?_
        walk_at "go"
        exact q _ (s1.trans s2)
end
end Up

set_option Elab.async false
set_option linter.all false
set_option pp.maxSteps 700
set_option maxRecDepth 100000
set_option maxHeartbeats 4000000
set_option exponentiation.threshold 200000
namespace Up
open PySem PySem.Spec PyProof.Rows L2
local macro_rules | `(tactic| walk_at "u") => `(tactic| first
  | with_reducible refine g_seq ?_
  | with_reducible refine g_asg ?_
  | with_reducible refine g_op ?_
  | ((with_reducible show tVar _ _ _ _); apply g_var; exact rfl)
  | with_reducible refine g_c ?_
  | with_reducible refine g_name ?_
  | with_reducible refine g_ifs ?_
  | with_reducible refine g_tt ?_
  | with_reducible refine g_tB ?_
  | with_reducible refine g_bl ?_
  | with_reducible refine g_ret ?_
  | with_reducible refine g_cb ?_
  | with_reducible refine g_cons ?_
  | with_reducible refine g_nil ?_
  | with_reducible refine g_call ?_
  | with_reducible refine g_and ?_
  | with_reducible refine g_or ?_
  | with_reducible refine g_not ?_
  | with_reducible refine g_andV ?_
  | with_reducible refine g_orV ?_
  | with_reducible refine g_notV ?_
  | with_reducible refine g_if ?_
  | with_reducible refine g_un ?_
  | with_reducible refine g_neg ?_
  | with_reducible refine g_addI ?_
  | with_reducible refine g_subI ?_
  | with_reducible refine g_subB ?_
  | with_reducible refine g_I0 ?_
  | with_reducible refine g_cmpI ?_
  | with_reducible refine g_eqI ?_
  | with_reducible refine g_neI ?_
  | with_reducible refine g_eqS ?_
  | with_reducible refine g_neS ?_
  | with_reducible refine g_eqB ?_
  | with_reducible refine g_neB ?_
  | with_reducible refine g_bits ?_
  | with_reducible refine g_bitsI ?_
  | with_reducible refine g_fld ?_
  | with_reducible refine g_tup ?_
  | with_reducible refine g_lst ?_
  | with_reducible refine g_gtup ?_
  | with_reducible refine g_make ?_
  | with_reducible refine g_lc ?_
  | with_reducible refine g_yesT ?_
  | with_reducible refine g_intI ?_
  | with_reducible refine g_intB ?_
  | with_reducible refine g_max2 ?_
  | with_reducible refine g_abs1 ?_
  | with_reducible refine g_for ?_
  | with_reducible refine g_iList ?_
  | with_reducible refine g_iTup ?_
  | with_reducible refine g_iRng1 ?_
  | with_reducible refine g_iEnum ?_
  | with_reducible refine g_slice ?_
  | with_reducible refine g_po0 ?_
  | with_reducible refine g_po1 ?_
  | with_reducible refine g_gsub ?_
  | with_reducible refine g_par ?_
  | with_reducible refine g_par2 ?_
  | with_reducible refine g_rfl ?_
  | with_reducible refine g_meth ?_
  | with_reducible refine g_gcons ?_
  | with_reducible refine g_gnil ?_
  | with_reducible refine g_gfld ?_
  | with_reducible refine g_sfld ?_
  | with_reducible refine g_drop ?_
  | with_reducible refine g_next ?_
  | with_reducible refine iteT ?_
  | with_reducible refine iteF ?_)
local macro_rules | `(tactic| walk_at "go") => `(tactic| (repeat walk_at "u"))

section
variable {P : Program} {w : World} {K : PySem.W.Frag} {mg : Str → Option Value} {base : Heap} {C : Addr}
/-! same, of two ints -/
theorem sc_same : FnScope ["one", "other"] ["one", "other"] (defScope s_same) := ⟨rfl, rfl, rfl, by decide +kernel, rfl, by decide +kernel, by decide +kernel⟩
def sp_sameI : Sp := fun vs H Q _ => ∃ i j : Int, vs = [.int i, .int j] ∧ i.natAbs < 2 ^ 64 ∧ j.natAbs < 2 ^ 64 ∧ ∀ H', Same H H' → Q (.bl (decide (i = j))) H'
theorem ok_sameI {f : Addr} {fd : FuncData} (F : FunD K "same" "same" (defArgs s_same) (defBody s_same) (defScope s_same) [] [] f fd) (B : Blt mg) (T : FlC K mg C) (c_isnumber : Fn P w K mg base CX0 2 "is_number" ["thing"] [] (sp_isnumber K C)) (c_orderof : Fn P w K mg base CX0 3 "order_of" ["one", "other"] [] (sp_orderof C)) :
    FnOk P w K mg base CX0 4 f fd ["one", "other"] sp_sameI := by
  refine F.ok sc_same (fun vs H Q E h => ?_) (fun cdv A outer s H vs Q E hr h => ?_)
  · obtain ⟨_, _, rfl, _⟩ := h; rfl
  · obtain ⟨i, j, rfl, hi, hj, q⟩ := h
    refine ⟨_, PSs.nox (pss_cons (ps_if (PW.pt (pw_and (pt_val (pe_fn c_isnumber (hr.mono (by first | decide | omega)) pass0 (pa_cons (pv 0) pa_nil))) (pw_and1 (pt_val (pe_fn c_isnumber (hr.mono (by first | decide | omega)) pass0 (pa_cons (pv 1) pa_nil)))))) (pss_one (ps_ret (pe_cmpR (op_oEq hr.units) (pe_fn c_orderof (hr.mono (by first | decide | omega)) pass0 (pa_cons (pv 0) (pa_cons (pv 1) pa_nil))) pe_int (nomark _)))) pss_nil)
  (pss_cons (ps_if (PW.pt (pw_or (pt_val (pe_fn c_isnumber (hr.mono (by first | decide | omega)) pass0 (pa_cons (pv 0) pa_nil))) (pw_or1 (pt_val (pe_fn c_isnumber (hr.mono (by first | decide | omega)) pass0 (pa_cons (pv 1) pa_nil)))))) (pss_one (ps_ret pe_bl)) pss_nil)
  (pss_cons (ps_if (PW.pt (pw_or (pt_cmpR (op_oNe hr.units) (pe_callB call_isi (by rfl) B.isinstance (by decide +kernel) (pa_cons (pv 0) (pa_cons (pe_tyBool B) pa_nil))) (pe_callB call_isi (by rfl) B.isinstance (by decide +kernel) (pa_cons (pv 1) (pa_cons (pe_tyBool B) pa_nil))) (nomark _)) (pw_or1 (pt_cmpR (op_oNe hr.units) (pe_callB call_isi (by rfl) B.isinstance (by decide +kernel) (pa_cons (pv 0) (pa_cons (pe_tyStr B) pa_nil))) (pe_callB call_isi (by rfl) B.isinstance (by decide +kernel) (pa_cons (pv 1) (pa_cons (pe_tyStr B) pa_nil))) (nomark _))))) (pss_one (ps_ret pe_bl)) pss_nil)
  (pss_one (ps_ret (pe_cmpR (op_oEq hr.units) (pv 0) (pv 1) (nomark _))))))), ?_⟩
    walk_at "go"
    refine ⟨_, _, _, rfl, kf_int T, ?_⟩
    walk_at "go"
    refine iteT ?_
    walk_at "go"
    refine ⟨_, _, _, rfl, kf_int T, ?_⟩
    walk_at "go"
    refine iteT ?_
    walk_at "go"
    refine ⟨_, _, .i i, .i j, rfl, rfl, rfl, Nat.lt_trans hi (Nat.pow_lt_pow_right (by decide) (by decide)), Nat.lt_trans hj (Nat.pow_lt_pow_right (by decide) (by decide)), fun H1 s1 => ?_⟩
    walk_at "go"
    have e : oV (ordN (.i i) (.i j)) = .int (b2i (decide (0 < i * 1 - j * 1)) - b2i (decide (i * 1 - j * 1 < 0))) := rfl
    rw [e]
    refine g_eqI ?_
    have e2 : decide (b2i (decide (0 < i * 1 - j * 1)) - b2i (decide (i * 1 - j * 1 < 0)) = 0) = decide (i = j) := by
      by_cases h : i = j
      · subst h
        rw [decide_eq_false (show ¬ 0 < i * 1 - i * 1 by omega), decide_eq_false (show ¬ i * 1 - i * 1 < 0 by omega), decide_eq_true (show i = i from rfl)]
        rfl
      · rw [decide_eq_false h]
        by_cases h2 : 0 < i * 1 - j * 1
        · rw [decide_eq_true h2, decide_eq_false (show ¬ i * 1 - j * 1 < 0 by omega)]
          rfl
        · rw [decide_eq_false h2, decide_eq_true (show i * 1 - j * 1 < 0 by omega)]
          rfl
    rw [e2]
    exact q _ s1
end
end Up

set_option Elab.async false
set_option linter.all false
set_option pp.maxSteps 700
set_option maxRecDepth 100000
set_option maxHeartbeats 4000000
set_option exponentiation.threshold 200000
namespace Up
open PySem PySem.Spec PyProof.Rows L2
local macro_rules | `(tactic| walk_at "u") => `(tactic| first
  | with_reducible refine g_seq ?_
  | with_reducible refine g_asg ?_
  | with_reducible refine g_op ?_
  | ((with_reducible show tVar _ _ _ _); apply g_var; exact rfl)
  | with_reducible refine g_c ?_
  | with_reducible refine g_name ?_
  | with_reducible refine g_ifs ?_
  | with_reducible refine g_tt ?_
  | with_reducible refine g_tB ?_
  | with_reducible refine g_bl ?_
  | with_reducible refine g_ret ?_
  | with_reducible refine g_cb ?_
  | with_reducible refine g_cons ?_
  | with_reducible refine g_nil ?_
  | with_reducible refine g_call ?_
  | with_reducible refine g_and ?_
  | with_reducible refine g_or ?_
  | with_reducible refine g_not ?_
  | with_reducible refine g_andV ?_
  | with_reducible refine g_orV ?_
  | with_reducible refine g_notV ?_
  | with_reducible refine g_if ?_
  | with_reducible refine g_un ?_
  | with_reducible refine g_neg ?_
  | with_reducible refine g_addI ?_
  | with_reducible refine g_subI ?_
  | with_reducible refine g_subB ?_
  | with_reducible refine g_I0 ?_
  | with_reducible refine g_cmpI ?_
  | with_reducible refine g_eqI ?_
  | with_reducible refine g_neI ?_
  | with_reducible refine g_eqS ?_
  | with_reducible refine g_neS ?_
  | with_reducible refine g_eqB ?_
  | with_reducible refine g_neB ?_
  | with_reducible refine g_bits ?_
  | with_reducible refine g_bitsI ?_
  | with_reducible refine g_fld ?_
  | with_reducible refine g_tup ?_
  | with_reducible refine g_lst ?_
  | with_reducible refine g_gtup ?_
  | with_reducible refine g_make ?_
  | with_reducible refine g_lc ?_
  | with_reducible refine g_yesT ?_
  | with_reducible refine g_intI ?_
  | with_reducible refine g_intB ?_
  | with_reducible refine g_max2 ?_
  | with_reducible refine g_abs1 ?_
  | with_reducible refine g_for ?_
  | with_reducible refine g_iList ?_
  | with_reducible refine g_iTup ?_
  | with_reducible refine g_iRng1 ?_
  | with_reducible refine g_iEnum ?_
  | with_reducible refine g_slice ?_
  | with_reducible refine g_po0 ?_
  | with_reducible refine g_po1 ?_
  | with_reducible refine g_gsub ?_
  | with_reducible refine g_par ?_
  | with_reducible refine g_par2 ?_
  | with_reducible refine g_rfl ?_
  | with_reducible refine g_meth ?_
  | with_reducible refine g_gcons ?_
  | with_reducible refine g_gnil ?_
  | with_reducible refine g_gfld ?_
  | with_reducible refine g_sfld ?_
  | with_reducible refine g_drop ?_
  | with_reducible refine g_next ?_
  | with_reducible refine iteT ?_
  | with_reducible refine iteF ?_)
local macro_rules | `(tactic| walk_at "go") => `(tactic| (repeat walk_at "u"))
local macro_rules | `(tactic| walk_at "f") => `(tactic| (repeat (first
  | walk_at "u"
  | with_reducible refine g_chain ?_
  | with_reducible refine g_par3 ?_
  | with_reducible refine g_par3' ?_
  | ((with_reducible refine show_ex ?_); first
    | refine fT (by assumption) (by assumption) ?_
    | refine fS (by assumption) (by assumption) ?_
    | refine fP (by assumption) (by assumption) ?_))))

section
variable {P : Program} {w : World} {K : PySem.W.Frag} {mg : Str → Option Value} {base : Heap} {C : Addr}
theorem sc_law : FnScope ["_law_script", "_law_cell", "_law_well_here", "_law_turn", "_law_text_here", "_law_near", "_law_odd", "_law_some"] ["_law_script"] (defScope s_law) := ⟨rfl, rfl, rfl, by decide +kernel, rfl, by decide +kernel, by decide +kernel⟩
def spLaw (K : PySem.W.Frag) : Sp := fun vs H Q _ => ∃ (a : Addr) (ns : List Int), vs = [.ref a] ∧ SqL K H a (ns.map V.int) ∧ ns.length ≤ 63 ∧ ∀ H', Q (.bl true) H'
theorem cells_int {ns : List Int} {lo hi : Option Int} : ∀ v ∈ cutV (ns.map V.int ++ [V.int 0]) lo hi, ∃ n, v = .int n := fun v hv => by
  have h := List.mem_of_mem_drop (List.mem_of_mem_take hv)
  rcases List.mem_append.mp h with h | h
  · obtain ⟨n, _, rfl⟩ := List.mem_map.mp h
    exact ⟨n, rfl⟩
  · simp only [List.mem_cons, List.not_mem_nil, or_false] at h
    exact ⟨0, h⟩
theorem lrb {l : List Nat} (hl : l.length ≤ 4000) : LRb (lawRd l) := by
  have h := lrb_ok l hl
  cases e : lawRd l with
  | none => trivial
  | int n => trivial
  | flt s t b => exact h s t b e
theorem rep400 : repS "0" 400 = Sx (List.replicate 400 48) := rep_C (by decide +kernel) (by decide)
theorem rep900 : repS "9" 900 = Sx (List.replicate 900 57) := rep_C (by decide +kernel) (by decide)
theorem rep99 : repS "f" 99 = Sx (List.replicate 99 102) := rep_C (by decide +kernel) (by decide)
theorem repZ9 : repS "0" 900 = Sx Z9 := rep_C (by decide +kernel) (by decide)
/-- a text that is asked -/
def GoodT (v : V) : Prop := ∃ l : List Nat, v = .str (Sx l) ∧ l.length ≤ 4000 ∧ Asc l ∧ OkR (rnN l) (lawRd l)
theorem good_txa {n : Nat} {v : V} (h : TxA n v) (hn : n ≤ 800) : GoodT v := by
  obtain ⟨l, e, hl, ha⟩ := h
  exact ⟨l, e, by omega, ha, rd_ok l (by omega)⟩
theorem good_Sx {l : List Nat} (hl : l.length ≤ 4000) (ha : l.all (fun c => decide (c < 128)) = true) (h : OkR (rnN l) (lawRd l)) : GoodT (.str (Sx l)) := ⟨l, rfl, hl, fun c hc => of_decide_eq_true (List.all_eq_true.mp ha c hc), h⟩
def oddB : V → Bool
  | .str z => decide (z.length ≤ 100) && z.cps.toList.all (fun c => decide (c < 128)) && (match rnN z.cps.toList with | .none => true | _ => false)
  | _ => false
theorem odd_ok {v : V} (h : oddB v = true) : ∃ l : List Nat, v = .str (Sx l) ∧ l.length ≤ 20000 ∧ Asc l ∧ rnN l = .none := by
  cases v with
  | str z =>
    have h : (decide (z.length ≤ 100) && z.cps.toList.all (fun c => decide (c < 128)) && (match rnN z.cps.toList with | .none => true | _ => false)) = true := h
    rw [Bool.and_eq_true, Bool.and_eq_true] at h
    refine ⟨z.cps.toList, congrArg V.str (SX.S_tl z).symm, ?_, fun c hc => of_decide_eq_true (List.all_eq_true.mp h.1.2 c hc), ?_⟩
    · rw [Array.length_toList]
      exact Nat.le_trans (of_decide_eq_true h.1.1) (by decide)
    · have := h.2
      cases e : rnN z.cps.toList with
      | none => rfl
      | int n => rw [e] at this; cases this
      | flt x => rw [e] at this; cases this
  | _ => cases h
theorem ok_law {f : Addr} {fd : FuncData} (F : FunD K "law" "law" (defArgs s_law) (defBody s_law) (defScope s_law) [] [] f fd) (B : Blt mg) (T : FlC K mg C) (c_Lwell : Fn P w K mg base CX0 1 "_law_well" ["_law_cell"] [] sp_Lwell) (c_Lfloat : Fn P w K mg base CX0 4 "_law_float" ["_law_well_here"] [] (sp_Lfloat C))
    (c_Lgreat : Fn P w K mg base CX0 2 "_law_great" ["_law_well_here", "_law_bits"] [] sp_Lgreat) (c_Ltext : Fn P w K mg base CX0 4 "_law_text" ["_law_well_here"] [] sp_Ltext) (c_Lbent : Fn P w K mg base CX0 3 "_law_bent" ["_law_well_here", "_law_text_here"] [] sp_Lbent)
    (c_Lright : Fn P w K mg base CX0 9 "_law_right" ["_law_text_here"] [] (sp_Lright C)) (c_Lbackright : Fn P w K mg base CX0 9 "_law_back_right" ["_law_number"] [] (sp_Lback C)) (c_Llongright : Fn P w K mg base CX0 9 "_law_long_right" [] [] sp_Llong)
    (c_readnumber : CRd P w K mg base C) (c_same : Fn P w K mg base CX0 4 "same" ["one", "other"] [] sp_sameI) : FnOk P w K mg base CX0 10 f fd ["_law_script"] (spLaw K) := by
  refine F.ok sc_law (fun vs H Q E h => ?_) (fun cdv A outer s H vs Q E hr h => ?_)
  · obtain ⟨a, ns, rfl, _⟩ := h; rfl
  · obtain ⟨a, ns, rfl, hS, hlen, q⟩ := h
    refine ⟨_, PSs.nox (pss_cons (ps_if (pt_not (pt_val (pe_fn0 c_Llongright (hr.mono (by first | decide | omega)) pass0))) (pss_one (ps_ret pe_bl)) pss_nil)
  (pss_cons (ps_for PassesOwn.never rfl (pi_list (pe_slice sl_lstN (pe_op op_oAdd (pv 0) (pe_lstN (pa_cons pe_int pa_nil))) po_none (po_some pe_int))) (pg_name (i := 1) sc_law.nd rfl (Or.inl rfl))
    (pss_cons (ps_set (i := 2) sc_law.nd rfl (Or.inl rfl) (pe_fn c_Lwell (hr.mono (by first | decide | omega)) pass0 (pa_cons (pv 1) pa_nil)))
  (pss_cons (ps_for PassesOwn.never rfl (pi_range1 (by rfl) B.range (pa_cons pe_int pa_nil)) (pg_name (i := 3) sc_law.nd rfl (Or.inl rfl))
    (pss_cons (ps_set (i := 4) sc_law.nd rfl (Or.inl rfl) (pe_fn c_Ltext (hr.mono (by first | decide | omega)) pass0 (pa_cons (pv 2) pa_nil)))
  (pss_cons (ps_set (i := 5) sc_law.nd rfl (Or.inl rfl) (pe_fn c_Lbent (hr.mono (by first | decide | omega)) pass0 (pa_cons (pv 2) (pa_cons (pv 4) pa_nil))))
  (pss_one (ps_if (PW.pt (pw_or (pt_not (pt_val (pe_fn c_Lright (hr.mono (by first | decide | omega)) pass0 (pa_cons (pv 4) pa_nil)))) (pw_or (pt_not (pt_val (pe_fn c_Lright (hr.mono (by first | decide | omega)) pass0 (pa_cons (pv 5) pa_nil)))) (pw_or1 (pt_not (pt_val (pe_fn c_Lright (hr.mono (by first | decide | omega)) pass0 (pa_cons (pe_fn c_Lbent (hr.mono (by first | decide | omega)) pass0 (pa_cons (pv 2) (pa_cons (pv 5) pa_nil))) pa_nil)))))))) (pss_one (ps_ret pe_bl)) pss_nil)))))
  (pss_one (ps_if (PW.pt (pw_or (pt_not (pt_val (pe_fn c_Lbackright (hr.mono (by first | decide | omega)) pass0 (pa_cons (pe_fn c_Lfloat (hr.mono (by first | decide | omega)) pass0 (pa_cons (pv 2) pa_nil)) pa_nil)))) (pw_or1 (pt_not (pt_val (pe_fn c_Lbackright (hr.mono (by first | decide | omega)) pass0 (pa_cons (pe_op op_oSub (pe_fn c_Lgreat (hr.mono (by first | decide | omega)) pass0 (pa_cons (pv 2) (pa_cons pe_int pa_nil))) (pe_op op_oShl pe_int pe_int)) pa_nil))))))) (pss_one (ps_ret pe_bl)) pss_nil)))))
  (pss_cons (ps_set (i := 6) sc_law.nd rfl (Or.inl rfl) (pe_lstN (pa_cons pe_str (pa_cons pe_str (pa_cons pe_str (pa_cons pe_str (pa_cons pe_str (pa_cons pe_str (pa_cons pe_str (pa_cons pe_str (pa_cons pe_str (pa_cons pe_str (pa_cons pe_str (pa_cons pe_str (pa_cons pe_str (pa_cons pe_str (pa_cons pe_str pa_nil)))))))))))))))))
  (pss_cons (ps_set (i := 6) sc_law.nd rfl (Or.inl rfl) (pe_op op_oAdd (pv 6) (pe_lstN (pa_cons pe_str (pa_cons pe_str pa_nil)))))
  (pss_cons (ps_if (pt_cmpR (op_neE hr.units) (pe_lc (own := [("_law_text_here", 4)]) (g := gName 4) rfl sc_law.nd (pi_list (pv 6)) (blkOk_by (own := [("_law_text_here", 4)]) (N := ["_law_script", "_law_cell", "_law_well_here", "_law_turn", "_law_text_here", "_law_near", "_law_odd", "_law_some"]) (sc := defScope s_law) (by decide +kernel)) (fun _ _ _ _ _ => pg_name (i := 4) sc_law.nd rfl (Or.inl rfl)) (fun _ _ _ _ _ => (pts_one (pt_cmpR op_notN (pe_fn c_readnumber (hr.mono (by first | decide | omega)) pass0 (pa_cons (pv 4) pa_nil)) pe_non (nomark _)))) (fun _ _ _ _ _ => (pv 4))) (pe_lstN pa_nil) (nomark _)) (pss_one (ps_ret pe_bl)) pss_nil)
  (pss_cons (ps_set (i := 7) sc_law.nd rfl (Or.inl rfl) (pe_lstN (pa_cons pe_str (pa_cons pe_str (pa_cons pe_str (pa_cons pe_str (pa_cons pe_str (pa_cons (pe_op op_oAdd (pe_op op_oAdd pe_str (pe_op op_mulT pe_str pe_int)) pe_str) (pa_cons (pe_op op_mulT pe_str pe_int) pa_nil)))))))))
  (pss_cons (ps_set (i := 7) sc_law.nd rfl (Or.inl rfl) (pe_op op_oAdd (pv 7) (pe_lstN (pa_cons (pe_op op_oAdd pe_str (pe_op op_mulT pe_str pe_int)) (pa_cons (pe_op op_oAdd (pe_op op_oAdd pe_str (pe_op op_mulT pe_str pe_int)) pe_str) (pa_cons (pe_op op_oAdd (pe_op op_oAdd pe_str (pe_op op_mulT pe_str pe_int)) pe_str) (pa_cons pe_str pa_nil)))))))
  (pss_cons (ps_expr (pe_bm PySem.F.plainAttrs_list PySem.F.slot_list_append PySem.F.type_list_append mt_append (pv 7) (pa_cons (pe_op op_oAdd (pe_op op_oAdd pe_str (pe_op op_mulT pe_str pe_int)) pe_str) pa_nil)))
  (pss_one (ps_ret (pe_and (pe_cmpR (op_eqE hr.units) (pe_lc (own := [("_law_text_here", 4)]) (g := gName 4) rfl sc_law.nd (pi_list (pv 7)) (blkOk_by (own := [("_law_text_here", 4)]) (N := ["_law_script", "_law_cell", "_law_well_here", "_law_turn", "_law_text_here", "_law_near", "_law_odd", "_law_some"]) (sc := defScope s_law) (by decide +kernel)) (fun _ _ _ _ _ => pg_name (i := 4) sc_law.nd rfl (Or.inl rfl)) (fun _ _ _ _ _ => (pts_one (pt_not (pt_val (pe_fn c_Lright (hr.mono (by first | decide | omega)) pass0 (pa_cons (pv 4) pa_nil)))))) (fun _ _ _ _ _ => (pv 4))) (pe_lstN pa_nil) (nomark _)) (pe_one (pe_fn c_same (hr.mono (by first | decide | omega)) pass0 (pa_cons (pe_fn c_readnumber (hr.mono (by first | decide | omega)) pass0 (pa_cons pe_str pa_nil)) (pa_cons pe_int pa_nil))))))))))))))), ?_⟩
    walk_at "f"
    refine ⟨rfl, fun H0 s0 => ?_⟩
    walk_at "f"
    refine g_nt ?_
    walk_at "f"
    refine g_new (sz rfl) fun l1 H1 n1 s1 h1 _ => ?_
    replace s1 := s0.trans s1
    refine .inl ⟨a, l1, _, _, rfl, rfl, s1.seq hS, SqL.of h1, ?_, fun l2 H2 n2 s2 h2 _ => ?_⟩
    · rw [List.length_map]
      exact Nat.le_trans (Nat.add_le_add hlen (Nat.le_refl 1)) (by decide)
    walk_at "f"
    refine ⟨l2, _, rfl, SqL.of h2, fun l3 H3 n3 s3 h3 _ => ?_⟩
    refine ⟨l3, rfl, ⟨_, SqL.of h3⟩, ?_⟩
    refine for_list (K := K) (a := l3) (xs := cutV (ns.map V.int ++ [V.int 0]) none (some 8)) (fun i σ' H' => ∃ e1 e2 e3 e4 e5 e6 e7, σ' = [some (.ref a), e1, e2, e3, e4, e5, e6, e7] ∧ Same H3 H') ⟨_, _, _, _, _, _, _, rfl, Same.refl _⟩ ?_ ?_ ?_
    · rintro i _ H' _ ⟨_, _, _, _, _, _, _, _, sH⟩
      exact SqL.of (sH _ _ h3)
    · rintro i z _ H4 hz ⟨e1, e2, e3, e4, e5, e6, e7, rfl, s4⟩
      obtain ⟨c, rfl⟩ := cells_int z (List.mem_of_getElem? hz)
      walk_at "f"
      refine ⟨c, rfl, fun wl H5 n5 s5 hw5 => ?_⟩
      have tot : ∀ H', Stp wl H5 H' → Same H4 H' := fun H' st b o e => st b o (ne_of_none e n5) (s5 _ _ e)
      walk_at "f"
      refine ⟨by decide, by decide, ?_⟩
      refine for_range (fun i σ' H' => ∃ e3 e4 e5 e6 e7, σ' = [some (.ref a), some (.int c), some (.ref wl), e3, e4, e5, e6, e7] ∧ Stp wl H5 H' ∧ Well H' wl) ⟨_, _, _, _, _, rfl, Stp.refl _ _, hw5⟩ ?_ ?_
      · rintro i _ H6 hi ⟨e3, e4, e5, e6, e7, rfl, s6, hw6⟩
        walk_at "f"
        refine ⟨wl, rfl, hw6, fun v1 H7 t7 s7 hw7 => ?_⟩
        have S := s6.trans s7
        walk_at "f"
        refine ⟨wl, 200, v1, rfl, by decide, t7, hw7, fun v2 H8 t8 s8 hw8 => ?_⟩
        replace S := S.trans s8
        obtain ⟨x1, rfl, l1, a1, o1⟩ := good_txa t7 (by decide)
        walk_at "f"
        refine ⟨x1, rfl, l1, a1, o1, lrb l1, fun H9 s9 => ?_⟩
        replace S := S.trans (Stp.of s9)
        have hw9 := hw8.same s9
        walk_at "f"
        refine g_nt ?_
        walk_at "f"
        obtain ⟨x2, rfl, l2, a2, o2⟩ := good_txa t8 (by decide)
        refine ⟨x2, rfl, l2, a2, o2, lrb l2, fun H10 s10 => ?_⟩
        replace S := S.trans (Stp.of s10)
        have hw10 := hw9.same s10
        walk_at "f"
        refine g_nt ?_
        walk_at "f"
        refine ⟨wl, 203, _, rfl, by decide, t8, hw10, fun v3 H11 t11 s11 hw11 => ?_⟩
        replace S := S.trans s11
        obtain ⟨x3, rfl, l3, a3, o3⟩ := good_txa t11 (by decide)
        walk_at "f"
        refine ⟨x3, rfl, l3, a3, o3, lrb l3, fun H12 s12 => ?_⟩
        replace S := S.trans (Stp.of s12)
        have hw12 := hw11.same s12
        walk_at "f"
        refine g_nt ?_
        walk_at "f"
        exact ⟨_, _, _, _, _, rfl, S, hw12⟩
      · rintro _ H6 ⟨e3, e4, e5, e6, e7, rfl, s6, hw6⟩
        walk_at "f"
        refine ⟨wl, rfl, hw6, fun v7 H7 sg7 t7 p7 s7 hw7 f7 => ?_⟩
        replace s6 := s6.trans s7
        walk_at "f"
        refine ⟨v7, _, rfl, f7, fun _ z => (nomatch z), fun H8 s8 => ?_⟩
        replace s6 := s6.trans (Stp.of s8)
        have hw8 := hw7.same s8
        walk_at "f"
        refine g_nt ?_
        walk_at "f"
        refine ⟨wl, 64, rfl, by decide, by decide, hw8, fun g H9 g0 g1 s9 hw9 => ?_⟩
        replace s6 := s6.trans s9
        walk_at "f"
        refine g_II (shl_small (by decide) (by decide) (lt_pow_mono (a := 1) (by decide) (by decide))) ?_
        walk_at "f"
        rw [show (1 : Int) * 2 ^ Int.toNat 63 = 9223372036854775808 by decide]
        have g1 : g < 18446744073709551616 := g1
        refine ⟨_, .i (g - 9223372036854775808), rfl, rfl, fun i z => by cases z; omega, fun H10 s10 => ?_⟩
        replace s6 := s6.trans (Stp.of s10)
        walk_at "f"
        refine g_nt ?_
        walk_at "f"
        exact ⟨_, _, _, _, _, _, _, rfl, s4.trans (tot _ s6)⟩
    · rintro _ H4 ⟨e1, e2, e3, e4, e5, e6, e7, rfl, s4⟩
      walk_at "f"
      refine g_new (sz rfl) fun p1 H5 n5 s5 h5 _ => ?_
      walk_at "f"
      refine g_new (sz rfl) fun p2 H6 n6 s6 h6 _ => ?_
      refine .inl ⟨p1, p2, _, _, rfl, rfl, SqL.of (s6 _ _ h5), SqL.of h6, (sz rfl), fun p3 H7 n7 s7 h7 _ => ?_⟩
      have ood : ∀ v ∈ ([V.str "", .str " ", .str "-", .str "+-1", .str "- 1", .str "1 2", .str "0x", .str "0x1.", .str "0x1p4", .str "inf", .str "-inf", .str "nan", .str "1e", .str "1e+", .str "."] ++ [.str "e5", .str "1.2.3"] : List V), oddB v = true := List.all_eq_true.mp (by decide +kernel)
      generalize ([V.str "", .str " ", .str "-", .str "+-1", .str "- 1", .str "1 2", .str "0x", .str "0x1.", .str "0x1p4", .str "inf", .str "-inf", .str "nan", .str "1e", .str "1e+", .str "."] ++ [.str "e5", .str "1.2.3"] : List V) = os at *
      walk_at "f"
      refine ⟨p3, rfl, ⟨_, SqL.of h7⟩, fun D nD => ?_⟩
      refine lc_list (K := K) (a := p3) (xs := os) (fun i H' => Same H7 H' ∧ H' D = some (.lst [])) ⟨upd_sm (Same.refl _) nD, upd_same⟩ ?_ ?_ ?_
      · rintro i H' _ ⟨t1, _⟩
        exact SqL.of (t1 _ _ h7)
      · rintro i z H' hz ⟨t1, d1⟩
        obtain ⟨l, rfl, hl, ha, er⟩ := odd_ok (ood z (List.mem_of_getElem? hz))
        walk_at "f"
        refine ⟨rfl, ?_⟩
        walk_at "f"
        refine ⟨l, rfl, hl, ha, fun H8 u s8 h8 => ?_⟩
        rw [er] at h8
        have h8 : u = .non := h8
        subst h8
        walk_at "f"
        rw [decide_eq_true rfl]
        exact iteF ⟨t1.trans s8, s8 _ _ d1⟩
      · rintro H' ⟨t1, d1⟩
        walk_at "f"
        refine g_new (sz rfl) fun a2 H21 na s21 ha _ => ?_
        refine g_neE (s21 _ _ d1) ha ?_
        refine ⟨false, rfl, ?_⟩
        walk_at "f"
        refine g_mulT (by decide) (by decide) (by decide +kernel) (by decide +kernel) ?_
        rw [rep400]
        walk_at "f"
        refine g_catZ (a := [48, 46]) (b := List.replicate 400 48) (by first | rfl | decide +kernel) (by first | rfl | decide +kernel) (by decide +kernel) ?_
        walk_at "f"
        refine g_catZ (a := [48, 46] ++ List.replicate 400 48) (b := [49]) (by first | rfl | decide +kernel) (by first | rfl | decide +kernel) (by decide +kernel) ?_
        walk_at "f"
        refine g_mulT (by decide) (by decide) (by decide +kernel) (by decide +kernel) ?_
        rw [rep900]
        walk_at "f"
        refine g_new (sz rfl) fun q1 G1 m1 u1 k1 _ => ?_
        walk_at "f"
        refine g_mulT (by decide) (by decide) (by decide +kernel) (by decide +kernel) ?_
        rw [rep99]
        walk_at "f"
        refine g_catZ (a := [48, 120]) (b := List.replicate 99 102) (by first | rfl | decide +kernel) (by first | rfl | decide +kernel) (by decide +kernel) ?_
        walk_at "f"
        refine g_mulT (by decide) (by decide) (by decide +kernel) (by decide +kernel) ?_
        rw [repZ9]
        walk_at "f"
        refine g_catZ (a := [49]) (b := Z9) (by first | rfl | decide +kernel) (by first | rfl | decide +kernel) (by decide +kernel) ?_
        walk_at "f"
        refine g_catZ (a := [49] ++ Z9) (b := [101, 45, 57, 48, 48]) (by first | rfl | decide +kernel) (by first | rfl | decide +kernel) (by decide +kernel) ?_
        walk_at "f"
        refine g_mulT (by decide) (by decide) (by decide +kernel) (by decide +kernel) ?_
        rw [repZ9]
        walk_at "f"
        refine g_catZ (a := [48, 46, 53]) (b := Z9) (by first | rfl | decide +kernel) (by first | rfl | decide +kernel) (by decide +kernel) ?_
        walk_at "f"
        refine g_catZ (a := [48, 46, 53] ++ Z9) (b := [49]) (by first | rfl | decide +kernel) (by first | rfl | decide +kernel) (by decide +kernel) ?_
        walk_at "f"
        refine g_new (sz rfl) fun q2 G2 m2 u2 k2 _ => ?_
        walk_at "f"
        refine .inl ⟨q1, q2, _, _, rfl, rfl, SqL.of (u2 _ _ k1), SqL.of k2, (sz rfl), fun q3 G3 m3 u3 k3 _ => ?_⟩
        walk_at "f"
        refine g_bm ?_
        walk_at "f"
        refine ⟨tyL k3, ?_⟩
        walk_at "f"
        refine g_mulT (by decide) (by decide) (by decide +kernel) (by decide +kernel) ?_
        rw [repZ9]
        walk_at "f"
        refine g_catZ (a := N9) (b := Z9) (by first | rfl | decide +kernel) (by first | rfl | decide +kernel) (by decide +kernel) ?_
        walk_at "f"
        refine g_catZ (a := N9 ++ Z9) (b := [49, 101, 45, 57, 48, 48]) (by first | rfl | decide +kernel) (by first | rfl | decide +kernel) (by decide +kernel) ?_
        walk_at "f"
        refine g_app k3 (Nat.lt_of_lt_of_le (Nat.le_refl 12) (sz rfl)) fun G4 k4 oth => ?_
        have good : ∀ v ∈ (([V.str "1e400", .str "-1e400", .str "1e-400", .str "1e99999999999", .str "0e99999999999", .str (Sx ([48, 46] ++ List.replicate 400 48 ++ [49])), .str (Sx (List.replicate 900 57))] ++ [.str (Sx ([48, 120] ++ List.replicate 99 102)), .str (Sx ([49] ++ Z9 ++ [101, 45, 57, 48, 48])), .str (Sx ([48, 46, 53] ++ Z9 ++ [49])), .str "9007199254740993"]) ++ [.str (Sx (N9 ++ Z9 ++ [49, 101, 45, 57, 48, 48]))] : List V), GoodT v := by
          intro v hv
          simp only [List.mem_append, List.mem_cons, List.not_mem_nil, or_false, or_assoc] at hv
          have sm : ∀ {x : V}, txB 800 x = true → GoodT x := fun {x} h => good_txa (txa_all (zs := [x]) List.mem_cons_self (List.all_eq_true.mpr fun y hy => by rw [List.mem_singleton.mp hy]; exact h)) (Nat.le_refl _)
          rcases hv with rfl | rfl | rfl | rfl | rfl | rfl | rfl | rfl | rfl | rfl | rfl | rfl
          · exact sm (by decide +kernel)
          · exact sm (by decide +kernel)
          · exact sm (by decide +kernel)
          · exact sm (by decide +kernel)
          · exact sm (by decide +kernel)
          · exact good_Sx (by decide +kernel) (by decide +kernel) (rd_ok _ (by decide +kernel))
          · exact good_Sx (by decide +kernel) (by decide +kernel) ok9
          · exact good_Sx (by decide +kernel) (by decide +kernel) (rd_ok _ (by decide +kernel))
          · exact good_Sx (by decide +kernel) (by decide +kernel) okA
          · exact good_Sx (by decide +kernel) (by decide +kernel) okB
          · exact sm (by decide +kernel)
          · exact good_Sx (by decide +kernel) (by decide +kernel) okC
        generalize (([V.str "1e400", .str "-1e400", .str "1e-400", .str "1e99999999999", .str "0e99999999999", .str (Sx ([48, 46] ++ List.replicate 400 48 ++ [49])), .str (Sx (List.replicate 900 57))] ++ [.str (Sx ([48, 120] ++ List.replicate 99 102)), .str (Sx ([49] ++ Z9 ++ [101, 45, 57, 48, 48])), .str (Sx ([48, 46, 53] ++ Z9 ++ [49])), .str "9007199254740993"]) ++ [.str (Sx (N9 ++ Z9 ++ [49, 101, 45, 57, 48, 48]))] : List V) = gs at *
        walk_at "f"
        refine ⟨q3, rfl, ⟨_, SqL.of k4⟩, fun D nD => ?_⟩
        refine lc_list (K := K) (a := q3) (xs := gs) (fun i H' => Same G4 H' ∧ H' D = some (.lst [])) ⟨upd_sm (Same.refl _) nD, upd_same⟩ ?_ ?_ ?_
        · rintro i H' _ ⟨t1, _⟩
          exact SqL.of (t1 _ _ k4)
        · rintro i z H' hz ⟨t1, d1⟩
          obtain ⟨l, rfl, hl, ha, ok⟩ := good z (List.mem_of_getElem? hz)
          walk_at "f"
          refine ⟨rfl, ?_⟩
          walk_at "f"
          refine ⟨l, rfl, hl, ha, ok, lrb hl, fun H8 s8 => ?_⟩
          walk_at "f"
          exact ⟨t1.trans s8, s8 _ _ d1⟩
        · rintro H' ⟨t1, d1⟩
          walk_at "f"
          refine g_new (sz rfl) fun a2 H21 na s21 ha _ => ?_
          refine g_eqE (s21 _ _ d1) ha ?_
          refine ⟨true, rfl, ?_⟩
          walk_at "f"
          refine ⟨[48, 120, 49, 48], by decide +kernel, by decide, by decide, fun H22 u s22 h22 => ?_⟩
          have h22 : RdAt C H22 u (.int 16) := h22
          have h22 : u = .int 16 := h22
          subst h22
          walk_at "f"
          refine ⟨16, 16, rfl, by decide, by decide, fun H23 s23 => ?_⟩
          exact q _
end
end Up

set_option Elab.async false
set_option linter.all false
set_option maxRecDepth 100000
set_option maxHeartbeats 4000000
namespace Up
open PySem PySem.Spec PyProof.Rows L2
/-! ### what the head's one Bool says of a class -/
theorem ownB_ok {K : PySem.W.Frag} {C : Addr} (h : ownB K C = true) : OwnC K C := by
  unfold ownB at h
  simp only [Bool.and_eq_true, decide_eq_true_eq] at h
  obtain ⟨h1, h2, h3, h4, h5, h6, h7, h8, h9, h10, h11⟩ := h
  exact ⟨⟨h1, h2, h3, h4⟩, h5, h6, h7, h8, h9, h10, h11⟩
theorem idB_ok {K : PySem.W.Frag} {C : Addr} (h : idB K C = true) : IdC K C := by
  unfold idB at h
  simp only [Bool.and_eq_true, decide_eq_true_eq] at h
  exact ⟨h.1, h.2.1, h.2.2⟩
theorem noB_ok {K : PySem.W.Frag} {C : Addr} {xs : List Str} (h : noB K C xs = true) {f : Str} (hf : f ∈ xs) : NoAttr K C f := by
  have e := List.all_eq_true.mp h f hf
  exact of_decide_eq_true (p := PySem.W.findIn K (.ref C) f = some none) e
theorem kitB'_ok {K : PySem.W.Frag} {C : Addr} {b : Bool} {xs : List Value} (h : kitB' K C b xs = true) {t : Value} (ht : t ∈ xs) : PySem.W.kitOne K t (.ref C) = some b := of_decide_eq_true (List.all_eq_true.mp h t ht)
section
variable {P : Program} {w : World} {K : PySem.W.Frag} {mg : Str → Option Value} {base : Heap}
/-- a def by its promise, from the head's facts -/
theorem fn_mk {CX : CXT} {k : Nat} {x y qual : Str} {params : Arguments} {body : List Stmt} {scope : Scope} {f : Addr} {fd : FuncData} {ps : List Str} {sp : Sp} (F : FunD K y qual params body scope [] [] f fd) (hm : mg x = some (.ref f)) (ok : FnOk P w K mg base CX k f fd ps sp)
    (h : ∀ (kV doc pm : Value) (an : Option Addr) (cdv ct : Value) (us : List Value), us.length = ps.length → bindArgs (PySem.W.fnOf y qual params body scope .none kV doc pm an cdv ct) ⟨us, []⟩ = pure (ps.zip us)) : Fn P w K mg base CX k x ps [] sp :=
  ⟨f, fd, [], ok, hm, F.kp, F.bindsN h, .nil⟩
theorem mt_mk {CX : CXT} {k : Nat} {m qual : Str} {params : Arguments} {body : List Stmt} {scope : Scope} {f C : Addr} {fd : FuncData} {ps : List Str} {sp : Sp} (F : FunD K m qual params body scope [] [] f fd) (hm : Meth K C m f) (cl : Cls K C) (ok : FnOk P w K mg base CX k f fd ps sp)
    (h : ∀ (kV doc pm : Value) (an : Option Addr) (cdv ct : Value) (us : List Value), us.length = ps.length → bindArgs (PySem.W.fnOf m qual params body scope .none kV doc pm an cdv ct) ⟨us, []⟩ = pure (ps.zip us)) : Mt P w K mg base CX k C m ps sp :=
  ⟨f, fd, ok, hm, F.bindsN h, cl⟩
theorem cn_mk {CX : CXT} {k : Nat} {x qual : Str} {params : Arguments} {body : List Stmt} {scope : Scope} {f C : Addr} {fd : FuncData} {ps : List Str} {sp : Sp} (F : FunD K "__init__" qual params body scope [] [] f fd) (hM : Mk K C f) (hm : mg x = some (.ref C)) (ok : FnOk P w K mg base CX k f fd ps sp)
    (h : ∀ (kV doc pm : Value) (an : Option Addr) (cdv ct : Value) (us : List Value), us.length = ps.length → bindArgs (PySem.W.fnOf "__init__" qual params body scope .none kV doc pm an cdv ct) ⟨us, []⟩ = pure (ps.zip us)) : Cn P w K mg base CX k x C ps [] sp :=
  ⟨f, fd, [], ok, hM, hm, F.bindsN h, .nil⟩
end
end Up

set_option Elab.async false
set_option linter.all false
set_option maxRecDepth 100000
set_option maxHeartbeats 0
set_option pp.maxSteps 300
namespace Up
open PySem PySem.Spec PyProof.Rows L2
theorem facts {P : Program} {w : World} {K : PySem.W.Frag} {h : Heap} {mg : Str → Option Value} {f : Addr} (X : K.In h) (G : h.Ns mainGlobals mg) (hfa' : mg ("law" : Str) = some (.ref f)) (cs : He.SaysX hfa hfn [] [] hex w h K) :
    ∃ fd : FuncData, (∀ (s : Shared) (v : Value), BindsTo s fd ⟨[v], []⟩ [("_law_script", v)]) ∧ ∀ base : Heap, K.In base → base.Ns mainGlobals mg → FnOk P w K mg base CX0 10 f fd ["_law_script"] (spLaw K) := by
  have c := cs.t.d
  have glo : ∀ x ∈ hglo, mg x = some (.ref (He.ga K x)) := fun x hx => He.glo_ok X G (c.facts (f := .glo x) (List.mem_append_left _ (List.mem_map_of_mem hx)))
  have B : Blt mg := blt_of fun x hx => He.free_ok X G (c.facts (f := .free x) (List.mem_append_right _ (List.mem_append_left _ (List.mem_map_of_mem hx))))
  have i_ROOM : ∃ t, mg "ROOM" = some (.int (9007199254740992) t) := He.int_ok X G (c.facts (f := .int "ROOM" (9007199254740992)) (List.mem_append_right _ (List.mem_append_right _ (by simp))))
  have i_LOWEST : ∃ t, mg "LOWEST" = some (.int (-1074) t) := He.int_ok X G (c.facts (f := .int "LOWEST" (-1074)) (List.mem_append_right _ (List.mem_append_right _ (by simp))))
  have i_TOO_GREAT : ∃ t, mg "TOO_GREAT" = some (.int (1024) t) := He.int_ok X G (c.facts (f := .int "TOO_GREAT" (1024)) (List.mem_append_right _ (List.mem_append_right _ (by simp))))
  have i_SHOWN : ∃ t, mg "SHOWN" = some (.int (14) t) := He.int_ok X G (c.facts (f := .int "SHOWN" (14)) (List.mem_append_right _ (List.mem_append_right _ (by simp))))
  have i_MOST : ∃ t, mg "MOST" = some (.int (9223372036854775807) t) := He.int_ok X G (c.facts (f := .int "MOST" (9223372036854775807)) (List.mem_append_right _ (List.mem_append_right _ (by simp))))
  have mk_Float := He.mkr_ok (c.facts (f := .mkr "Float") (List.mem_append_right _ (List.mem_append_right _ (by simp))))
  have mt_Float_isfinite := He.meth_ok (c.facts (f := .meth "Float" "is_finite") (List.mem_append_right _ (List.mem_append_right _ (by simp))))
  have mt_Float_ratio := He.meth_ok (c.facts (f := .meth "Float" "ratio") (List.mem_append_right _ (List.mem_append_right _ (by simp))))
  have mt_Float_eq := He.meth_ok (c.facts (f := .meth "Float" "__eq__") (List.mem_append_right _ (List.mem_append_right _ (by simp))))
  have ex := cs.more
  unfold hex at ex
  simp only [Bool.and_eq_true] at ex
  obtain ⟨x1, ⟨x2, x3, x4, x5⟩, x6⟩ := ex
  have x5 := of_decide_eq_true x5
  have T : FlC K mg (He.ga K "Float") := {
    own := ownB_ok x1, nS := noB_ok x2 (by simp), nT := noB_ok x2 (by simp), nP := noB_ok x2 (by simp), mg := glo "Float" (by simp [hglo]), yes := kitB'_ok x3 (by simp)
    fi := kitB'_ok x4 (by simp), fb := kitB'_ok x4 (by simp), fs := kitB'_ok x4 (by simp), fn := kitB'_ok x4 (by simp), fl := kitB'_ok x4 (by simp), ft := kitB'_ok x4 (by simp), fd := kitB'_ok x4 (by simp) }
  have hD : PySem.W.nsIn K cStatics "sys.int_max_str_digits" = some none := by
    split at x6
    · assumption
    · cases x6
  have i_FIGURES : ∃ t, mg "FIGURES" = some (.str "0123456789" t) := He.str_ok X G (c.facts (f := .str "FIGURES" "0123456789") (List.mem_append_right _ (List.mem_append_right _ (by simp))))
  have i_HEX : ∃ t, mg "HEX" = some (.str "0123456789abcdef" t) := He.str_ok X G (c.facts (f := .str "HEX" "0123456789abcdef") (List.mem_append_right _ (List.mem_append_right _ (by simp))))
  have i_BLANKS : ∃ t, mg "BLANKS" = some (.str " \t\n" t) := He.str_ok X G (c.facts (f := .str "BLANKS" " \t\n") (List.mem_append_right _ (List.mem_append_right _ (by simp))))
  obtain ⟨f_isplain, F_isplain⟩ := c.defs (d := d_isplain) (by simp [hfn])
  obtain ⟨f_reduced, F_reduced⟩ := c.defs (d := d_reduced) (by simp [hfn])
  obtain ⟨f_fits, F_fits⟩ := c.defs (d := d_fits) (by simp [hfn])
  obtain ⟨f_signof, F_signof⟩ := c.defs (d := d_signof) (by simp [hfn])
  obtain ⟨f_Float_init, F_Float_init⟩ := c.defs (d := d_Float_init) (by simp [hfn])
  obtain ⟨f_Float_isfinite, F_Float_isfinite⟩ := c.defs (d := d_Float_isfinite) (by simp [hfn])
  obtain ⟨f_Float_ratio, F_Float_ratio⟩ := c.defs (d := d_Float_ratio) (by simp [hfn])
  obtain ⟨f_Float_eq, F_Float_eq⟩ := c.defs (d := d_Float_eq) (by simp [hfn])
  obtain ⟨f_infinity, F_infinity⟩ := c.defs (d := d_infinity) (by simp [hfn])
  obtain ⟨f_nearest, F_nearest⟩ := c.defs (d := d_nearest) (by simp [hfn])
  obtain ⟨f_isnumber, F_isnumber⟩ := c.defs (d := d_isnumber) (by simp [hfn])
  obtain ⟨f_wrapped, F_wrapped⟩ := c.defs (d := d_wrapped) (by simp [hfn])
  obtain ⟨f_placeof, F_placeof⟩ := c.defs (d := d_placeof) (by simp [hfn])
  obtain ⟨f_orderof, F_orderof⟩ := c.defs (d := d_orderof) (by simp [hfn])
  obtain ⟨f_same, F_same⟩ := c.defs (d := d_same) (by simp [hfn])
  obtain ⟨f_tentimes, F_tentimes⟩ := c.defs (d := d_tentimes) (by simp [hfn])
  obtain ⟨f_placeoffirst, F_placeoffirst⟩ := c.defs (d := d_placeoffirst) (by simp [hfn])
  obtain ⟨f_roundedat, F_roundedat⟩ := c.defs (d := d_roundedat) (by simp [hfn])
  obtain ⟨f_shown, F_shown⟩ := c.defs (d := d_shown) (by simp [hfn])
  obtain ⟨f_textof, F_textof⟩ := c.defs (d := d_textof) (by simp [hfn])
  obtain ⟨f_ismadeof, F_ismadeof⟩ := c.defs (d := d_ismadeof) (by simp [hfn])
  obtain ⟨f_readhex, F_readhex⟩ := c.defs (d := d_readhex) (by simp [hfn])
  obtain ⟨f_scaled, F_scaled⟩ := c.defs (d := d_scaled) (by simp [hfn])
  obtain ⟨f_readwhole, F_readwhole⟩ := c.defs (d := d_readwhole) (by simp [hfn])
  obtain ⟨f_readfloat, F_readfloat⟩ := c.defs (d := d_readfloat) (by simp [hfn])
  obtain ⟨f_readnumber, F_readnumber⟩ := c.defs (d := d_readnumber) (by simp [hfn])
  obtain ⟨f_Lwell, F_Lwell⟩ := c.defs (d := d_Lwell) (by simp [hfn])
  obtain ⟨f_Ldraw, F_Ldraw⟩ := c.defs (d := d_Ldraw) (by simp [hfn])
  obtain ⟨f_Lone, F_Lone⟩ := c.defs (d := d_Lone) (by simp [hfn])
  obtain ⟨f_Lgreat, F_Lgreat⟩ := c.defs (d := d_Lgreat) (by simp [hfn])
  obtain ⟨f_Lfinite, F_Lfinite⟩ := c.defs (d := d_Lfinite) (by simp [hfn])
  obtain ⟨f_Lfloat, F_Lfloat⟩ := c.defs (d := d_Lfloat) (by simp [hfn])
  obtain ⟨f_Lscaled, F_Lscaled⟩ := c.defs (d := d_Lscaled) (by simp [hfn])
  obtain ⟨f_Lisnearest, F_Lisnearest⟩ := c.defs (d := d_Lisnearest) (by simp [hfn])
  obtain ⟨f_Lfigures, F_Lfigures⟩ := c.defs (d := d_Lfigures) (by simp [hfn])
  obtain ⟨f_Lhalf, F_Lhalf⟩ := c.defs (d := d_Lhalf) (by simp [hfn])
  obtain ⟨f_Ltext, F_Ltext⟩ := c.defs (d := d_Ltext) (by simp [hfn])
  obtain ⟨f_Lbent, F_Lbent⟩ := c.defs (d := d_Lbent) (by simp [hfn])
  obtain ⟨f_Lrun, F_Lrun⟩ := c.defs (d := d_Lrun) (by simp [hfn])
  obtain ⟨f_Lreadfar, F_Lreadfar⟩ := c.defs (d := d_Lreadfar) (by simp [hfn])
  obtain ⟨f_Lread, F_Lread⟩ := c.defs (d := d_Lread) (by simp [hfn])
  obtain ⟨f_Lright, F_Lright⟩ := c.defs (d := d_Lright) (by simp [hfn])
  obtain ⟨f_Lbackright, F_Lbackright⟩ := c.defs (d := d_Lbackright) (by simp [hfn])
  obtain ⟨f_Llongright, F_Llongright⟩ := c.defs (d := d_Llongright) (by simp [hfn])
  obtain ⟨f_law, F_law⟩ := c.defs (d := d_law) (by simp [hfn])
  have e := hfa'.symm.trans (glo "law" (by simp [hglo]))
  cases e
  have b := FunD.bindsA (ps := ["_law_script"]) F_law fun _ _ _ _ _ _ us hl => match us, hl with | [_], _ => rfl
  refine ⟨f_law, fun s v => b s [v] rfl, fun base _ _ => ?_⟩
  have c_isplain : Fn P w K mg base CX0 1 "is_plain" _ [] _ := fn_mk F_isplain (glo "is_plain" (by simp [hglo])) (ok_isplain F_isplain B) (fun _ _ _ _ _ _ us hl => match us, hl with | [_], _ => rfl)
  have c_reduced : Fn P w K mg base CX0 1 "reduced" _ [] _ := fn_mk F_reduced (glo "reduced" (by simp [hglo])) (ok_reduced F_reduced B) (fun _ _ _ _ _ _ us hl => match us, hl with | [_, _], _ => rfl)
  have c_fits : Fn P w K mg base CX0 1 "fits" _ [] _ := fn_mk F_fits (glo "fits" (by simp [hglo])) (ok_fits F_fits B i_ROOM i_LOWEST i_TOO_GREAT) (fun _ _ _ _ _ _ us hl => match us, hl with | [_, _], _ => rfl)
  have c_signof : Fn P w K mg base CX0 1 "sign_of" _ [] _ := fn_mk F_signof (glo "sign_of" (by simp [hglo])) (ok_signof F_signof) (fun _ _ _ _ _ _ us hl => match us, hl with | [_], _ => rfl)
  have c_Float : Cn P w K mg base CX0 2 "Float" (He.ga K "Float") _ [] _ := cn_mk F_Float_init mk_Float T.mg (ok_Finit F_Float_init B T c_isplain c_reduced c_fits) (fun _ _ _ _ _ _ us hl => match us, hl with | [_, _, _, _], _ => rfl)
  have c_Float_isfinite : Mt P w K mg base CX0 1 (He.ga K "Float") "is_finite" _ _ := mt_mk F_Float_isfinite mt_Float_isfinite T.own.cl (ok_isfinite F_Float_isfinite B T) (fun _ _ _ _ _ _ us hl => match us, hl with | [_], _ => rfl)
  have c_Float_ratio : Mt P w K mg base CX0 1 (He.ga K "Float") "ratio" _ _ := mt_mk F_Float_ratio mt_Float_ratio T.own.cl (ok_ratio F_Float_ratio B T) (fun _ _ _ _ _ _ us hl => match us, hl with | [_], _ => rfl)
  have c_Float_eq : EqC P w K mg base 1 (He.ga K "Float") _ := ⟨_, f_Float_eq, ok_Feq F_Float_eq B T, mt_Float_eq.at_, mt_Float_eq.fn, FunD.bindsN F_Float_eq (fun _ _ _ _ _ _ us hl => match us, hl with | [_, _], _ => rfl), x5, T.own.hm⟩
  have c_infinity : Fn P w K mg base CX0 4 "infinity" _ [] _ := fn_mk F_infinity (glo "infinity" (by simp [hglo])) (ok_infinity F_infinity c_Float) (fun _ _ _ _ _ _ us hl => match us, hl with | [_], _ => rfl)
  have c_nearest : Fn P w K mg base CX0 5 "nearest" _ [] _ := fn_mk F_nearest (glo "nearest" (by simp [hglo])) (ok_nearest F_nearest B i_ROOM i_LOWEST i_TOO_GREAT c_Float c_infinity) (fun _ _ _ _ _ _ us hl => match us, hl with | [_, _, _], _ => rfl)
  have c_isnumber : Fn P w K mg base CX0 2 "is_number" _ [] _ := fn_mk F_isnumber (glo "is_number" (by simp [hglo])) (ok_isnumber F_isnumber B T c_isplain) (fun _ _ _ _ _ _ us hl => match us, hl with | [_], _ => rfl)
  have c_wrapped : Fn P w K mg base CX0 1 "wrapped" _ [] _ := fn_mk F_wrapped (glo "wrapped" (by simp [hglo])) (ok_wrapped F_wrapped) (fun _ _ _ _ _ _ us hl => match us, hl with | [_], _ => rfl)
  have c_placeof : Fn P w K mg base CX0 2 "place_of" _ [] _ := fn_mk F_placeof (glo "place_of" (by simp [hglo])) (ok_placeof F_placeof B T i_TOO_GREAT c_Float_isfinite c_Float_ratio) (fun _ _ _ _ _ _ us hl => match us, hl with | [_], _ => rfl)
  have c_orderof : Fn P w K mg base CX0 3 "order_of" _ [] _ := fn_mk F_orderof (glo "order_of" (by simp [hglo])) (ok_orderof F_orderof B c_placeof) (fun _ _ _ _ _ _ us hl => match us, hl with | [_, _], _ => rfl)
  have c_same : Fn P w K mg base CX0 4 "same" _ [] _ := fn_mk F_same (glo "same" (by simp [hglo])) (ok_sameI F_same B T c_isnumber c_orderof) (fun _ _ _ _ _ _ us hl => match us, hl with | [_, _], _ => rfl)
  have c_tentimes : Fn P w K mg base CX0 1 "ten_times" _ [] _ := fn_mk F_tentimes (glo "ten_times" (by simp [hglo])) (ok_ten F_tentimes) (fun _ _ _ _ _ _ us hl => match us, hl with | [_], _ => rfl)
  have c_placeoffirst : Fn P w K mg base CX0 2 "place_of_first" _ [] _ := fn_mk F_placeoffirst (glo "place_of_first" (by simp [hglo])) (ok_place1 F_placeoffirst B c_tentimes) (fun _ _ _ _ _ _ us hl => match us, hl with | [_, _], _ => rfl)
  have c_roundedat : Fn P w K mg base CX0 2 "rounded_at" _ [] _ := fn_mk F_roundedat (glo "rounded_at" (by simp [hglo])) (ok_round F_roundedat B c_tentimes) (fun _ _ _ _ _ _ us hl => match us, hl with | [_, _, _], _ => rfl)
  have c_shown : Fn P w K mg base CX0 3 "shown" _ [] _ := fn_mk F_shown (glo "shown" (by simp [hglo])) (ok_shown F_shown B i_SHOWN c_Float_ratio c_placeoffirst c_roundedat) (fun _ _ _ _ _ _ us hl => match us, hl with | [_], _ => rfl)
  have c_textof : Fn P w K mg base CX0 4 "text_of" _ [] _ := fn_mk F_textof (glo "text_of" (by simp [hglo])) (ok_textof F_textof B T c_Float c_shown) (fun _ _ _ _ _ _ us hl => match us, hl with | [_], _ => rfl)
  have c_ismadeof : Fn P w K mg base CX0 1 "is_made_of" _ [] _ := fn_mk F_ismadeof (glo "is_made_of" (by simp [hglo])) (ok_ismade F_ismadeof B) (fun _ _ _ _ _ _ us hl => match us, hl with | [_, _], _ => rfl)
  have c_readhex : Fn P w K mg base CX0 2 "read_hex" _ [] _ := fn_mk F_readhex (glo "read_hex" (by simp [hglo])) (ok_readhex F_readhex B i_HEX c_ismadeof c_wrapped) (fun _ _ _ _ _ _ us hl => match us, hl with | [_, _], _ => rfl)
  have c_scaled : Fn P w K mg base CX0 6 "scaled" _ [] _ := fn_mk F_scaled (glo "scaled" (by simp [hglo])) (ok_scaled F_scaled B hD c_signof c_Float c_nearest c_tentimes) (fun _ _ _ _ _ _ us hl => match us, hl with | [_, _, _], _ => rfl)
  have c_readwhole : Fn P w K mg base CX0 7 "read_whole" _ [] _ := fn_mk F_readwhole (glo "read_whole" (by simp [hglo])) (ok_readwhole F_readwhole B i_MOST c_scaled) (fun _ _ _ _ _ _ us hl => match us, hl with | [_, _], _ => rfl)
  have c_readfloat : Fn P w K mg base CX0 7 "read_float" _ [] _ := fn_mk F_readfloat (glo "read_float" (by simp [hglo])) (ok_readfloat F_readfloat B i_FIGURES c_ismadeof c_scaled) (fun _ _ _ _ _ _ us hl => match us, hl with | [_, _], _ => rfl)
  have c_readnumber : Fn P w K mg base CX0 8 "read_number" _ [] _ := fn_mk F_readnumber (glo "read_number" (by simp [hglo])) (ok_readnumber F_readnumber B i_FIGURES i_BLANKS c_ismadeof c_readhex c_readwhole c_readfloat) (fun _ _ _ _ _ _ us hl => match us, hl with | [_], _ => rfl)
  have c_Lwell : Fn P w K mg base CX0 1 "_law_well" _ [] _ := fn_mk F_Lwell (glo "_law_well" (by simp [hglo])) (ok_Lwell F_Lwell B) (fun _ _ _ _ _ _ us hl => match us, hl with | [_], _ => rfl)
  have c_Ldraw : Fn P w K mg base CX0 1 "_law_draw" _ [] _ := fn_mk F_Ldraw (glo "_law_draw" (by simp [hglo])) (ok_Ldraw F_Ldraw B) (fun _ _ _ _ _ _ us hl => match us, hl with | [_, _], _ => rfl)
  have c_Lone : Fn P w K mg base CX0 2 "_law_one" _ [] _ := fn_mk F_Lone (glo "_law_one" (by simp [hglo])) (ok_Lone F_Lone B c_Ldraw) (fun _ _ _ _ _ _ us hl => match us, hl with | [_, _], _ => rfl)
  have c_Lgreat : Fn P w K mg base CX0 2 "_law_great" _ [] _ := fn_mk F_Lgreat (glo "_law_great" (by simp [hglo])) (ok_Lgreat F_Lgreat B c_Ldraw) (fun _ _ _ _ _ _ us hl => match us, hl with | [_, _], _ => rfl)
  have c_Lfinite : Fn P w K mg base CX0 3 "_law_finite" _ [] _ := fn_mk F_Lfinite (glo "_law_finite" (by simp [hglo])) (ok_Lfinite F_Lfinite B c_Ldraw c_Lone c_Lgreat) (fun _ _ _ _ _ _ us hl => match us, hl with | [_], _ => rfl)
  have c_Lfloat : Fn P w K mg base CX0 4 "_law_float" _ [] _ := fn_mk F_Lfloat (glo "_law_float" (by simp [hglo])) (ok_Lfloat F_Lfloat B c_Float c_Ldraw c_Lone c_Lfinite) (fun _ _ _ _ _ _ us hl => match us, hl with | [_], _ => rfl)
  have c_Lscaled : Fn P w K mg base CX0 1 "_law_scaled" _ [] _ := fn_mk F_Lscaled (glo "_law_scaled" (by simp [hglo])) (ok_Lscaled F_Lscaled B) (fun _ _ _ _ _ _ us hl => match us, hl with | [_, _], _ => rfl)
  have c_Lisnearest : Fn P w K mg base CX0 2 "_law_is_nearest" _ [] _ := fn_mk F_Lisnearest (glo "_law_is_nearest" (by simp [hglo])) (ok_Lisnearest F_Lisnearest B T c_Lscaled) (fun _ _ _ _ _ _ us hl => match us, hl with | [_, _, _, _], _ => rfl)
  have c_Lfigures : Fn P w K mg base CX0 3 "_law_figures" _ [] _ := fn_mk F_Lfigures (glo "_law_figures" (by simp [hglo])) (ok_Lfigs F_Lfigures B c_Lone) (fun _ _ _ _ _ _ us hl => match us, hl with | [_, _], _ => rfl)
  have c_Lhalf : Fn P w K mg base CX0 3 "_law_half" _ [] _ := fn_mk F_Lhalf (glo "_law_half" (by simp [hglo])) (ok_Lhalf F_Lhalf B c_Ldraw c_Lone c_Lgreat) (fun _ _ _ _ _ _ us hl => match us, hl with | [_], _ => rfl)
  have c_Ltext : Fn P w K mg base CX0 4 "_law_text" _ [] _ := fn_mk F_Ltext (glo "_law_text" (by simp [hglo])) (ok_Ltext F_Ltext B c_Ldraw c_Lone c_Lfigures c_Lhalf) (fun _ _ _ _ _ _ us hl => match us, hl with | [_], _ => rfl)
  have c_Lbent : Fn P w K mg base CX0 3 "_law_bent" _ [] _ := fn_mk F_Lbent (glo "_law_bent" (by simp [hglo])) (ok_Lbent F_Lbent B c_Ldraw c_Lone) (fun _ _ _ _ _ _ us hl => match us, hl with | [_, _], _ => rfl)
  have c_Lrun : Fn P w K mg base CX0 1 "_law_run" _ [] _ := fn_mk F_Lrun (glo "_law_run" (by simp [hglo])) (ok_Lrun F_Lrun B) (fun _ _ _ _ _ _ us hl => match us, hl with | [_, _, _], _ => rfl)
  have c_Lreadfar : Fn P w K mg base CX0 2 "_law_read_far" _ [] _ := fn_mk F_Lreadfar (glo "_law_read_far" (by simp [hglo])) (ok_Lreadfar F_Lreadfar B hD c_Lrun) (fun _ _ _ _ _ _ us hl => match us, hl with | [_, _, _, _, _], _ => rfl)
  have c_Lread : Fn P w K mg base CX0 3 "_law_read" _ [] _ := fn_mk F_Lread (glo "_law_read" (by simp [hglo])) (ok_Lread F_Lread B hD c_Lrun c_Lreadfar) (fun _ _ _ _ _ _ us hl => match us, hl with | [_], _ => rfl)
  have c_Lright : Fn P w K mg base CX0 9 "_law_right" _ [] _ := fn_mk F_Lright (glo "_law_right" (by simp [hglo])) (ok_Lright F_Lright B T c_Float c_Float_eq c_readnumber c_Lread c_Lisnearest) (fun _ _ _ _ _ _ us hl => match us, hl with | [_], _ => rfl)
  have c_Lbackright : Fn P w K mg base CX0 9 "_law_back_right" _ [] _ := fn_mk F_Lbackright (glo "_law_back_right" (by simp [hglo])) (ok_Lback F_Lbackright B T c_Float c_readnumber c_textof) (fun _ _ _ _ _ _ us hl => match us, hl with | [_], _ => rfl)
  have c_Llongright : Fn P w K mg base CX0 9 "_law_long_right" _ [] _ := fn_mk F_Llongright (glo "_law_long_right" (by simp [hglo])) (ok_Llong F_Llongright B T c_Float c_Float_eq c_readnumber) (fun _ _ _ _ _ _ us hl => match us, hl with | [], _ => rfl)
  exact ok_law F_law B T c_Lwell c_Lfloat c_Lgreat c_Ltext c_Lbent c_Lright c_Lbackright c_Llongright c_readnumber c_same
end Up
open PySem PySem.W PySem.Calls PyProof.Rows
theorem PySem.Challenge.cw_upvalues_k07_whole_numbers_read_from_tex_holds : PySem.Challenge.rw_upvalues_k07_whole_numbers_read_from_tex.Holds := by
  w_on; o_law
  refine HandSHeadRun.head_any (r := OpenLaw.row PySem.Challenge.rw_upvalues_k07_whole_numbers_read_from_tex) (q := view (OpenLaw.row PySem.Challenge.rw_upvalues_k07_whole_numbers_read_from_tex).prog [57]) (H := Up.hk) (ob := Up.hob) (M := 6000) (loose := Up.hloose) (d := HandSHeadRun.topDef (OpenLaw.row PySem.Challenge.rw_upvalues_k07_whole_numbers_read_from_tex).prog 57) (kwd := []) Up.hob_eq
    (by kernel_rfl) (fun s => by kernel_rfl) Up.hrun (by kernel_rfl) (by kernel_rfl) (by kernel_rfl) (by rfl) (by first | assumption | decide +kernel) (by decide +kernel) ⟨rfl, rfl, rfl, rfl, rfl, by decide +kernel⟩ ?hw ?hc
  case hw => w_witness2
  case hc =>
    refine L2.walk_ofE (l := PySem.Challenge.rw_upvalues_k07_whole_numbers_read_from_tex) (n := 63) (k := 10) (x := "_law_script") (CX := L2.CX0) rfl (by decide) (by kernel_rfl) ⟨rfl, by decide, by decide⟩ ?F (fun _ _ _ _ z => z)
    intro w mg fa h Y G hmg0
    obtain ⟨K, KX, c⟩ := Y
    have hmg : mg ("law" : PySem.Str) = some (.ref fa) := by
      have e : (HandSHeadRun.topDef (OpenLaw.row PySem.Challenge.rw_upvalues_k07_whole_numbers_read_from_tex).prog 57).name = ("law" : PySem.Str) := by kernel_rfl
      rw [← e]
      exact hmg0
    obtain ⟨fd, hb, hF⟩ := Up.facts (P := (PySem.Challenge.rw_upvalues_k07_whole_numbers_read_from_tex).prog) (w := w) KX G hmg c
    exact ⟨K, fd, Up.spLaw K, KX, hb, fun H a ns hl _ hS => ⟨a, ns, rfl, hS, hl, fun _ => rfl⟩, hF⟩
#print axioms PySem.Challenge.cw_upvalues_k07_whole_numbers_read_from_tex_holds
