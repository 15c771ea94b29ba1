import PyProof.Rows.All
import Wide.All
import OpenK.AllK
import Wide.FinOn
import PyProof.EqAt
import PyProof.EqKinds
import PyProof.TupleCall
import HandS.ForMost
import HandS.IsInst
import HandS.Wide
import HandS.WideBits
import HandS.TupAny
import HandS.Deep
import HandS.Flow
import HandS.Defaults
import HandS.Exc
import HandS.WordsExc
import HandS.Codes
import HandS.More
import HandS.Style
import KE.KExcInit
import KE.KExcSuper
import HandS.ExcInit
import HandS.ExcField
import HandS.ExcIs
import PyProof.NeKinds
import HandS.Walk
import HandS.Lambda
import HandS.EndTab
import HandS.HeadWalk
import HandS.HeadHook4
import PyProof.StrOps2
import KE.KStateDown
import HandS.Head0
import HandS.Head1
import HandS.Head2
import HandS.HeadEnd
import HandS.HeadHook1
import HandS.HeadHook2
import HandS.HeadHook3
import PySem.Challenge.RW_upvalues_k01_floats_by_their_parts
set_option Elab.async false
set_option linter.all false
set_option maxRecDepth 100000
set_option maxHeartbeats 4000000
namespace Up
open PySem PySem.Spec PyProof.Rows L2
def top (i : Nat) : Stmt := PySem.Challenge.pw_upvalues_k01_floats_by_their_parts.main.body.getD i (.Pass ⟨0, 0, 0, 0⟩)
def bltNames : List Str := ["len", "int", "bool", "str", "isinstance", "abs", "max", "min", "divmod", "range", "enumerate", "zip", "list", "tuple", "ord", "sorted"]
abbrev s_isplain : Stmt := top 11
abbrev s_reduced : Stmt := top 12
abbrev s_fits : Stmt := top 13
abbrev s_signof : Stmt := top 14
abbrev s_Float_init : Stmt := inClass (top 10) 0
abbrev s_Float_isfinite : Stmt := inClass (top 10) 4
abbrev s_Float_ratio : Stmt := inClass (top 10) 5
abbrev s_infinity : Stmt := top 15
abbrev s_nearest : Stmt := top 16
abbrev aeT : List Value := [.type "ArithmeticError", .type "Exception", .type "BaseException", .type "object"]
abbrev s_InvalidArgument_init : Stmt := inClass (top 3) 0
abbrev s_tofloat : Stmt := top 18
abbrev s_Lwell : Stmt := top 21
abbrev s_Ldraw : Stmt := top 22
abbrev s_Lone : Stmt := top 23
abbrev s_Lgreat : Stmt := top 24
abbrev s_Lfinite : Stmt := top 25
abbrev s_Lsaid : Stmt := top 28
abbrev s_Float_eq : Stmt := inClass (top 10) 2
abbrev s_wholeof : Stmt := top 19
abbrev s_isnumber : Stmt := top 17
abbrev s_Lodd : Stmt := top 26
abbrev s_Lisfloat : Stmt := top 27
abbrev s_Ledgesright : Stmt := top 30
abbrev s_Lmaderight : Stmt := top 29
abbrev s_Lrefusedright : Stmt := top 31
abbrev s_law : Stmt := top 32
def ownB (K : PySem.W.Frag) (C : Addr) : Bool :=
  PySem.W.plainGet K C Str.empty && (PySem.W.hasDictIn K C && (PySem.W.plainOver K C && (decide (PySem.W.findIn K (.ref C) "__setattr__" = some (some (.builtin "object.__setattr__"))) &&
  (decide (PySem.W.findIn K (.ref C) "__class__" = some (some (.builtin "object.__class__"))) && (decide (PySem.W.specialIn K (.builtin "object.__class__") "__get__" = some (some (.builtin "getset_descriptor.__get__"))) &&
  (decide (PySem.W.takesIn K (.builtin "object.__class__") = some true) && (decide (PySem.W.mroIn K C (.type "object") = some true) && (decide (PySem.W.kitOne K (.ref C) (.type "int") = some false) &&
  (decide (PySem.W.kitOne K (.ref C) (.type "bool") = some false) && decide (PySem.W.kitOne K (.ref C) (.type "str") = some false))))))))))
def idB (K : PySem.W.Frag) (C : Addr) : Bool := decide (PySem.W.mroIn K C (.type "object") = some true) && (decide (PySem.W.findIn K (.ref C) "__eq__" = some (some (.builtin "object.__eq__"))) && decide (PySem.W.subIn K (.ref C) (.type "NoneType") = some false))
def noB (K : PySem.W.Frag) (C : Addr) (xs : List Str) : Bool := xs.all fun f => decide (PySem.W.findIn K (.ref C) f = some none)
def kitB' (K : PySem.W.Frag) (C : Addr) (b : Bool) (xs : List Value) : Bool := xs.all fun t => decide (PySem.W.kitOne K t (.ref C) = some b)
end Up
set_option Elab.async false
set_option linter.all false
set_option maxRecDepth 100000
set_option maxHeartbeats 4000000
namespace Up
open PySem PySem.Spec PyProof.Rows L2
/-! ### a smaller head: the objects that are looked at are picked out (globals, what their classes name, what defs name), no closure by rounds -/
abbrev GT : Type := Addr → Option Obj
def rfS (g : GT) (a : Addr) : List Addr := match g a with
  | some o => He.refsD o
  | none => []
def isCS (g : GT) (a : Addr) : Bool := match g a with
  | some ⟨_, _, .cls _, _⟩ => true
  | _ => false
def fnS (g : GT) (a : Addr) : List Addr := match g a with
  | some ⟨_, _, .func fd, _⟩ => He.refV fd.defaults ++ (He.refV fd.kwdefaults ++ He.refV fd.code)
  | _ => []
def clsS (g : GT) (as : List Addr) : List Addr := (as.filter (isCS g)).flatMap (rfS g)
def allS (g : GT) (a1 a2 a3 : List Addr) : List Addr := cStatics :: mainGlobals :: (a1 ++ (a2 ++ (a3 ++ ((a1 ++ a3).flatMap (fnS g)))))
def selS (g : GT) : List Addr := allS g (rfS g mainGlobals) (clsS g (rfS g mainGlobals)) ((clsS g (rfS g mainGlobals)).flatMap (rfS g))
def fgS (g : GT) : PySem.W.Frag := He.frT g (selS g)
section
variable {fa : List He.Fa} {fn : List He.DefD} {ts : List He.Tab} {tf : List He.Defn} {ex : PySem.W.Frag → Bool} {w : World} {g : GT}
def obsS (fa : List He.Fa) (fn : List He.DefD) (ts : List He.Tab) (tf : List He.Defn) (ex : PySem.W.Frag → Bool) (g : GT) : He.AlX := (He.obsT fa fn ts (fgS g), ex (fgS g) && He.tabsB g tf (fgS g))
theorem tabS_of (h : He.tabsB g tf (fgS g) = true) {p : He.Defn} (hp : p ∈ tf) : PySem.W.codeHdIn (fgS g) (He.cT (fgS g) p).1 (He.cT (fgS g) p).2 = true ∧ ∃ o, g (He.cT (fgS g) p).2 = some o ∧ He.emptyTab o = true := by
  have z := List.all_eq_true.mp h p hp
  rw [Bool.and_eq_true] at z
  refine ⟨z.1, ?_⟩
  have z2 := z.2
  cases e : g (He.cT (fgS g) p).2 with
  | some o => rw [e] at z2; exact ⟨o, rfl, z2⟩
  | none => rw [e] at z2; cases z2
theorem saysS {h : Heap} (e : obsS fa fn ts tf ex h.get? = He.valX fn ts w) : He.SaysX fa fn ts tf ex w h (fgS h.get?) := by
  have a : He.obsT fa fn ts (fgS h.get?) = He.valT fn ts w := congrArg Prod.fst e
  have b : (ex (fgS h.get?) && He.tabsB h.get? tf (fgS h.get?)) = true := congrArg Prod.snd e
  rw [Bool.and_eq_true] at b
  refine { t := a, more := b.1, hd := fun p hp => (tabS_of b.2 hp).1, out := fun p hp => ?_, empty := fun p hp => ?_ }
  · have ⟨_, o, q, z⟩ := tabS_of b.2 hp
    exact He.frT_none q z
  · have ⟨_, o, q, z⟩ := tabS_of b.2 hp
    rw [← He.emptyTab_eq z]
    exact q
end
def hookS (fa : List He.Fa) (fn : List He.DefD) (ts : List He.Tab) (tf : List He.Defn) (ex : PySem.W.Frag → Bool) : PySem.W.Hook where
  α := He.AlX
  obs := fun s => obsS fa fn ts tf ex s.heap.get?
  val := fun w => He.valX fn ts w
  says := (He.hookX 0 fa fn ts tf ex).says
  of := fun _ _ e => ⟨_, He.frT_in, saysS e⟩
  keeps := (He.hookX 0 fa fn ts tf ex).keeps
theorem obsS_eq {fa : List He.Fa} {fn : List He.DefD} {ts : List He.Tab} {tf : List He.Defn} {ex : PySem.W.Frag → Bool} {g : GT} {s : Shared} (h : ∀ a, g a = s.heap.get? a) : obsS fa fn ts tf ex g = (hookS fa fn ts tf ex).obs s := by
  show obsS fa fn ts tf ex g = obsS fa fn ts tf ex s.heap.get?
  rw [funext h]
end Up

set_option Elab.async false
set_option linter.all false
set_option maxRecDepth 100000
set_option maxHeartbeats 0
set_option pp.maxSteps 300
namespace Up
open PySem PySem.Spec PyProof.Rows L2
def d_isplain : He.DefD := ⟨("is_plain", none), "is_plain", "is_plain", defArgs s_isplain, defBody s_isplain, defScope s_isplain, [], []⟩
def d_reduced : He.DefD := ⟨("reduced", none), "reduced", "reduced", defArgs s_reduced, defBody s_reduced, defScope s_reduced, [], []⟩
def d_fits : He.DefD := ⟨("fits", none), "fits", "fits", defArgs s_fits, defBody s_fits, defScope s_fits, [], []⟩
def d_signof : He.DefD := ⟨("sign_of", none), "sign_of", "sign_of", defArgs s_signof, defBody s_signof, defScope s_signof, [], []⟩
def d_InvalidArgument_init : He.DefD := ⟨("InvalidArgument", some "__init__"), "__init__", "InvalidArgument.__init__", defArgs s_InvalidArgument_init, defBody s_InvalidArgument_init, defScope s_InvalidArgument_init, [], []⟩
def d_Float_init : He.DefD := ⟨("Float", some "__init__"), "__init__", "Float.__init__", defArgs s_Float_init, defBody s_Float_init, defScope s_Float_init, [], []⟩
def d_Float_isfinite : He.DefD := ⟨("Float", some "is_finite"), "is_finite", "Float.is_finite", defArgs s_Float_isfinite, defBody s_Float_isfinite, defScope s_Float_isfinite, [], []⟩
def d_Float_ratio : He.DefD := ⟨("Float", some "ratio"), "ratio", "Float.ratio", defArgs s_Float_ratio, defBody s_Float_ratio, defScope s_Float_ratio, [], []⟩
def d_Float_eq : He.DefD := ⟨("Float", some "__eq__"), "__eq__", "Float.__eq__", defArgs s_Float_eq, defBody s_Float_eq, defScope s_Float_eq, [], []⟩
def d_infinity : He.DefD := ⟨("infinity", none), "infinity", "infinity", defArgs s_infinity, defBody s_infinity, defScope s_infinity, [], []⟩
def d_nearest : He.DefD := ⟨("nearest", none), "nearest", "nearest", defArgs s_nearest, defBody s_nearest, defScope s_nearest, [], []⟩
def d_tofloat : He.DefD := ⟨("to_float", none), "to_float", "to_float", defArgs s_tofloat, defBody s_tofloat, defScope s_tofloat, [], []⟩
def d_isnumber : He.DefD := ⟨("is_number", none), "is_number", "is_number", defArgs s_isnumber, defBody s_isnumber, defScope s_isnumber, [], []⟩
def d_wholeof : He.DefD := ⟨("whole_of", none), "whole_of", "whole_of", defArgs s_wholeof, defBody s_wholeof, defScope s_wholeof, [], []⟩
def d_Lwell : He.DefD := ⟨("_law_well", none), "_law_well", "_law_well", defArgs s_Lwell, defBody s_Lwell, defScope s_Lwell, [], []⟩
def d_Ldraw : He.DefD := ⟨("_law_draw", none), "_law_draw", "_law_draw", defArgs s_Ldraw, defBody s_Ldraw, defScope s_Ldraw, [], []⟩
def d_Lone : He.DefD := ⟨("_law_one", none), "_law_one", "_law_one", defArgs s_Lone, defBody s_Lone, defScope s_Lone, [], []⟩
def d_Lgreat : He.DefD := ⟨("_law_great", none), "_law_great", "_law_great", defArgs s_Lgreat, defBody s_Lgreat, defScope s_Lgreat, [], []⟩
def d_Lfinite : He.DefD := ⟨("_law_finite", none), "_law_finite", "_law_finite", defArgs s_Lfinite, defBody s_Lfinite, defScope s_Lfinite, [], []⟩
def d_Lodd : He.DefD := ⟨("_law_odd", none), "_law_odd", "_law_odd", defArgs s_Lodd, defBody s_Lodd, defScope s_Lodd, [], []⟩
def d_Lisfloat : He.DefD := ⟨("_law_is_float", none), "_law_is_float", "_law_is_float", defArgs s_Lisfloat, defBody s_Lisfloat, defScope s_Lisfloat, [], []⟩
def d_Lsaid : He.DefD := ⟨("_law_said", none), "_law_said", "_law_said", defArgs s_Lsaid, defBody s_Lsaid, defScope s_Lsaid, [], []⟩
def d_Lmaderight : He.DefD := ⟨("_law_made_right", none), "_law_made_right", "_law_made_right", defArgs s_Lmaderight, defBody s_Lmaderight, defScope s_Lmaderight, [], []⟩
def d_Ledgesright : He.DefD := ⟨("_law_edges_right", none), "_law_edges_right", "_law_edges_right", defArgs s_Ledgesright, defBody s_Ledgesright, defScope s_Ledgesright, [], []⟩
def d_Lrefusedright : He.DefD := ⟨("_law_refused_right", none), "_law_refused_right", "_law_refused_right", defArgs s_Lrefusedright, defBody s_Lrefusedright, defScope s_Lrefusedright, [], []⟩
def d_law : He.DefD := ⟨("law", none), "law", "law", defArgs s_law, defBody s_law, defScope s_law, [], []⟩
def hfn : List He.DefD := [d_isplain, d_reduced, d_fits, d_signof, d_InvalidArgument_init, d_Float_init, d_Float_isfinite, d_Float_ratio, d_Float_eq, d_infinity, d_nearest, d_tofloat,
  d_isnumber, d_wholeof, d_Lwell, d_Ldraw, d_Lone, d_Lgreat, d_Lfinite, d_Lodd, d_Lisfloat, d_Lsaid, d_Lmaderight, d_Ledgesright,
  d_Lrefusedright, d_law]
def hglo : List Str := (["is_plain", "reduced", "fits", "sign_of", "infinity", "nearest", "to_float", "is_number", "whole_of", "_law_well", "_law_draw", "_law_one"] : List Str) ++
  (["_law_great", "_law_finite", "_law_odd", "_law_is_float", "_law_said", "_law_made_right", "_law_edges_right", "_law_refused_right", "law", "Float", "InvalidArgument", "LuaError"] : List Str)
def hfa : List He.Fa := hglo.map He.Fa.glo ++ (bltNames.map He.Fa.free ++ [.int "ROOM" (9007199254740992), .int "LOWEST" (-1074), .int "TOO_GREAT" (1024), .int "LEAST" (-9223372036854775808), .int "MOST" (9223372036854775807), .free "NotImplemented", .meth "InvalidArgument" "__init__", .mkr "Float", .meth "Float" "is_finite", .meth "Float" "ratio", .meth "Float" "__eq__"])
def iaB (K : PySem.W.Frag) (C L : Addr) (f : Addr) : Bool := PySem.W.excInitIn K C aeT "ArithmeticError.__new__" && (PySem.W.excOver K C aeT && (PySem.W.hasDictIn K C && (decide (PySem.W.findIn K (.ref C) "__setattr__" = some (some (.builtin "object.__setattr__"))) &&
  (decide (PySem.W.subIn K (.ref C) (.type "BaseException") = some true) && (decide (PySem.W.typeIn K (.ref C) = some (.type "type")) && (PySem.W.keepIn K (.ref C) && (noB K C ["part"] && (xfB K C && (decide (PySem.W.exmOne K (.ref C) (.ref L) = some true) &&
  (PySem.W.readsIn K L (.type "type") && (decide (PySem.W.specialIn K (.ref L) "__getattribute__" = some (some (.builtin "type.__getattribute__"))) && ((match PySem.W.findCls K (.ref L) (.type "type") "__init__" with | some (.val (.builtin n)) => n == "ArithmeticError.__init__" | _ => false) && decide (PySem.W.typeIn K (.ref f) = some (.type "function"))))))))))))))
def hex (K : PySem.W.Frag) : Bool := ownB K (He.ga K "Float") && (noB K (He.ga K "Float") ["sign", "top", "power"] && (kitB' K (He.ga K "Float") true [.ref (He.ga K "Float")] &&
  (kitB' K (He.ga K "Float") false [.type "int", .type "bool", .type "str", .type "NoneType", .type "list", .type "tuple", .type "dict"] && (decide (PySem.W.findIn K (.ref (He.ga K "Float")) "__ne__" = some (some (.builtin "object.__ne__"))) &&
  (decide (PySem.W.subIn K (.ref (He.ga K "Float")) (.type "list") = some false) && (decide (PySem.W.subIn K (.ref (He.ga K "Float")) (.type "tuple") = some false) && iaB K (He.ga K "InvalidArgument") (He.ga K "LuaError") (He.ma K (He.ga K "InvalidArgument") "__init__")))))))
abbrev hR : PySem.W.OpenRow := PySem.W.OpenLaw.row PySem.Challenge.rw_upvalues_k01_floats_by_their_parts
abbrev hk : PySem.W.Hook := hookS hfa hfn [] [] hex
def hob (s : PySem.W.SharedT) : He.AlX := obsS hfa hfn [] [] hex (HandSHeadRun.getT s)
theorem hob_eq (s : PySem.W.SharedT) : hob s = hk.obs s.abs := obsS_eq (HandSHeadRun.getT_eq s)
def hloose : List PySem.Str := (["_wall", "LuaError", "InvalidArgument", "LEAST", "MOST", "ROOM", "LOWEST", "TOO_GREAT", "Float", "is_plain", "reduced", "fits", "sign_of", "infinity", "nearest", "is_number", "to_float", "whole_of", "_law_well", "_law_draw", "_law_one", "_law_great", "_law_finite", "_law_odd", "_law_is_float", "_law_said", "_law_made_right", "_law_edges_right", "_law_refused_right"] : List PySem.Str)
theorem hrun (w : World) : HandSHeadRun.RunEq hR (PySem.W.view hR.prog [32]) hk hob 6000 hloose w := by
  intro os
  kernel_rfl
end Up


set_option Elab.async false
set_option linter.all false
set_option maxRecDepth 100000
set_option maxHeartbeats 4000000
namespace Up
open PySem PySem.Spec PyProof.Rows L2

theorem sz {n : Nat} (h : Nat.ble n 100000 = true) : n ≤ sizeLine := Nat.le_trans (Nat.le_of_ble_eq_true h) (by decide)
/-! ### a new object, by what is known of the heap behind it -/
def NewAt (H : Hp) (o : HO) (Q : VK) : Prop := ∀ p H', H p = none → Same H H' → H' p = some o → (∀ b, b ≠ p → H' b = H b) → Q (.ref p) H'
theorem NewAt.all {H : Hp} {o : HO} {Q : VK} (h : NewAt H o Q) : ∀ p, H p = none → Q (.ref p) (upd H p o) := fun p hp =>
  h p _ hp (fun b u e => by rw [upd_ne (ne_of_none e hp)]; exact e) upd_same fun b hb => upd_ne hb
def tTupN (t : TA) : TE := fun σ H Q => t σ H fun xs H1 => xs.length ≤ sizeLine ∧ NewAt H1 (.tup xs) Q
def tLstN (t : TA) : TE := fun σ H Q => t σ H fun xs H1 => xs.length ≤ sizeLine ∧ NewAt H1 (.lst xs) Q
section
variable {X : Cx} {es : List Expr} {t : TA} {pos : Pos}
theorem pe_tupN {x1} (h : PA X es t) : PE X (.Tuple es x1 pos) (tTupN t) := by
  refine ⟨fun pins s σ H Q I hq => ?_⟩
  refine wpAny_Tuple_spliced (thn (h.run pos pins s σ H _ I hq) fun us s1 ⟨xs, H1, I1, r, z, q⟩ => ⟨(by rw [← r.length]; exact z), ?_⟩)
  exact ⟨.ref s1.heap.objs.size, upd H1 s1.heap.objs.size (.tup xs), I1.laid (t' := s1.toks) (fun b u e => Heap.get?_push_of_some _ e) (Nat.le_refl _) ⟨z, us, r, ⟨_, Heap.get?_push_size _ rfl, rfl, _, rfl⟩⟩, rfl, q.all _ (I1.hok.fresh (Nat.le_refl _))⟩
theorem pe_lstN (h : PA X es t) : PE X (.List es pos) (tLstN t) := by
  refine ⟨fun pins s σ H Q I hq => ?_⟩
  refine wpAny_List_spliced (thn (h.run pos pins s σ H _ I hq) fun us s1 ⟨xs, H1, I1, r, z, q⟩ => ⟨(by rw [← r.length]; exact z), ?_⟩)
  exact ⟨.ref s1.heap.objs.size, upd H1 s1.heap.objs.size (.lst xs), I1.laid (t' := s1.toks) (fun b u e => Heap.get?_push_of_some _ e) (Nat.le_refl _) ⟨z, us, 0, r, Heap.get?_push_size _ rfl⟩, rfl, q.all _ (I1.hok.fresh (Nat.le_refl _))⟩
end
/-! ### operators by the kinds of their values -/
section
variable {X : Cx} {f : Value → Value → Sem Value} {r r' : R2}
theorem op_or (h : OpR X f r) (h' : OpR X f r') : OpR X f (fun x y H Q => r x y H Q ∨ r' x y H Q) := by
  intro pins s σ H x y v u Q I rx ry q
  rcases q with q | q
  · exact h pins s σ H x y v u Q I rx ry q
  · exact h' pins s σ H x y v u Q I rx ry q
theorem op_wk (h : OpR X f r) (k : ∀ x y H Q, r' x y H Q → r x y H Q) : OpR X f r' := by
  intro pins s σ H x y v u Q I rx ry q
  exact h pins s σ H x y v u Q I rx ry (k _ _ _ _ q)
theorem op_wh {S : Prop} (h : S → OpR X f r) (k : ∀ x y H Q, r' x y H Q → S ∧ r x y H Q) : OpR X f r' := by
  intro pins s σ H x y v u Q I rx ry q
  exact h (k _ _ _ _ q).1 pins s σ H x y v u Q I rx ry (k _ _ _ _ q).2
end
/-- two lists that are read -/
def oCatS (K : PySem.W.Frag) : R2 := fun x y H Q => ∃ a b xs ys, x = .ref a ∧ y = .ref b ∧ SqL K H a xs ∧ SqL K H b ys ∧ xs.length + ys.length ≤ sizeLine ∧ NewAt H (.lst (xs ++ ys)) Q
theorem op_catS {X : Cx} : OpR X (binaryOp .Add) (oCatS X.K) := by
  intro pins s σ H x y v u Q I rx ry h
  obtain ⟨a, b, xs, ys, rfl, rfl, ha, hb, hz, q⟩ := h
  cases rx
  cases ry
  obtain ⟨its, r1, p1, _⟩ := I.list ha
  obtain ⟨jts, r2, p2, _⟩ := I.list hb
  have l1 := r1.length
  have l2 := r2.length
  obtain ⟨⟨c1, d1, t1, z1⟩, n1, e1, k1, _, w1⟩ := p1
  obtain ⟨⟨c2, d2, t2, z2⟩, n2, e2, k2, _, w2⟩ := p2
  simp only at k1 w1 k2 w2
  subst k1 w1 k2 w2
  refine concat_meets (S := _) ⟨_, e1, rfl⟩ ⟨_, e2, rfl⟩ noFill_list_add seq_list_add PySem.F.slot_list_add PySem.F.entry_list_add (PySem.F.args_list_add_2 _ _) (list_addW a b its.toArray jts.toArray n1 n2 d1 d2 z1 z2 (by rw [List.size_toArray, List.size_toArray]; omega)) ⟨e1, e2, ?_⟩
  rw [show its.toArray ++ jts.toArray = (its ++ jts).toArray by simp]
  exact ⟨.ref _, _, I.lnew (t' := s.toks) (r1.append r2) (by rw [List.length_append]; omega), rfl, q.all _ I.fresh⟩
/-- two tuples -/
def oCatU (K : PySem.W.Frag) : R2 := fun x y H Q => ∃ a b xs ys, x = .ref a ∧ y = .ref b ∧ SqT K H a xs ∧ SqT K H b ys ∧ xs.length + ys.length ≤ sizeLine ∧ xs ≠ [] ∧ ys ≠ [] ∧ NewAt H (.tup (xs ++ ys)) Q
/-- a + b -/
def oAdd (K : PySem.W.Frag) : R2 := fun x y H Q => match x, y with
  | .int i, .int j => Q (.int (i + j)) H
  | .str a, .str b => a.length + b.length ≤ sizeLine ∧ Q (.str (a ++ b)) H
  | .ref a, .ref b => oCatS K (.ref a) (.ref b) H Q ∨ oCatU K (.ref a) (.ref b) H Q
  | _, _ => False
theorem op_oAdd {X : Cx} : OpR X (binaryOp .Add) (oAdd X.K) := by
  refine op_wk (op_or op_add (op_or op_add_str (op_or op_catS op_catA))) fun x y H Q q => ?_
  cases x <;> cases y <;> first | exact q.elim | skip
  · exact .inl ⟨_, _, rfl, rfl, q⟩
  · exact .inr (.inl ⟨_, _, rfl, rfl, q⟩)
  · rcases q with q | ⟨c, d, xs, ys, e1, e2, h1, h2, hz, n1, n2, q⟩
    · exact .inr (.inr (.inl q))
    · exact .inr (.inr (.inr ⟨c, d, xs, ys, e1, e2, h1, h2, hz, fun z => absurd z n1, fun _ z => absurd z n2, fun _ _ => q.all⟩))
/-- a - b, of ints and of bools -/
def oSub : R2 := fun x y H Q => match x, y with
  | .int i, .int j => Q (.int (i - j)) H
  | .bl i, .bl j => Q (.int (b2i i - b2i j)) H
  | _, _ => False
theorem op_sub_bb {X : Cx} : OpR X (binaryOp .Sub) (fun x y H Q => ∃ i j, x = .bl i ∧ y = .bl j ∧ Q (.int (b2i i - b2i j)) H) := by
  intro pins s σ H x y v u Q I rx ry h
  obtain ⟨i, j, rfl, rfl, q⟩ := h
  cases rx
  cases ry
  exact sub_bool ⟨.int (b2i i - b2i j), H, I.tok _, ⟨_, rfl⟩, q⟩
theorem op_oSub {X : Cx} : OpR X (binaryOp .Sub) oSub := by
  refine op_wk (op_or op_sub op_sub_bb) fun x y H Q q => ?_
  cases x <;> cases y <;> first | exact q.elim | skip
  · exact .inr ⟨_, _, rfl, rfl, q⟩
  · exact .inl ⟨_, _, rfl, rfl, q⟩
/-- a * b -/
def oMul : R2 := fun x y H Q => match x, y with
  | .int i, .int j => IntMulOk i j ∧ Q (.int (i * j)) H
  | .ref a, .int k => ∃ xs, H a = some (.lst xs) ∧ -(2 ^ 63) ≤ k ∧ k < 2 ^ 63 ∧ xs.length * k.toNat ≤ sizeLine ∧ NewAt H (.lst (List.replicate k.toNat xs).flatten) Q
  | _, _ => False
theorem op_mulK {X : Cx} : OpR X (binaryOp .Mult) (rI IntMulOk fun i j => .int (i * j)) := opI fun _ _ _ _ _ _ _ hc q => mul_int q hc
theorem op_oMul {X : Cx} : OpR X (binaryOp .Mult) oMul := by
  refine op_wk (op_or op_mulK op_rep) fun x y H Q q => ?_
  cases x <;> cases y <;> first | exact q.elim | skip
  · exact .inl ⟨_, _, rfl, rfl, q⟩
  · obtain ⟨xs, h1, h2, h3, h4, q⟩ := q
    exact .inr ⟨_, _, xs, rfl, rfl, h1, h2, h3, h4, q.all⟩
/-- a // b -/
def oDiv : R2 := fun x y H Q => match x, y with
  | .int i, .int j => (j ≠ 0 ∧ j.natAbs.log2 < 9000) ∧ Q (.int (i.fdiv j)) H
  | _, _ => False
theorem op_oDiv {X : Cx} : OpR X (binaryOp .FloorDiv) oDiv := by
  refine op_wk (r := rI (fun _ j => j ≠ 0 ∧ j.natAbs.log2 < 9000) fun i j => .int (i.fdiv j)) (opI fun _ _ _ _ _ _ _ hc q => floordiv_int hc.1 q (.inl (PyProof.noPylong_of_log2 hc.2))) fun x y H Q q => ?_
  cases x <;> cases y <;> first | exact q.elim | skip
  exact ⟨_, _, rfl, rfl, q⟩
/-- a % b -/
def oMod : R2 := fun x y H Q => match x, y with
  | .int i, .int j => j ≠ 0 ∧ Q (.int (i.fmod j)) H
  | _, _ => False
theorem op_oMod {X : Cx} : OpR X (binaryOp .Mod) oMod := by
  refine op_wk op_modN fun x y H Q q => ?_
  cases x <;> cases y <;> first | exact q.elim | skip
  exact ⟨_, _, rfl, rfl, q⟩
/-- an operator of two ints with a condition -/
def oII (C : Int → Int → Prop) (g : Int → Int → V) : R2 := fun x y H Q => match x, y with
  | .int i, .int j => C i j ∧ Q (g i j) H
  | _, _ => False
theorem op_oII {X : Cx} {f : Value → Value → Sem Value} {C : Int → Int → Prop} {g : Int → Int → V} (h : OpR X f (rI C g)) : OpR X f (oII C g) := by
  refine op_wk h fun x y H Q q => ?_
  cases x <;> cases y <;> first | exact q.elim | skip
  exact ⟨_, _, rfl, rfl, q⟩
def oI0 (g : Int → Int → V) : R2 := fun x y H Q => match x, y with
  | .int i, .int j => Q (g i j) H
  | _, _ => False
theorem op_oI0 {X : Cx} {f : Value → Value → Sem Value} {g : Int → Int → V} (h : OpR X f (rI0 g)) : OpR X f (oI0 g) := by
  refine op_wk h fun x y H Q q => ?_
  cases x <;> cases y <;> first | exact q.elim | skip
  exact ⟨_, _, rfl, rfl, q⟩
abbrev oPow : R2 := oII CPow fun i j => .int (i ^ j.toNat)
abbrev oShl : R2 := oII CShl fun i j => .int (i * 2 ^ j.toNat)
abbrev oShr : R2 := oII (fun _ j => 0 ≤ j) fun i j => .int (i / 2 ^ j.toNat)
abbrev oAnd : R2 := oI0 fun i j => .int (Builtin.bitAnd i j)
abbrev oOr : R2 := oI0 fun i j => .int (Builtin.bitOr i j)
abbrev oXor : R2 := oI0 fun i j => .int (Builtin.bitXor i j)
theorem op_oPow {X : Cx} : OpR X (binaryOp .Pow) oPow := op_oII op_pow
theorem op_oShl {X : Cx} : OpR X (binaryOp .LShift) oShl := op_oII op_shlW
theorem op_oShr {X : Cx} : OpR X (binaryOp .RShift) oShr := op_oII op_shr
theorem op_oAnd {X : Cx} : OpR X (binaryOp .BitAnd) oAnd := op_oI0 op_and
theorem op_oOr {X : Cx} : OpR X (binaryOp .BitOr) oOr := op_oI0 L2.op_or
theorem op_oXor {X : Cx} : OpR X (binaryOp .BitXor) oXor := op_oI0 op_xor
/-! ### comparisons -/
def oCmp (g : Int → Int → Bool) (k : Str → Str → Bool) : R2 := fun x y H Q => match x, y with
  | .int i, .int j => Q (.bl (g i j)) H
  | .str a, .str b => Q (.bl (k a b)) H
  | _, _ => False
theorem op_oCmp {X : Cx} {f : Value → Value → Sem Value} {g : Int → Int → Bool} {k : Str → Str → Bool} (h : OpR X f (rI0 fun i j => .bl (g i j))) (h' : OpR X f (fun x y H Q => ∃ i j, x = .str i ∧ y = .str j ∧ Q (.bl (k i j)) H)) : OpR X f (oCmp g k) := by
  refine op_wk (op_or h h') fun x y H Q q => ?_
  cases x <;> cases y <;> first | exact q.elim | skip
  · exact .inl ⟨_, _, rfl, rfl, q⟩
  · exact .inr ⟨_, _, rfl, rfl, q⟩
abbrev oLt : R2 := oCmp (fun i j => decide (i < j)) fun a b => decide (a.cps.toList < b.cps.toList)
theorem op_oLt {X : Cx} : OpR X (compareOp .Lt) oLt := op_oCmp op_lt op_lt_str
abbrev oLe : R2 := oI0 fun i j => .bl (decide (i ≤ j))
abbrev oGt : R2 := oI0 fun i j => .bl (decide (j < i))
abbrev oGe : R2 := oI0 fun i j => .bl (decide (j ≤ i))
theorem op_oLe {X : Cx} : OpR X (compareOp .LtE) oLe := op_oI0 op_le
theorem op_oGt {X : Cx} : OpR X (compareOp .Gt) oGt := op_oI0 op_gt
theorem op_oGe {X : Cx} : OpR X (compareOp .GtE) oGe := op_oI0 op_ge
/-- a == b of scalars, of data -/
def oEq (K : PySem.W.Frag) : R2 := fun x y H Q => rEq x y H Q ∨ rEqD K x y H Q
def oNe (K : PySem.W.Frag) : R2 := fun x y H Q => rNe x y H Q ∨ rNeD K x y H Q
theorem op_oEq {X : Cx} (hu : X.A.units + 64 < cLine) : OpR X (compareOp .Eq) (oEq X.K) := op_or op_eq (op_eqD hu)
theorem op_oNe {X : Cx} (hu : X.A.units + 64 < cLine) : OpR X (compareOp .NotEq) (oNe X.K) := op_or op_ne (op_neD hu)

/-! ### slices, divmod -/
def oSlL (K : PySem.W.Frag) : V → Option Int → Option Int → Hp → VK → Prop := fun x lo hi H Q => ∃ a xs, x = .ref a ∧ SqL K H a xs ∧ NewAt H (.lst (cutV xs lo hi)) Q
theorem sl_lstN {X : Cx} : SlR X (oSlL X.K) := by
  intro pins s σ H x v vl vu lo hi sl Q I rx hs pl pu h
  obtain ⟨a, xs, e, hq, q⟩ := h
  exact sl_list pins s σ H x v vl vu lo hi sl Q I rx hs pl pu ⟨a, xs, e, hq, q.all⟩
def rDivm : List V → Hp → VK → Prop := fun xs H Q => ∃ i j, xs = [.int i, .int j] ∧ (0 < j ∧ j.natAbs.log2 < 9000) ∧ NewAt H (.tup [.int (i / j), .int (i % j)]) Q
theorem call_divmodK {X : Cx} : CallR X (.builtin "divmod") rDivm := by
  intro pins s σ H xs us Q I r h
  obtain ⟨i, j, e, hc, q⟩ := h
  exact call_divmodW pins s σ H xs us Q I r ⟨i, j, e, ⟨hc.1, PyProof.noPylong_of_log2 hc.2⟩, q.all⟩
/-! ### targets: o.f of an instance -/
def gFld (K : PySem.W.Frag) (to : TE) (f : Str) : TG := fun v σ H Q => to σ H fun x H1 => ∃ a C dx fs, x = .ref a ∧ H1 a = some (.ins C dx fs) ∧ Cls K C ∧ NoAttr K C f ∧ fs.length < 1000 ∧ Q σ (upd H1 a (.ins C dx (putF f v fs)))
theorem pg_fld {X : Cx} {o : Expr} {f : Str} {pos : Pos} {to : TE} (ho : PE X o to)
    (ha : ∀ v, assign (.Attribute o f pos) X.env v = (do
      let ov ← holding [v] (eval o X.env)
      standAt pos.atName
      holding [v, ov] (setAttr ov f v)
      release [v, ov] []) := by intro _; rfl) : PG X (.Attribute o f pos) (gFld X.K to f) := by
  refine ⟨fun pins s σ H v u Q I r h => ?_⟩
  rw [ha]
  refine wpAny_bind (wpAny_holding (thn (ho.run pins s σ H _ I h) fun ov s1 ⟨x, H1, I1, r1, a, C, dx, fs, ex, ea, c, n, l, q1⟩ => ?_))
  subst ex
  obtain rfl : ov = Value.ref a := r1
  refine wpAny_bind (wpAny_standAt (wpAny_bind (wpAny_holding (setattr_ok I1 ea c n l r fun s3 I3 => ?_))))
  exact wpAny_release ⟨σ, _, I3, q1⟩

/-! ### a def of the text, called by its name -/
section
variable (P : Program) (w : World) (K : PySem.W.Frag) (mg : Str → Option Value) (base : Heap)
/-- the module's name x holds a def that keeps sp -/
def Fn (CX : CXT) (k : Nat) (x : Str) (ps : List Str) (dvs : List V) (sp : Sp) : Prop :=
  ∃ f fd ds, FnOk P w K mg base CX k f fd ps sp ∧ mg x = some (.ref f) ∧ PySem.W.keepIn K (.ref f) = true ∧ Binds K fd ps ds ∧ Vals dvs ds
/-- the class at C has a method m that keeps sp -/
def Mt (CX : CXT) (k : Nat) (C : Addr) (m : Str) (ps : List Str) (sp : Sp) : Prop :=
  ∃ f fd, FnOk P w K mg base CX k f fd ps sp ∧ Meth K C m f ∧ Binds K fd ps [] ∧ Cls K C
/-- the name x holds a class at C that is made by an __init__ that keeps sp -/
def Cn (CX : CXT) (k : Nat) (x : Str) (C : Addr) (ps : List Str) (dvs : List V) (sp : Sp) : Prop :=
  ∃ f fd ds, FnOk P w K mg base CX k f fd ps sp ∧ Mk K C f ∧ mg x = some (.ref C) ∧ Binds K fd ps ds ∧ Vals dvs ds
end
section
variable {X : Cx} {CX : CXT} {k : Nat} {C : Addr} {x m : Str} {ps : List Str} {dvs : List V} {sp : Sp} {E : XK} {p pos apos : Pos} {e o : Expr} {es : List Expr} {ta : TE} {t : TA}
theorem pe_fn (F : Fn X.prog X.w X.K X.mg X.base CX k x ps dvs sp) (hr : Room k X.A) (hx : Passes CX X E) (ha : PA X (e :: es) t) (hg : Gl X x := by rfl)
    (hdb : (x == ("__debug__" : Str)) = false := by decide) (he : starEach (e :: es) X.env = (false, eval e X.env) :: starEach es X.env := by rfl) (hpl : (backTo pos (starEach es X.env)).any (·.1) = false := by rfl) :
    PE X (.Call (.Name x p) (e :: es) [] pos) (tCall sp dvs E t) := by
  obtain ⟨f, fd, ds, F, hm, hk, hb, hd⟩ := F
  exact pe_call F hr hg hm hk hb hd hx ha hdb he hpl
theorem pe_fn0 (F : Fn X.prog X.w X.K X.mg X.base CX k x ps dvs sp) (hr : Room k X.A) (hx : Passes CX X E) (hg : Gl X x := by rfl)
    (hdb : (x == ("__debug__" : Str)) = false := by decide) : PE X (.Call (.Name x p) [] [] pos) (tCall sp dvs E tNil) := by
  obtain ⟨f, fd, ds, F, hm, hk, hb, hd⟩ := F
  exact pe_call0 F hr hg hm hk hb hd hx hdb
/-- C(..): a new instance and its dict, then __init__ -/
def MakeR (C : Addr) (sp : Sp) (vs : List V) (H : Hp) (Q : VK) (E : XK) : Prop := ∀ x dx H', H x = none → H dx = none → dx ≠ x → Same H H' → H' x = some (.ins C dx []) → (∀ b, b ≠ x → b ≠ dx → H' b = H b) →
  sp (.ref x :: vs) H' (fun v H2 => v = .non ∧ Q (.ref x) H2) E
def tMakeN (C : Addr) (sp : Sp) (dvs : List V) (E : XK) (t : TA) : TE := fun σ H Q => t σ H fun vs H1 => MakeR C sp (vs ++ dvs) H1 Q E
theorem pe_cn (F : Cn X.prog X.w X.K X.mg X.base CX k x C ps dvs sp) (hr : Room (k + 1) X.A) (hx : Passes CX X E) (ha : PA X (e :: es) t) (hg : Gl X x := by rfl)
    (hdb : (x == ("__debug__" : Str)) = false := by decide) (he : starEach (e :: es) X.env = (false, eval e X.env) :: starEach es X.env := by rfl) (hpl : (backTo pos (starEach es X.env)).any (·.1) = false := by rfl) :
    PE X (.Call (.Name x p) (e :: es) [] pos) (tMakeN C sp dvs E t) := by
  obtain ⟨f, fd, ds, F, hM, hm, hb, hd⟩ := F
  refine ⟨fun pins s σ H Q I h => ?_⟩
  refine wpAny_Call_Name_kw (ld_glob I hg hm ?_ hdb)
  refine PySem.W.callWith_K (h₀ := X.base) I.ok.mod.kin hM.kp (thn (ha.run pos pins s σ H _ I h) fun us s1 ⟨vs, H1, I1, r, q⟩ => ⟨I1.kIn, ?_⟩) he hpl
  refine run_make hM F hr hb hd hx I1 r fun y dy n1 n2 ne => q y dy _ n1 n2 ne (fun b u z => ?_) upd_same fun b hb1 hb2 => ?_
  · rw [upd_ne (ne_of_none z n1), upd_ne (ne_of_none z n2)]; exact z
  · rw [upd_ne hb1, upd_ne hb2]
theorem pe_mt {pl : Sem Bool} (F : Mt X.prog X.w X.K X.mg X.base CX k C m ps sp) (hr : Room k X.A) (hx : Passes CX X E) (he : PE X o ta) (ha : PA X (e :: es) t)
    (hst : starEach (e :: es) X.env = (false, eval e X.env) :: starEach es X.env := by rfl) (hpl : (backTo pos (starEach es X.env)).any (·.1) = false := by rfl)
    (ht : eval (.Call (.Attribute o m apos) (e :: es) [] pos) X.env = (do
      let ov ← eval o X.env
      standAt apos.atName
      let (f, first) ← holding [ov] (getMethod ov m pl)
      callWith pos f first (backTo pos (starEach (e :: es) X.env)) (backToKw pos (keywordEach [] X.env))) := by rfl) :
    PE X (.Call (.Attribute o m apos) (e :: es) [] pos) (tMeth C m sp [] E ta t) := by
  obtain ⟨f, fd, F, hm, hb, c⟩ := F
  exact pe_meth (pl := pl) he c hm F hr hb .nil hx ha hst hpl ht
theorem pe_mt0 {pl : Sem Bool} (F : Mt X.prog X.w X.K X.mg X.base CX k C m ps sp) (hr : Room k X.A) (hx : Passes CX X E) (he : PE X o ta)
    (ht : eval (.Call (.Attribute o m apos) [] [] pos) X.env = (do
      let ov ← eval o X.env
      standAt apos.atName
      let (f, first) ← holding [ov] (getMethod ov m pl)
      callWith pos f first (backTo pos (starEach [] X.env)) (backToKw pos (keywordEach [] X.env))) := by rfl) :
    PE X (.Call (.Attribute o m apos) [] [] pos) (tMeth C m sp [] E ta tNil) := by
  obtain ⟨f, fd, F, hm, hb, c⟩ := F
  exact pe_meth0 (pl := pl) he c hm F hr hb .nil hx ht
end

/-! ### the rules with the written part named (within a comprehension) -/
section
variable {X : Cx} (K : PySem.W.Frag)
theorem call_isiE (h : X.K = K) : CallR X (.builtin "isinstance") (rIsi K) := h ▸ call_isi
theorem call_len_seqE (h : X.K = K) : CallR X (.builtin "len") (fun xs H Q => ∃ p ys, xs = [.ref p] ∧ (SqL K H p ys ∨ SqT K H p ys) ∧ Q (.int ys.length) H) := h ▸ call_len_seq
theorem op_oAddE (h : X.K = K) : OpR X (binaryOp .Add) (oAdd K) := h ▸ op_oAdd
theorem op_oEqE (h : X.K = K) (hu : X.A.units + 64 < cLine) : OpR X (compareOp .Eq) (oEq K) := h ▸ op_oEq hu
theorem op_oNeE (h : X.K = K) (hu : X.A.units + 64 < cLine) : OpR X (compareOp .NotEq) (oNe K) := h ▸ op_oNe hu
theorem op_inE (h : X.K = K) : OpR X (compareOp .In) (rIn K false) := h ▸ op_in_seq
theorem op_notInE (h : X.K = K) : OpR X (compareOp .NotIn) (rIn K true) := h ▸ op_notIn_seq
theorem ix_seqE (h : X.K = K) : IxR X (rIx K) := h ▸ ix_seq
theorem pe_fldE {e : Expr} {f : Str} {pos : Pos} {ta : TE} (h : X.K = K) (he : PE X e ta) (hb : attributeBase e f X.env (eval e X.env) = eval e X.env) : PE X (.Attribute e f pos) (tFld K ta f) := h ▸ pe_fld he hb
end
/-! ### names of the module -/
theorem pe_gint {X : Cx} {x : Str} {i : Int} {pos : Pos} (h : ∃ t, X.mg x = some (.int i t)) (hg : Gl X x := by rfl) (hd : (x == ("__debug__" : Str)) = false := by decide) : PE X (.Name x pos) (tC (.int i)) := by
  obtain ⟨t, h⟩ := h
  exact pe_glob hg h ⟨_, rfl⟩ hd
theorem pe_gref {X : Cx} {x : Str} {C : Addr} {pos : Pos} (h : X.mg x = some (.ref C)) (hg : Gl X x := by rfl) (hd : (x == ("__debug__" : Str)) = false := by decide) : PE X (.Name x pos) (tC (.ref C)) := pe_glob hg h rfl hd
/-- the built-ins that the text does not hide -/
structure Blt (mg : Str → Option Value) : Prop where
  len : mg "len" = none
  int : mg "int" = none
  bool : mg "bool" = none
  str : mg "str" = none
  isinstance : mg "isinstance" = none
  abs : mg "abs" = none
  max : mg "max" = none
  min : mg "min" = none
  divmod : mg "divmod" = none
  range : mg "range" = none
  enumerate : mg "enumerate" = none
  zip : mg "zip" = none
  list : mg "list" = none
  tuple : mg "tuple" = none
  ord : mg "ord" = none
  sorted : mg "sorted" = none
theorem blt_of {mg : Str → Option Value} (h : ∀ x ∈ bltNames, mg x = none) : Blt mg := by
  have g : ∀ x, x ∈ bltNames → mg x = none := h
  exact ⟨g _ (by simp [bltNames]), g _ (by simp [bltNames]), g _ (by simp [bltNames]), g _ (by simp [bltNames]), g _ (by simp [bltNames]), g _ (by simp [bltNames]), g _ (by simp [bltNames]), g _ (by simp [bltNames]), g _ (by simp [bltNames]), g _ (by simp [bltNames]), g _ (by simp [bltNames]), g _ (by simp [bltNames]), g _ (by simp [bltNames]), g _ (by simp [bltNames]), g _ (by simp [bltNames]), g _ (by simp [bltNames])⟩
section
variable {X : Cx}
theorem pe_tyInt {pos : Pos} (B : Blt X.mg) (hg : Gl X "int" := by rfl) : PE X (.Name "int" pos) (tC (.ty "int")) := pe_bltn (u := .type "int") hg B.int (by decide +kernel) rfl
theorem pe_tyBool {pos : Pos} (B : Blt X.mg) (hg : Gl X "bool" := by rfl) : PE X (.Name "bool" pos) (tC (.ty "bool")) := pe_bltn (u := .type "bool") hg B.bool (by decide +kernel) rfl
theorem pe_tyStr {pos : Pos} (B : Blt X.mg) (hg : Gl X "str" := by rfl) : PE X (.Name "str" pos) (tC (.ty "str")) := pe_bltn (u := .type "str") hg B.str (by decide +kernel) rfl
end
end Up

set_option Elab.async false
set_option linter.all false
set_option maxRecDepth 100000
set_option maxHeartbeats 4000000
namespace Up
open PySem PySem.Spec PyProof.Rows L2
/-! ### one step of a reading each -/
section
variable {K : PySem.W.Frag} {D : Ends} {σ : L2.St} {H : Hp} {Q : VK} {ta tb te : TE} {t u : TS} {c d : TT}
theorem g_seq (h : t { D with nx := u D } σ H) : tSeq t u D σ H := h
theorem g_ifs (h : c σ H fun b H1 => if b = true then t D σ H1 else u D σ H1) : tIfS c t u D σ H := h
theorem g_asg {g : TG} (h : te σ H fun x H1 => g x σ H1 D.nx) : tAsg te g D σ H := h
theorem g_name {i : Nat} {v : V} {R : L2.St → Hp → Prop} (h : R (σ.set i (some v)) H) : gName i v σ H R := h
theorem g_drop (h : te σ H fun _ H1 => D.nx σ H1) : tDrop te D σ H := h
theorem g_ret (h : te σ H D.rt) : tRet te D σ H := h
theorem g_retN (h : D.rt .non H) : tRetN D σ H := h
theorem g_next (h : D.nx σ H) : tNext D σ H := h
theorem g_sfld {f : Str} (h : te σ H fun y H1 => ta σ H1 fun x H2 => ∃ a C dx fs, x = .ref a ∧ H2 a = some (.ins C dx fs) ∧ Cls K C ∧ NoAttr K C f ∧ fs.length < 1000 ∧ D.nx σ (upd H2 a (.ins C dx (putF f y fs)))) : sFld K ta te f D σ H := h
theorem g_var {i : Nat} {v : V} (e : σ[i]? = some (some v)) (h : Q v H) : tVar i σ H Q := ⟨v, e, h⟩
theorem g_c {v : V} (h : Q v H) : tC v σ H Q := h
theorem g_op {r : R2} (h : ta σ H fun x H1 => tb σ H1 fun y H2 => r x y H2 Q) : tOp r ta tb σ H Q := h
theorem g_un {r : V → Hp → VK → Prop} (h : ta σ H fun x H1 => r x H1 Q) : tUn r ta σ H Q := h
theorem g_neg {i : Int} (h : Q (.int (-i)) H) : rU (fun i => .int (-i)) (.int i) H Q := ⟨i, rfl, h⟩
theorem g_if (h : c σ H fun b H1 => if b = true then ta σ H1 Q else tb σ H1 Q) : tIf c ta tb σ H Q := h
theorem g_cb {r : List V → Hp → VK → Prop} {t : TA} (h : t σ H fun vs H1 => r vs H1 Q) : tCB r t σ H Q := h
theorem g_cons {t : TA} {R : List V → Hp → Prop} (h : ta σ H fun x H1 => t σ H1 fun xs H2 => R (x :: xs) H2) : tCons ta t σ H R := h
theorem g_nil {R : List V → Hp → Prop} (h : R [] H) : tNil σ H R := h
theorem g_bits (h : ta σ H fun x H1 => ∃ i, x = .int i ∧ Q (.int (Builtin.Int.intBits i : Nat)) H1) : tBits ta σ H Q := h
theorem g_call {sp : Sp} {dvs : List V} {E : XK} {t : TA} (h : t σ H fun vs H1 => sp (vs ++ dvs) H1 Q E) : tCall sp dvs E t σ H Q := h
theorem g_fld {f : Str} (h : ta σ H fun x H1 => ∃ a C dx fs v, x = .ref a ∧ H1 a = some (.ins C dx fs) ∧ Cls K C ∧ NoAttr K C f ∧ fs.lookup f = some v ∧ Q v H1) : tFld K ta f σ H Q := h
theorem g_gtup {n : Nat} {t : TGs} {v : V} {R : L2.St → Hp → Prop} (h : ∃ a xs, v = .ref a ∧ SqT K H a xs ∧ xs.length = n ∧ t xs σ H R) : gTup K n t v σ H R := h
theorem g_gcons {t : TG} {u : TGs} {v : V} {r : List V} {R : L2.St → Hp → Prop} (h : t v σ H fun σ' H' => u r σ' H' R) : gCons t u (v :: r) σ H R := ⟨v, r, rfl, h⟩
theorem g_gnil {R : L2.St → Hp → Prop} (h : R σ H) : gNil [] σ H R := ⟨rfl, h⟩
theorem g_gfld {f : Str} {v : V} {R : L2.St → Hp → Prop} (h : ta σ H fun x H1 => ∃ a C dx fs, x = .ref a ∧ H1 a = some (.ins C dx fs) ∧ Cls K C ∧ NoAttr K C f ∧ fs.length < 1000 ∧ R σ (upd H1 a (.ins C dx (putF f v fs)))) : gFld K ta f v σ H R := h
/-! tests -/
section
variable {R : Bool → Hp → Prop} {T : Bool → Prop}
theorem g_tt (h : ta σ H fun x H' => ∃ k, x = .bl k ∧ R k H') : tTest ta σ H R := h
theorem g_tB (h : ta σ H fun x H' => ∃ k, x = .bl k ∧ R k H') : tB ta σ H R := h
theorem g_bl {b : Bool} (h : T b) : ∃ k, V.bl b = .bl k ∧ T k := ⟨b, rfl, h⟩
theorem g_and (h : c σ H fun k H1 => if k = true then d σ H1 R else R false H1) : tAnd c d σ H R := h
theorem g_or (h : c σ H fun k H1 => if k = true then R true H1 else d σ H1 R) : tOr c d σ H R := h
theorem g_not (h : c σ H fun k H1 => R (!k) H1) : tNot c σ H R := h
theorem g_andV (h : ta σ H fun x H1 => ∃ c, x = .bl c ∧ if c = true then tb σ H1 Q else Q (.bl false) H1) : tAndV ta tb σ H Q := h
theorem g_orV (h : ta σ H fun x H1 => ∃ c, x = .bl c ∧ if c = true then Q (.bl true) H1 else tb σ H1 Q) : tOrV ta tb σ H Q := h
theorem g_notV (h : ta σ H fun x H1 => ∃ c, x = .bl c ∧ Q (.bl (!c)) H1) : tNotV ta σ H Q := h
end
/-! ints -/
section
variable {i j : Int}
theorem g_addI (h : Q (.int (i + j)) H) : oAdd K (.int i) (.int j) H Q := h
theorem g_addS {a b : Str} (hz : a.length + b.length ≤ sizeLine) (h : Q (.str (a ++ b)) H) : oAdd K (.str a) (.str b) H Q := ⟨hz, h⟩
theorem g_subI (h : Q (.int (i - j)) H) : oSub (.int i) (.int j) H Q := h
theorem g_subB {i j : Bool} (h : Q (.int (b2i i - b2i j)) H) : oSub (.bl i) (.bl j) H Q := h
theorem g_mulI (hm : IntMulOk i j) (h : Q (.int (i * j)) H) : oMul (.int i) (.int j) H Q := ⟨hm, h⟩
theorem g_divI (hm : j ≠ 0) (hl : j.natAbs.log2 < 9000) (h : Q (.int (i.fdiv j)) H) : oDiv (.int i) (.int j) H Q := ⟨⟨hm, hl⟩, h⟩
theorem g_modI (hm : j ≠ 0) (h : Q (.int (i.fmod j)) H) : oMod (.int i) (.int j) H Q := ⟨hm, h⟩
theorem g_II {C : Int → Int → Prop} {g : Int → Int → V} (hm : C i j) (h : Q (g i j) H) : oII C g (.int i) (.int j) H Q := ⟨hm, h⟩
theorem g_I0 {g : Int → Int → V} (h : Q (g i j) H) : oI0 g (.int i) (.int j) H Q := h
theorem g_cmpI {g : Int → Int → Bool} {k : Str → Str → Bool} (h : Q (.bl (g i j)) H) : oCmp g k (.int i) (.int j) H Q := h
theorem g_bitsI {T : Int → Prop} (h : T i) : ∃ n, V.int i = .int n ∧ T n := ⟨i, rfl, h⟩
theorem g_eqI (h : Q (.bl (decide (i = j))) H) : oEq K (.int i) (.int j) H Q := by
  refine Or.inl ⟨rfl, ?_⟩
  have e : decide (V.int i = V.int j) = decide (i = j) := by simp
  rw [e]; exact h
theorem g_neI (h : Q (.bl (!decide (i = j))) H) : oNe K (.int i) (.int j) H Q := by
  refine Or.inl ⟨rfl, ?_⟩
  have e : decide (V.int i = V.int j) = decide (i = j) := by simp
  rw [e]; exact h
theorem g_eqS {a b : Str} (h : Q (.bl (decide (a = b))) H) : oEq K (.str a) (.str b) H Q := by
  refine Or.inl ⟨rfl, ?_⟩
  have e : decide (V.str a = V.str b) = decide (a = b) := by simp
  rw [e]; exact h
theorem g_neS {a b : Str} (h : Q (.bl (!decide (a = b))) H) : oNe K (.str a) (.str b) H Q := by
  refine Or.inl ⟨rfl, ?_⟩
  have e : decide (V.str a = V.str b) = decide (a = b) := by simp
  rw [e]; exact h
theorem g_eqB {a b : Bool} (h : Q (.bl (decide (a = b))) H) : oEq K (.bl a) (.bl b) H Q := by
  refine Or.inl ⟨rfl, ?_⟩
  have e : decide (V.bl a = V.bl b) = decide (a = b) := by simp
  rw [e]; exact h
theorem g_neB {a b : Bool} (h : Q (.bl (!decide (a = b))) H) : oNe K (.bl a) (.bl b) H Q := by
  refine Or.inl ⟨rfl, ?_⟩
  have e : decide (V.bl a = V.bl b) = decide (a = b) := by simp
  rw [e]; exact h
theorem g_eqx {x y : V} (hs : scal x y = true) (hn : x ≠ y) (h : Q (.bl false) H) : oEq K x y H Q := by
  refine Or.inl ⟨hs, ?_⟩
  rw [decide_eq_false hn]; exact h
theorem g_nex {x y : V} (hs : scal x y = true) (hn : x ≠ y) (h : Q (.bl true) H) : oNe K x y H Q := by
  refine Or.inl ⟨hs, ?_⟩
  rw [decide_eq_false hn]; exact h
theorem g_isN {x : V} (h : Q (.bl (decide (x = .non))) H) : (fun x y H Q => y = V.non ∧ Q (.bl (decide (x = .non))) H : R2) x .non H Q := ⟨rfl, h⟩
end
/-! ifs -/
theorem g_ite {p : Prop} [Decidable p] {A B : Prop} (h1 : p → A) (h2 : ¬ p → B) : if decide p = true then A else B := by
  by_cases h : p
  · rw [if_pos (decide_eq_true h)]; exact h1 h
  · rw [if_neg (by simp [h])]; exact h2 h
theorem g_iten {p : Prop} [Decidable p] {A B : Prop} (h1 : ¬ p → A) (h2 : p → B) : if (!decide p) = true then A else B := by
  by_cases h : p
  · rw [if_neg (by simp [h])]; exact h2 h
  · rw [if_pos (by simp [h])]; exact h1 h
theorem g_iteb {b : Bool} {A B : Prop} (h1 : b = true → A) (h2 : b = false → B) : if b = true then A else B := by
  cases b
  · exact h2 rfl
  · exact h1 rfl
theorem g_yes {p : Prop} [Decidable p] {A B : Prop} (hp : p) (h : A) : if decide p = true then A else B := by
  rw [if_pos (decide_eq_true hp)]; exact h
theorem g_no {p : Prop} [Decidable p] {A B : Prop} (hp : ¬ p) (h : B) : if decide p = true then A else B := by
  rw [if_neg (by simp [hp])]; exact h
theorem g_cut {t u : TS} (R : L2.St → Hp → Prop) (h1 : t { D with nx := R } σ H) (h2 : ∀ σ' H', R σ' H' → u D σ' H') : C8.tCut t u D σ H := ⟨R, h1, h2⟩
theorem g_meth {C : Addr} {m : Str} {sp : Sp} {dvs : List V} {E : XK} {t : TA} (h : ta σ H fun x H1 => ∃ a dx fs, x = .ref a ∧ H1 a = some (.ins C dx fs) ∧ fs.lookup m = none ∧ t σ H1 fun vs H2 => sp (x :: (vs ++ dvs)) H2 Q E) : tMeth C m sp dvs E ta t σ H Q := h
theorem g_par {i j : Nat} {ta : TA} (h : ta σ H fun vs H1 => ∃ v w, vs = [v, w] ∧ D.nx ((σ.set i (some v)).set j (some w)) H1) : tPar i j ta D σ H := h
theorem g_par2 {a b : V} {T : V → V → Prop} (h : T a b) : ∃ v w, [a, b] = [v, w] ∧ T v w := ⟨a, b, rfl, h⟩
theorem g_rfl {a : V} {T : Prop} (h : T) : a = a ∧ T := ⟨rfl, h⟩
theorem g_ixT {p : Addr} {xs : List V} {i : Int} {v : V} (h : H p = some (.tup xs)) (e : atI xs i = some v) (q : Q v H) : rIx K (.ref p) (.int i) H Q := .inr (.inl ⟨p, xs, i, v, rfl, rfl, SqT.of h, e, q⟩)
theorem g_ixL {p : Addr} {xs : List V} {i : Int} {v : V} (h : H p = some (.lst xs)) (e : atI xs i = some v) (q : Q v H) : rIx K (.ref p) (.int i) H Q := .inl ⟨p, xs, i, v, rfl, rfl, SqL.of h, e, q⟩
/-! loops -/
theorem g_for {wi : TI} {g : TG} {tb : TS} (h : wi σ H fun J H1 => ∃ W : Nat → Nat → L2.St → Hp → Prop, (∃ m, W 0 m σ H1) ∧ ∀ i m σ H, W i m σ H →
  (J.stop i H ∧ D.nx σ H) ∨ (J.go i H ∧ ∃ N : L2.St → Hp → Prop, (∀ σ' H', N σ' H' → ∃ m', m' < m ∧ W (i + 1) m' σ' H') ∧ ∀ x H', J.yld i H x H' → g x σ H' fun σ2 H2 => tb { D with nx := N, ct := N, bk := D.nx } σ2 H2)) : tFor wi g tb D σ H := h
theorem g_iList {R : It → Hp → Prop} (h : te σ H fun x H1 => ∃ a, x = .ref a ∧ (∃ xs, SqL K H1 a xs) ∧ R (Itl K a) H1) : iList K te σ H R := h
theorem g_iTup {R : It → Hp → Prop} (h : te σ H fun x H1 => ∃ a, x = .ref a ∧ (∃ xs, SqT K H1 a xs) ∧ R (Itt K a) H1) : iTup K te σ H R := h
theorem g_iRng1 {ta : TA} {R : It → Hp → Prop} (h : ta σ H fun vs H1 => ∃ j : Int, vs = [.int j] ∧ -(2 ^ 62) ≤ j ∧ j < 2 ^ 62 ∧ R (Itr 0 j.toNat) H1) : iRng1 ta σ H R := h
theorem g_iEnum {ta : TA} {R : It → Hp → Prop} (h : ta σ H fun vs H1 => ∃ a xs, vs = [.ref a] ∧ SqL K H1 a xs ∧ R (Ite K a) H1) : iEnum K ta σ H R := h
theorem g_slice {r : V → Option Int → Option Int → Hp → VK → Prop} {tl th : TO} (h : te σ H fun x H1 => tl σ H1 fun l H2 => th σ H2 fun u H3 => r x l u H3 Q) : tSl r te tl th σ H Q := h
theorem g_po0 {R : Option Int → Hp → Prop} (h : R none H) : tNoPart σ H R := h
theorem g_po1 {R : Option Int → Hp → Prop} (h : te σ H fun x H1 => ∃ i, x = .int i ∧ R (some i) H1) : tPart te σ H R := h
theorem g_poI {i : Int} {T : Int → Prop} (h : T i) : ∃ n, V.int i = .int n ∧ T n := ⟨i, rfl, h⟩
theorem g_gsub {to ti : TE} {t : TSet} {v : V} {R : L2.St → Hp → Prop} (h : to σ H fun o H1 => ti σ H1 fun i H2 => t o i v H2 fun H3 => R σ H3) : gSub to ti t v σ H R := h
theorem g_intI {i : Int} {T : Int → Prop} {U : Prop} (h : T i) : (∃ j, [V.int i] = [.int j] ∧ T j) ∨ U := .inl ⟨i, rfl, h⟩
theorem g_intB {b : Bool} {T : Bool → Prop} {U : Prop} (h : T b) : U ∨ ∃ k, [V.bl b] = [.bl k] ∧ T k := .inr ⟨b, rfl, h⟩
theorem g_setL {p : Addr} {xs : List V} {k : Int} {j : Nat} {v : V} {R : Hp → Prop} (h : H p = some (.lst xs)) (e : ixN xs.length k = some j) (q : ∀ H', H' p = some (.lst (xs.set j v)) → (∀ b, b ≠ p → H' b = H b) → R H') : rSetL (.ref p) (.int k) v H R :=
  ⟨p, xs, k, j, rfl, rfl, h, e, q _ upd_same fun b hb => upd_ne hb⟩
theorem g_max2 {i j : Int} {T : Int → Int → Prop} (h : T i j) : ∃ a b, [V.int i, V.int j] = [.int a, .int b] ∧ T a b := ⟨i, j, rfl, h⟩
theorem g_abs1 {i : Int} {T : Int → Prop} (h : T i) : ∃ a, [V.int i] = [.int a] ∧ T a := ⟨i, rfl, h⟩
theorem g_lenL {p : Addr} {xs : List V} {T : List V → Prop} (h : H p = some (.lst xs)) (q : T xs) : ∃ p' ys, [V.ref p] = [.ref p'] ∧ (SqL K H p' ys ∨ SqT K H p' ys) ∧ T ys := ⟨p, xs, rfl, .inl (SqL.of h), q⟩
theorem g_lc {wi : TI} {g : TG} {tt : TT} {vs : List Nat} (h : wi σ H fun J H1 => ∀ D, H1 D = none → ∃ W : Nat → Nat → Hp → Prop, (∃ m, W 0 m (upd H1 D (.lst []))) ∧ ∀ i m H, W i m H →
  (J.stop i H ∧ Q (.ref D) H) ∨ (J.go i H ∧ ∃ Nx : Hp → Prop, (∀ H', Nx H' → ∃ m', m' < m ∧ W (i + 1) m' H') ∧ ∀ x H', J.yld i H x H' → g x (wipe σ vs) H' fun σ2 H2 => wipe σ2 vs = wipe σ vs ∧ tt σ2 H2 fun b H3 =>
    if b = true then te σ2 H3 fun y H4 => ∃ acc, H4 D = some (.lst acc) ∧ acc.length < sizeLine ∧ Nx (upd H4 D (.lst (acc ++ [y]))) else Nx H3)) : tLc wi g tt te vs σ H Q := h
theorem g_yesT {R : Bool → Hp → Prop} (h : R true H) : tYes σ H R := h
theorem dp_bl : ∀ bs : List Bool, DpAll K H (bs.map V.bl) (bs.map PyData.bool)
  | [] => .nil
  | b :: bs => .cons (.bl b) (dp_bl bs)
theorem g_eqBs {a b : Addr} {bs : List Bool} (ha : H a = some (.lst (bs.map V.bl))) (hb : H b = some (.lst (bs.map V.bl))) (hs : SeqAt.shaped (.list (bs.map PyData.bool)) = true) (q : Q (.bl true) H) : oEq K (.ref a) (.ref b) H Q := by
  refine .inr ⟨_, _, .lst (SqL.of ha) (dp_bl bs), .lst (SqL.of hb) (dp_bl bs), hs, hs, ?_⟩
  rw [SeqAt.eqv_refl _ (SeqAt.canLay_of_shaped hs)]
  exact q
/-! new objects -/
theorem g_tup {t : TA} (h : t σ H fun xs H1 => xs.length ≤ sizeLine ∧ NewAt H1 (.tup xs) Q) : tTupN t σ H Q := h
theorem g_lst {t : TA} (h : t σ H fun xs H1 => xs.length ≤ sizeLine ∧ NewAt H1 (.lst xs) Q) : tLstN t σ H Q := h
theorem g_new {n : Nat} {o : HO} (hn : n ≤ sizeLine) (h : ∀ p H', H p = none → Same H H' → H' p = some o → (∀ b, b ≠ p → H' b = H b) → Q (.ref p) H') : n ≤ sizeLine ∧ NewAt H o Q := ⟨hn, h⟩
theorem g_make {C : Addr} {sp : Sp} {dvs : List V} {E : XK} {t : TA} (h : t σ H fun vs H1 => MakeR C sp (vs ++ dvs) H1 Q E) : tMakeN C sp dvs E t σ H Q := h
end
end Up

set_option Elab.async false
set_option linter.all false
set_option maxRecDepth 100000
set_option maxHeartbeats 4000000
namespace Up
open PySem PySem.Spec PyProof.Rows L2
/-! ### what a call hands back, over a heap in which all that stood stands -/
abbrev Ret (H : Hp) (v : V) (Q : VK) : Prop := ∀ H', Same H H' → Q v H'
abbrev RetT (H : Hp) (xs : List V) (Q : VK) : Prop := ∀ H' a, H a = none → Same H H' → H' a = some (.tup xs) → Q (.ref a) H'
abbrev RetL (H : Hp) (xs : List V) (Q : VK) : Prop := ∀ H' a, H a = none → Same H H' → H' a = some (.lst xs) → Q (.ref a) H'
/-! ### what is known of a value's kind -/
def isI : V → Bool
  | .int _ => true
  | _ => false
def isB : V → Bool
  | .bl _ => true
  | _ => false
def isS : V → Bool
  | .str _ => true
  | _ => false
/-- the classes int, bool, str asked of x -/
structure Kn (K : PySem.W.Frag) (H : Hp) (x : V) (t : Value) : Prop where
  ty : TyX K H x t
  int : PySem.W.kitOne K t (.type "int") = some (isI x || isB x)
  bool : PySem.W.kitOne K t (.type "bool") = some (isB x)
  str : PySem.W.kitOne K t (.type "str") = some (isS x)
theorem kn_non {K : PySem.W.Frag} {H : Hp} : Kn K H .non (.type "NoneType") := ⟨.base .non, kit_ty (r := false) (by decide +kernel), kit_ty (r := false) (by decide +kernel), kit_ty (r := false) (by decide +kernel)⟩
theorem kn_bl {K : PySem.W.Frag} {H : Hp} {b : Bool} : Kn K H (.bl b) (.type "bool") := ⟨.base (.bl b), kit_ty (r := true) (by decide +kernel), kit_ty (r := true) (by decide +kernel), kit_ty (r := false) (by decide +kernel)⟩
theorem kn_int {K : PySem.W.Frag} {H : Hp} {i : Int} : Kn K H (.int i) (.type "int") := ⟨.base (.int i), kit_ty (r := true) (by decide +kernel), kit_ty (r := false) (by decide +kernel), kit_ty (r := false) (by decide +kernel)⟩
theorem kn_str {K : PySem.W.Frag} {H : Hp} {i : Str} : Kn K H (.str i) (.type "str") := ⟨.base (.str i), kit_ty (r := false) (by decide +kernel), kit_ty (r := false) (by decide +kernel), kit_ty (r := true) (by decide +kernel)⟩
theorem kn_lst {K : PySem.W.Frag} {H : Hp} {a : Addr} {xs : List V} (h : H a = some (.lst xs)) : Kn K H (.ref a) (.type "list") := ⟨.base (.lst h), kit_ty (r := false) (by decide +kernel), kit_ty (r := false) (by decide +kernel), kit_ty (r := false) (by decide +kernel)⟩
theorem kn_tup {K : PySem.W.Frag} {H : Hp} {a : Addr} {xs : List V} (h : H a = some (.tup xs)) : Kn K H (.ref a) (.type "tuple") := ⟨.base (.tup h), kit_ty (r := false) (by decide +kernel), kit_ty (r := false) (by decide +kernel), kit_ty (r := false) (by decide +kernel)⟩
theorem kn_dK {K : PySem.W.Frag} {H : Hp} {a : Addr} {xs : List (Key × V)} (h : H a = some (.dK xs)) : Kn K H (.ref a) (.type "dict") := ⟨.base (.dK h), kit_ty (r := false) (by decide +kernel), kit_ty (r := false) (by decide +kernel), kit_ty (r := false) (by decide +kernel)⟩
/-- an own class whose instances are no int, bool, str -/
structure OwnC (K : PySem.W.Frag) (C : Addr) : Prop where
  cl : Cls K C
  ha : PySem.W.findIn K (.ref C) "__class__" = some (some (.builtin "object.__class__"))
  hn : PySem.W.specialIn K (.builtin "object.__class__") "__get__" = some (some (.builtin "getset_descriptor.__get__"))
  htk : PySem.W.takesIn K (.builtin "object.__class__") = some true
  hm : PySem.W.mroIn K C (.type "object") = some true
  int : PySem.W.kitOne K (.ref C) (.type "int") = some false
  bool : PySem.W.kitOne K (.ref C) (.type "bool") = some false
  str : PySem.W.kitOne K (.ref C) (.type "str") = some false
theorem kn_ins {K : PySem.W.Frag} {H : Hp} {a C dx : Addr} {fs : List (Str × V)} (T : OwnC K C) (h : H a = some (.ins C dx fs)) : Kn K H (.ref a) (.ref C) := ⟨.base (.ins h T.cl T.ha T.hn T.htk T.hm), T.int, T.bool, T.str⟩
theorem g_isi {K : PySem.W.Frag} {H : Hp} {Q : VK} {x c : V} {t u : Value} {b : Bool} (ht : TyX K H x t) (hc : ClsV c u) (hk : PySem.W.kitOne K t u = some b) (q : Q (.bl b) H) : rIsi K [x, c] H Q := ⟨x, c, t, u, b, rfl, hc, ht, hk, q⟩
section
variable {K : PySem.W.Frag} {H H' : Hp} {Q : VK} {x : V} {t : Value}
theorem TyX.same (s : Same H H') (h : TyX K H x t) : TyX K H' x t := by
  cases h with
  | base h => cases h with
    | non => exact .base .non
    | bl b => exact .base (.bl b)
    | int b => exact .base (.int b)
    | str b => exact .base (.str b)
    | flt b => exact .base (.flt b)
    | lst e => exact .base (.lst (s _ _ e))
    | frz e => exact .base (.frz (s _ _ e))
    | tup e => exact .base (.tup (s _ _ e))
    | dK e => exact .base (.dK (s _ _ e))
    | dT e => exact .base (.dT (s _ _ e))
    | ins e c h1 h2 h3 h4 => exact .base (.ins (s _ _ e) c h1 h2 h3 h4)
  | byt b => exact .byt b
  | set e => exact .set (s _ _ e)
  | kList e c => exact .kList e c
  | kTuple e c => exact .kTuple e c
  | kDict e c => exact .kDict e c
  | fTuple e => exact .fTuple (s _ _ e)
  | fDict e => exact .fDict (s _ _ e)
theorem Kn.same (s : Same H H') (h : Kn K H x t) : Kn K H' x t := ⟨TyX.same s h.ty, h.int, h.bool, h.str⟩
theorem g_isiInt (h : Kn K H x t) (q : Q (.bl (isI x || isB x)) H) : rIsi K [x, .ty "int"] H Q := g_isi h.ty (.ty _) h.int q
theorem g_isiBool (h : Kn K H x t) (q : Q (.bl (isB x)) H) : rIsi K [x, .ty "bool"] H Q := g_isi h.ty (.ty _) h.bool q
theorem g_isiStr (h : Kn K H x t) (q : Q (.bl (isS x)) H) : rIsi K [x, .ty "str"] H Q := g_isi h.ty (.ty _) h.str q
end
end Up

set_option Elab.async false
set_option linter.all false
set_option maxRecDepth 100000
set_option maxHeartbeats 4000000
namespace Up
open PySem PySem.Spec PyProof.Rows L2
local macro_rules | `(tactic| walk_at "u") => `(tactic| first
  | with_reducible refine g_seq ?_
  | with_reducible refine g_asg ?_
  | with_reducible refine g_op ?_
  | ((with_reducible show tVar _ _ _ _); apply g_var; exact rfl)
  | with_reducible refine g_c ?_
  | with_reducible refine g_name ?_
  | with_reducible refine g_ifs ?_
  | with_reducible refine g_tt ?_
  | with_reducible refine g_tB ?_
  | with_reducible refine g_bl ?_
  | with_reducible refine g_ret ?_
  | with_reducible refine g_cb ?_
  | with_reducible refine g_cons ?_
  | with_reducible refine g_nil ?_
  | with_reducible refine g_call ?_
  | with_reducible refine g_and ?_
  | with_reducible refine g_or ?_
  | with_reducible refine g_not ?_
  | with_reducible refine g_andV ?_
  | with_reducible refine g_orV ?_
  | with_reducible refine g_notV ?_
  | with_reducible refine g_if ?_
  | with_reducible refine g_un ?_
  | with_reducible refine g_neg ?_
  | with_reducible refine g_addI ?_
  | with_reducible refine g_subI ?_
  | with_reducible refine g_subB ?_
  | with_reducible refine g_I0 ?_
  | with_reducible refine g_cmpI ?_
  | with_reducible refine g_eqI ?_
  | with_reducible refine g_neI ?_
  | with_reducible refine g_eqS ?_
  | with_reducible refine g_neS ?_
  | with_reducible refine g_eqB ?_
  | with_reducible refine g_neB ?_
  | with_reducible refine g_bits ?_
  | with_reducible refine g_bitsI ?_
  | with_reducible refine g_fld ?_
  | with_reducible refine g_tup ?_
  | with_reducible refine g_lst ?_
  | with_reducible refine g_gtup ?_
  | with_reducible refine g_make ?_
  | with_reducible refine g_lc ?_
  | with_reducible refine g_yesT ?_
  | with_reducible refine g_intI ?_
  | with_reducible refine g_intB ?_
  | with_reducible refine g_max2 ?_
  | with_reducible refine g_abs1 ?_
  | with_reducible refine g_for ?_
  | with_reducible refine g_iList ?_
  | with_reducible refine g_iTup ?_
  | with_reducible refine g_iRng1 ?_
  | with_reducible refine g_iEnum ?_
  | with_reducible refine g_slice ?_
  | with_reducible refine g_po0 ?_
  | with_reducible refine g_po1 ?_
  | with_reducible refine g_gsub ?_
  | with_reducible refine g_par ?_
  | with_reducible refine g_par2 ?_
  | with_reducible refine g_rfl ?_
  | with_reducible refine g_meth ?_
  | with_reducible refine g_gcons ?_
  | with_reducible refine g_gnil ?_
  | with_reducible refine g_gfld ?_
  | with_reducible refine g_sfld ?_
  | with_reducible refine g_drop ?_
  | with_reducible refine g_next ?_
  | with_reducible refine iteT ?_
  | with_reducible refine iteF ?_)
local macro_rules | `(tactic| walk_at "go") => `(tactic| (repeat walk_at "u"))

section
variable {P : Program} {w : World} {K : PySem.W.Frag} {mg : Str → Option Value} {base : Heap}
/-! is_plain -/
theorem sc_isplain : FnScope ["number"] ["number"] (defScope s_isplain) := ⟨rfl, rfl, rfl, by decide +kernel, rfl, by decide +kernel, by decide +kernel⟩
def sp_isplain (K : PySem.W.Frag) : Sp := fun vs H Q _ => ∃ x t, vs = [x] ∧ Kn K H x t ∧ Q (.bl (isI x)) H
theorem ok_isplain {f : Addr} {fd : FuncData} (F : FunD K "is_plain" "is_plain" (defArgs s_isplain) (defBody s_isplain) (defScope s_isplain) [] [] f fd) (B : Blt mg) : FnOk P w K mg base CX0 1 f fd ["number"] (sp_isplain K) := by
  refine F.ok sc_isplain (fun vs H Q E h => ?_) (fun cdv A outer s H vs Q E hr h => ?_)
  · obtain ⟨x, t, rfl, _⟩ := h; rfl
  · obtain ⟨x, t, rfl, hk, q⟩ := h
    refine ⟨_, PSs.nox (pss_one (ps_ret (pe_and (pe_callB call_isi (by rfl) B.isinstance (by decide +kernel) (pa_cons (pv 0) (pa_cons (pe_tyInt B) pa_nil))) (pe_one (pe_not (pe_callB call_isi (by rfl) B.isinstance (by decide +kernel) (pa_cons (pv 0) (pa_cons (pe_tyBool B) pa_nil)))))))), ?_⟩
    walk_at "go"
    refine g_isiInt hk ?_
    walk_at "go"
    cases x <;> first | exact iteF q | (refine iteT ?_; walk_at "go"; refine g_isiBool hk ?_; walk_at "go"; exact q)
/-! reduced -/
theorem sc_reduced : FnScope ["top", "power", "less"] ["top", "power"] (defScope s_reduced) := ⟨rfl, rfl, rfl, by decide +kernel, rfl, by decide +kernel, by decide +kernel⟩
/-- the lowest bit's place -/
def lowB (n : Int) : Int := ((Builtin.Int.intBits (Builtin.bitAnd n (0 - n)) : Nat) : Int) - 1
def redV : V → Int → V × Int
  | .int n, p => if n = 0 then (.int 0, 0) else (.int (n / 2 ^ (lowB n).toNat), p + lowB n)
  | v, _ => (v, 0)
def isIN (x : V) : Prop := x = .str "inf" ∨ x = .str "nan"
theorem inf_nan : ¬ (("inf" : Str) = "nan") := by decide +kernel
def sp_reduced : Sp := fun vs H Q _ => ∃ x p, vs = [x, .int p] ∧ (isIN x ∨ ∃ n, x = .int n ∧ (n ≠ 0 → 0 ≤ lowB n)) ∧ RetT H [(redV x p).1, .int (redV x p).2] Q
theorem ok_reduced {f : Addr} {fd : FuncData} (F : FunD K "reduced" "reduced" (defArgs s_reduced) (defBody s_reduced) (defScope s_reduced) [] [] f fd) (B : Blt mg) : FnOk P w K mg base CX0 1 f fd ["top", "power"] sp_reduced := by
  refine F.ok sc_reduced (fun vs H Q E h => ?_) (fun cdv A outer s H vs Q E hr h => ?_)
  · obtain ⟨x, t, rfl, _⟩ := h; rfl
  · obtain ⟨x, p, rfl, hx, q⟩ := h
    refine ⟨_, PSs.nox (pss_cons (ps_if (PW.pt (pw_or (pt_cmpR op_in_seq (pv 0) (pe_tupN (pa_cons pe_str (pa_cons pe_str pa_nil))) (by rfl)) (pw_or1 (pt_cmpR (op_oEq hr.units) (pv 0) pe_int (nomark _))))) (pss_one (ps_ret (pe_tupN (pa_cons (pv 0) (pa_cons pe_int pa_nil))))) pss_nil)
  (pss_cons (ps_set (i := 2) sc_reduced.nd rfl (Or.inl rfl) (pe_op op_oSub (pe_bits (pe_op op_oAnd (pv 0) (pe_op op_oSub pe_int (pv 0)))) pe_int))
  (pss_one (ps_ret (pe_tupN (pa_cons (pe_op op_oShr (pv 0) (pv 2)) (pa_cons (pe_op op_oAdd (pv 1) (pv 2)) pa_nil))))))), ?_⟩
    walk_at "go"
    refine g_new (sz rfl) fun a H1 na s1 ha _ => ?_
    rcases hx with (rfl | rfl) | ⟨n, rfl, hn⟩
    · refine ⟨a, _, rfl, .inr (SqT.of ha), rfl, rfl, ?_⟩
      walk_at "go"
      refine iteT ?_
      walk_at "go"
      refine g_new (sz rfl) fun b H2 nb s2 hb _ => ?_
      exact q _ _ (s1.free nb) (s1.trans s2) hb
    · refine ⟨a, _, rfl, .inr (SqT.of ha), rfl, rfl, ?_⟩
      walk_at "go"
      refine iteT ?_
      walk_at "go"
      refine g_new (sz rfl) fun b H2 nb s2 hb _ => ?_
      exact q _ _ (s1.free nb) (s1.trans s2) hb
    · refine ⟨a, _, rfl, .inr (SqT.of ha), rfl, rfl, ?_⟩
      walk_at "go"
      refine iteF ?_
      walk_at "go"
      refine g_ite (fun h0 => ?_) fun h0 => ?_
      · walk_at "go"
        refine g_new (sz rfl) fun b H2 nb s2 hb _ => ?_
        subst h0
        exact q _ _ (s1.free nb) (s1.trans s2) hb
      · walk_at "go"
        refine g_II (hn h0) ?_
        walk_at "go"
        refine g_new (sz rfl) fun b H2 nb s2 hb _ => ?_
        have e : redV (.int n) p = (.int (n / 2 ^ (lowB n).toNat), p + lowB n) := if_neg h0
        rw [e] at q
        exact q _ _ (s1.free nb) (s1.trans s2) hb
/-! fits -/
theorem sc_fits : FnScope ["top", "power"] ["top", "power"] (defScope s_fits) := ⟨rfl, rfl, rfl, by decide +kernel, rfl, by decide +kernel, by decide +kernel⟩
def fitsB (n p : Int) : Bool := (decide (n < 9007199254740992) && (decide (-1074 ≤ p) && decide (((Builtin.Int.intBits n : Nat) : Int) + p ≤ 1024))) || decide (n = 0)
def sp_fits : Sp := fun vs H Q _ => ∃ n p, vs = [.int n, .int p] ∧ Q (.bl (fitsB n p)) H
theorem ok_fits {f : Addr} {fd : FuncData} (F : FunD K "fits" "fits" (defArgs s_fits) (defBody s_fits) (defScope s_fits) [] [] f fd) (B : Blt mg) (i_ROOM : ∃ t, mg "ROOM" = some (.int 9007199254740992 t)) (i_LOWEST : ∃ t, mg "LOWEST" = some (.int (-1074) t)) (i_TOO_GREAT : ∃ t, mg "TOO_GREAT" = some (.int 1024 t)) :
    FnOk P w K mg base CX0 1 f fd ["top", "power"] sp_fits := by
  refine F.ok sc_fits (fun vs H Q E h => ?_) (fun cdv A outer s H vs Q E hr h => ?_)
  · obtain ⟨x, t, rfl, _⟩ := h; rfl
  · obtain ⟨n, p, rfl, q⟩ := h
    refine ⟨_, PSs.nox (pss_one (ps_ret (pe_or (pe_and (pe_cmpR op_oLt (pv 0) (pe_gint i_ROOM) (nomark _)) (pe_and (pe_cmpR op_oGe (pv 1) (pe_gint i_LOWEST) (nomark _)) (pe_one (pe_cmpR op_oLe (pe_op op_oAdd (pe_bits (pv 0)) (pv 1)) (pe_gint i_TOO_GREAT) (nomark _))))) (pe_one (pe_cmpR (op_oEq hr.units) (pv 0) pe_int (nomark _)))))), ?_⟩
    walk_at "go"
    unfold fitsB at q
    refine g_ite (fun h1 => ?_) fun h1 => ?_
    · walk_at "go"
      refine g_ite (fun h2 => ?_) fun h2 => ?_
      · walk_at "go"
        refine g_ite (fun h3 => ?_) fun h3 => ?_
        · simp only [h1, h2, h3, decide_true, Bool.and_self, Bool.true_or] at q
          exact q
        · walk_at "go"
          simp only [h1, h2, h3, decide_true, decide_false, Bool.and_false, Bool.and_self, Bool.false_or] at q
          exact q
      · walk_at "go"
        simp only [h1, h2, decide_true, decide_false, Bool.and_false, Bool.false_and, Bool.false_or] at q
        exact q
    · walk_at "go"
      simp only [h1, decide_false, Bool.false_and, Bool.false_or] at q
      exact q
/-! sign_of -/
theorem sc_signof : FnScope ["is_negative"] ["is_negative"] (defScope s_signof) := ⟨rfl, rfl, rfl, by decide +kernel, rfl, by decide +kernel, by decide +kernel⟩
def sgnB (b : Bool) : Int := if b then -1 else 1
def sp_signof : Sp := fun vs H Q _ => ∃ b, vs = [.bl b] ∧ Q (.int (sgnB b)) H
theorem ok_signof {f : Addr} {fd : FuncData} (F : FunD K "sign_of" "sign_of" (defArgs s_signof) (defBody s_signof) (defScope s_signof) [] [] f fd) : FnOk P w K mg base CX0 1 f fd ["is_negative"] sp_signof := by
  refine F.ok sc_signof (fun vs H Q E h => ?_) (fun cdv A outer s H vs Q E hr h => ?_)
  · obtain ⟨x, rfl, _⟩ := h; rfl
  · obtain ⟨b, rfl, q⟩ := h
    refine ⟨_, PSs.nox (pss_one (ps_ret (pe_ifExp (pt_val (pv 0)) (pe_un un_neg pe_int) pe_int))), ?_⟩
    walk_at "go"
    cases b
    · refine iteF ?_; walk_at "go"; exact q
    · refine iteT ?_; walk_at "go"; exact q
end
end Up

set_option Elab.async false
set_option linter.all false
set_option maxRecDepth 100000
set_option maxHeartbeats 4000000
namespace Up
open PySem
/-! ### numbers of bits, the lowest bit -/
def bitsN (n : Nat) : Nat := if n = 0 then 0 else n.log2 + 1
theorem intBits_nat (n : Nat) : Builtin.Int.intBits (n : Int) = bitsN n := by
  unfold Builtin.Int.intBits bitsN
  by_cases h : n = 0
  · subst h; rfl
  · rw [if_neg h, if_neg (by simpa using h)]
    simp
theorem intBits_neg (n : Int) : Builtin.Int.intBits n = bitsN n.natAbs := by
  unfold Builtin.Int.intBits bitsN
  by_cases h : n = 0
  · subst h; rfl
  · rw [if_neg (by simpa using h), if_neg (by simpa using h)]
theorem bits_lt (n : Nat) : n < 2 ^ bitsN n := by
  unfold bitsN
  by_cases h : n = 0
  · subst h; decide
  · rw [if_neg h]; exact Nat.lt_log2_self
theorem bits_ge {n : Nat} (h : n ≠ 0) : 2 ^ (bitsN n - 1) ≤ n := by
  unfold bitsN
  rw [if_neg h]
  exact Nat.log2_self_le h
theorem bits_le {n k : Nat} (h : n < 2 ^ k) : bitsN n ≤ k := by
  unfold bitsN
  by_cases h0 : n = 0
  · rw [if_pos h0]; exact Nat.zero_le _
  · rw [if_neg h0]
    exact (Nat.log2_lt h0).mpr h
theorem le_bits {n k : Nat} (h : 2 ^ k ≤ n) : k + 1 ≤ bitsN n := by
  rcases Nat.lt_or_ge k (bitsN n) with h1 | h1
  · exact h1
  · have h2 := bits_lt n
    have h3 : 2 ^ bitsN n ≤ 2 ^ k := Nat.pow_le_pow_right (by decide) h1
    omega
theorem bits_pow (k : Nat) : bitsN (2 ^ k) = k + 1 := by
  have h1 := le_bits (n := 2 ^ k) (k := k) (Nat.le_refl _)
  have h2 := bits_le (n := 2 ^ k) (k := k + 1) (Nat.pow_lt_pow_right (by decide) (Nat.lt_succ_self k))
  omega
theorem bits_pos {n : Nat} (h : n ≠ 0) : 1 ≤ bitsN n := by
  unfold bitsN; rw [if_neg h]; omega
def tz (n : Nat) : Nat := if h : n = 0 then 0 else if n % 2 = 1 then 0 else tz (n / 2) + 1
termination_by n
decreasing_by omega
theorem tz_odd {n : Nat} (h : n % 2 = 1) : tz n = 0 := by
  unfold tz
  rw [dif_neg (by omega), if_pos h]
theorem tz_even {n : Nat} (h0 : n ≠ 0) (h : n % 2 = 0) : tz n = tz (n / 2) + 1 := by
  rw [tz, dif_neg h0, if_neg (by omega)]
theorem land_two (a b : Nat) : a &&& b = 2 * ((a / 2) &&& (b / 2)) + (a % 2) * (b % 2) := by
  have h1 : (a &&& b) / 2 = (a / 2) &&& (b / 2) := Nat.and_div_two ..
  have h2 : (a &&& b) % 2 = (a % 2) * (b % 2) := by
    have e := Nat.and_mod_two_pow (a := a) (b := b) (n := 1)
    simp only [Nat.pow_one] at e
    rw [e]
    rcases Nat.mod_two_eq_zero_or_one a with ha | ha <;> rcases Nat.mod_two_eq_zero_or_one b with hb | hb <;> rw [ha, hb] <;> rfl
  omega
theorem land_pred : ∀ (n : Nat), n ≠ 0 → n &&& (n - 1) = n - 2 ^ tz n ∧ 2 ^ tz n ≤ n ∧ n / 2 ^ tz n % 2 = 1 ∧ n / 2 ^ tz n * 2 ^ tz n = n := by
  intro n
  induction n using Nat.strongRecOn with
  | _ n ih =>
    intro h0
    rcases Nat.mod_two_eq_zero_or_one n with he | ho
    · obtain ⟨i1, i2, i3, i4⟩ := ih (n / 2) (by omega) (by omega)
      rw [tz_even h0 he, Nat.pow_succ]
      have e2 : (n - 1) / 2 = n / 2 - 1 := by omega
      have ep : n / (2 ^ tz (n / 2) * 2) = n / 2 / 2 ^ tz (n / 2) := by rw [Nat.mul_comm, Nat.div_div_eq_div_mul]
      refine ⟨?_, by omega, by rw [ep]; exact i3, ?_⟩
      · rw [land_two n (n - 1), e2, i1, he, Nat.zero_mul]
        omega
      · rw [ep, ← Nat.mul_assoc, i4]
        omega
    · rw [tz_odd ho]
      refine ⟨?_, by omega, by simpa using ho, by simp⟩
      rw [land_two n (n - 1)]
      have e2 : (n - 1) / 2 = n / 2 := by omega
      have e3 : (n - 1) % 2 = 0 := by omega
      rw [e2, e3, Nat.and_self, Nat.mul_zero]
      omega
theorem low_bit {n : Nat} (h : n ≠ 0) : Builtin.bitAnd (n : Int) (0 - (n : Int)) = ((2 ^ tz n : Nat) : Int) := by
  rw [PyProof.Rows.bitAnd_pn (by omega) (by omega)]
  have e : (Builtin.bitNot (0 - (n : Int))).toNat = n - 1 := by unfold Builtin.bitNot; omega
  obtain ⟨i1, i2, _⟩ := land_pred n h
  rw [e, Int.toNat_natCast, i1]
  omega
theorem low_bits {n : Nat} (h : n ≠ 0) : ((Builtin.Int.intBits (Builtin.bitAnd (n : Int) (0 - (n : Int))) : Nat) : Int) - 1 = (tz n : Int) := by
  rw [low_bit h, intBits_nat, bits_pow]
  omega
theorem bits_shift {n : Nat} (h : n ≠ 0) : bitsN (n / 2 ^ tz n) + tz n = bitsN n := by
  obtain ⟨_, _, i3, i4⟩ := land_pred n h
  have hm : n / 2 ^ tz n ≠ 0 := by intro z; rw [z] at i3; omega
  generalize n / 2 ^ tz n = m at *
  generalize tz n = v at *
  have h1 := bits_lt m
  have h2 := bits_ge hm
  have h3 := bits_pos hm
  have a : bitsN n ≤ bitsN m + v := bits_le (by
    rw [← i4, Nat.pow_add]
    exact Nat.mul_lt_mul_of_pos_right h1 (Nat.two_pow_pos _))
  have b : bitsN m - 1 + v + 1 ≤ bitsN n := le_bits (by
    rw [← i4, Nat.pow_add]
    exact Nat.mul_le_mul_right _ h2)
  omega
end Up

set_option Elab.async false
set_option linter.all false
set_option maxRecDepth 100000
set_option maxHeartbeats 4000000
namespace Up
open PySem PySem.Spec PyProof.Rows L2
local macro_rules | `(tactic| walk_at "u") => `(tactic| first
  | with_reducible refine g_seq ?_
  | with_reducible refine g_asg ?_
  | with_reducible refine g_op ?_
  | ((with_reducible show tVar _ _ _ _); apply g_var; exact rfl)
  | with_reducible refine g_c ?_
  | with_reducible refine g_name ?_
  | with_reducible refine g_ifs ?_
  | with_reducible refine g_tt ?_
  | with_reducible refine g_tB ?_
  | with_reducible refine g_bl ?_
  | with_reducible refine g_ret ?_
  | with_reducible refine g_cb ?_
  | with_reducible refine g_cons ?_
  | with_reducible refine g_nil ?_
  | with_reducible refine g_call ?_
  | with_reducible refine g_and ?_
  | with_reducible refine g_or ?_
  | with_reducible refine g_not ?_
  | with_reducible refine g_andV ?_
  | with_reducible refine g_orV ?_
  | with_reducible refine g_notV ?_
  | with_reducible refine g_if ?_
  | with_reducible refine g_un ?_
  | with_reducible refine g_neg ?_
  | with_reducible refine g_addI ?_
  | with_reducible refine g_subI ?_
  | with_reducible refine g_subB ?_
  | with_reducible refine g_I0 ?_
  | with_reducible refine g_cmpI ?_
  | with_reducible refine g_eqI ?_
  | with_reducible refine g_neI ?_
  | with_reducible refine g_eqS ?_
  | with_reducible refine g_neS ?_
  | with_reducible refine g_eqB ?_
  | with_reducible refine g_neB ?_
  | with_reducible refine g_bits ?_
  | with_reducible refine g_bitsI ?_
  | with_reducible refine g_fld ?_
  | with_reducible refine g_tup ?_
  | with_reducible refine g_lst ?_
  | with_reducible refine g_gtup ?_
  | with_reducible refine g_make ?_
  | with_reducible refine g_lc ?_
  | with_reducible refine g_yesT ?_
  | with_reducible refine g_intI ?_
  | with_reducible refine g_intB ?_
  | with_reducible refine g_max2 ?_
  | with_reducible refine g_abs1 ?_
  | with_reducible refine g_for ?_
  | with_reducible refine g_iList ?_
  | with_reducible refine g_iTup ?_
  | with_reducible refine g_iRng1 ?_
  | with_reducible refine g_iEnum ?_
  | with_reducible refine g_slice ?_
  | with_reducible refine g_po0 ?_
  | with_reducible refine g_po1 ?_
  | with_reducible refine g_gsub ?_
  | with_reducible refine g_par ?_
  | with_reducible refine g_par2 ?_
  | with_reducible refine g_rfl ?_
  | with_reducible refine g_meth ?_
  | with_reducible refine g_gcons ?_
  | with_reducible refine g_gnil ?_
  | with_reducible refine g_gfld ?_
  | with_reducible refine g_sfld ?_
  | with_reducible refine g_drop ?_
  | with_reducible refine g_next ?_
  | with_reducible refine iteT ?_
  | with_reducible refine iteF ?_)
local macro_rules | `(tactic| walk_at "go") => `(tactic| (repeat walk_at "u"))

/-! ### Float: what its instances are -/
def flF (s : Int) (t : V) (p : Int) : List (Str × V) := [("sign", .int s), ("top", t), ("power", .int p)]
theorem fl_put (s : Int) (t : V) (p : Int) : putF "power" (.int p) (putF "top" t (putF "sign" (.int s) [])) = flF s t p := rfl
theorem fl_sign (s : Int) (t : V) (p : Int) : (flF s t p).lookup ("sign" : Str) = some (.int s) := rfl
theorem fl_top (s : Int) (t : V) (p : Int) : (flF s t p).lookup ("top" : Str) = some t := rfl
theorem fl_power (s : Int) (t : V) (p : Int) : (flF s t p).lookup ("power" : Str) = some (.int p) := rfl
def FlAt (C : Addr) (H : Hp) (a : Addr) (s : Int) (t : V) (p : Int) : Prop := ∃ dx, H a = some (.ins C dx (flF s t p))
theorem FlAt.same {C : Addr} {H H' : Hp} {a : Addr} {s : Int} {t : V} {p : Int} (h : FlAt C H a s t p) (e : Same H H') : FlAt C H' a s t p := by
  obtain ⟨dx, h⟩ := h
  exact ⟨dx, e _ _ h⟩
/-- a right float's parts -/
def FinOk (n p : Int) : Prop := 0 ≤ n ∧ n < 2 ^ 53 ∧ -1074 ≤ p ∧ ((Builtin.Int.intBits n : Nat) : Int) + p ≤ 1024 ∧ (n = 0 → p = 0) ∧ (n ≠ 0 → n % 2 = 1)
def FlOk (s : Int) (t : V) (p : Int) : Prop := (s = 1 ∨ s = -1) ∧ ((t = .str "nan" ∧ s = 1 ∧ p = 0) ∨ (t = .str "inf" ∧ p = 0) ∨ ∃ n, t = .int n ∧ FinOk n p)
/-- what the text says of the class Float, at C -/
structure FlC (K : PySem.W.Frag) (mg : Str → Option Value) (C : Addr) : Prop where
  own : OwnC K C
  nS : NoAttr K C "sign"
  nT : NoAttr K C "top"
  nP : NoAttr K C "power"
  mg : mg "Float" = some (.ref C)
  yes : PySem.W.kitOne K (.ref C) (.ref C) = some true
  fi : PySem.W.kitOne K (.type "int") (.ref C) = some false
  fb : PySem.W.kitOne K (.type "bool") (.ref C) = some false
  fs : PySem.W.kitOne K (.type "str") (.ref C) = some false
  fn : PySem.W.kitOne K (.type "NoneType") (.ref C) = some false
  fl : PySem.W.kitOne K (.type "list") (.ref C) = some false
  ft : PySem.W.kitOne K (.type "tuple") (.ref C) = some false
  fd : PySem.W.kitOne K (.type "dict") (.ref C) = some false
section
variable {P : Program} {w : World} {K : PySem.W.Frag} {mg : Str → Option Value} {base : Heap} {C : Addr}
/-- what Float(s, top, p) asks, and the parts that it gets -/
def MkOk (s : Int) (top : V) (p : Int) : Prop := (s = 1 ∨ s = -1) ∧ ((top = .str "nan" ∧ s = 1 ∧ p = 0) ∨ (top = .str "inf" ∧ p = 0) ∨ ∃ n : Nat, top = .int n ∧ ∃ m, (redV top p).1 = .int m ∧ fitsB m (redV top p).2 = true)
theorem sc_Float_init : FnScope ["self", "sign", "top", "power"] ["self", "sign", "top", "power"] (defScope s_Float_init) := ⟨rfl, rfl, rfl, by decide +kernel, rfl, by decide +kernel, by decide +kernel⟩
def sp_Finit (C : Addr) : Sp := fun vs H Q _ => ∃ a dx s top p, vs = [.ref a, .int s, top, .int p] ∧ H a = some (.ins C dx []) ∧ MkOk s top p ∧
  ∀ H', (∀ b o, b ≠ a → H b = some o → H' b = some o) → H' a = some (.ins C dx (flF s (redV top p).1 (redV top p).2)) → Q .non H'
theorem lowB_nat {n : Nat} (h : n ≠ 0) : lowB (n : Int) = (tz n : Int) := low_bits h
theorem ok_Finit {f : Addr} {fd : FuncData} (F : FunD K "__init__" "Float.__init__" (defArgs s_Float_init) (defBody s_Float_init) (defScope s_Float_init) [] [] f fd) (B : Blt mg) (T : FlC K mg C) (c_isplain : Fn P w K mg base CX0 1 "is_plain" ["number"] [] (sp_isplain K)) (c_reduced : Fn P w K mg base CX0 1 "reduced" ["top", "power"] [] sp_reduced)
    (c_fits : Fn P w K mg base CX0 1 "fits" ["top", "power"] [] sp_fits) : FnOk P w K mg base CX0 2 f fd ["self", "sign", "top", "power"] (sp_Finit C) := by
  refine F.ok sc_Float_init (fun vs H Q E h => ?_) (fun cdv A outer s H vs Q E hr h => ?_)
  · obtain ⟨a, dx, s, top, p, rfl, _⟩ := h; rfl
  · obtain ⟨a, dx, sg, top, p, rfl, ha, ⟨hs, hk⟩, q⟩ := h
    refine ⟨_, PSs.nox (pss_cons (ps_if (PW.pt (pw_or (pt_not (pt_val (pe_fn c_isplain (hr.mono (by first | decide | omega)) pass0 (pa_cons (pv 1) pa_nil)))) (pw_or1 (pt_cmpR op_notIn_seq (pv 1) (pe_tupN (pa_cons pe_int (pa_cons (pe_un un_neg pe_int) pa_nil))) (by rfl))))) (pss_one ps_never) pss_nil)
  (C8.pss_cut (ps_if (PW.pt (pw_and (pt_val (pe_callB call_isi (by rfl) B.isinstance (by decide +kernel) (pa_cons (pv 2) (pa_cons (pe_tyStr B) pa_nil)))) (pw_and1 (pt_cmpR op_in_seq (pv 2) (pe_tupN (pa_cons pe_str (pa_cons pe_str pa_nil))) (by rfl))))) (pss_cons (ps_if (PW.pt (pw_and (pt_cmpR (op_oEq hr.units) (pv 2) pe_str (nomark _)) (pw_and1 (pt_cmpR (op_oEq hr.units) (pv 1) (pe_un un_neg pe_int) (nomark _))))) (pss_one ps_never) pss_nil)
  (pss_one (ps_if (PW.pt (pw_or (pt_not (pt_val (pe_fn c_isplain (hr.mono (by first | decide | omega)) pass0 (pa_cons (pv 3) pa_nil)))) (pw_or1 (pt_cmpR (op_oNe hr.units) (pv 3) pe_int (nomark _))))) (pss_one ps_never) pss_nil))) (pss_one (ps_if (PW.pt (pw_or (pt_not (pt_val (pe_fn c_isplain (hr.mono (by first | decide | omega)) pass0 (pa_cons (pv 2) pa_nil)))) (pw_or1 (pt_cmpR op_oLt (pv 2) pe_int (nomark _))))) (pss_one ps_never) (pss_one (ps_if (pt_not (pt_val (pe_fn c_isplain (hr.mono (by first | decide | omega)) pass0 (pa_cons (pv 3) pa_nil)))) (pss_one ps_never) pss_nil)))))
  (pss_cons (ps_fld (pv 0) (pv 1) rfl)
  (pss_cons (ps_asg (pe_fn c_reduced (hr.mono (by first | decide | omega)) pass0 (pa_cons (pv 2) (pa_cons (pv 3) pa_nil))) (pg_tup rfl (pgs_cons (pg_fld (pv 0)) (pgs_cons (pg_fld (pv 0)) pgs_nil))))
  (pss_one (ps_if (PW.pt (pw_and (pt_cmpR op_notIn_seq (pe_fld (pv 0) rfl) (pe_tupN (pa_cons pe_str (pa_cons pe_str pa_nil))) (by rfl)) (pw_and1 (pt_not (pt_val (pe_fn c_fits (hr.mono (by first | decide | omega)) pass0 (pa_cons (pe_fld (pv 0) rfl) (pa_cons (pe_fld (pv 0) rfl) pa_nil)))))))) (pss_one ps_never) pss_nil)))))), ?_⟩
    walk_at "go"
    refine ⟨_, _, rfl, kn_int, ?_⟩
    walk_at "go"
    refine iteF ?_
    walk_at "go"
    refine g_new (sz rfl) fun a1 H1 na1 s1 ha1 _ => ?_
    refine ⟨a1, _, rfl, .inr (SqT.of ha1), rfl, rfl, ?_⟩
    walk_at "go"
    have hin : (if true = true then !inV (V.int sg) [V.int 1, V.int (-1)] else inV (V.int sg) [V.int 1, V.int (-1)]) = false := by
      rcases hs with rfl | rfl <;> rfl
    rw [hin]
    walk_at "go"
    refine g_cut (fun σ' H2 => σ' = [some (.ref a), some (.int sg), some top, some (.int p)] ∧ Same H1 H2 ∧ (isIN top ∨ ∃ n : Int, top = .int n ∧ (n ≠ 0 → 0 ≤ lowB n)) ∧ (isIN top ∧ (redV top p).1 = top ∨ ∃ m, (redV top p).1 = .int m ∧ fitsB m (redV top p).2 = true)) ?_ ?_
    · walk_at "go"
      rcases hk with ⟨rfl, rfl, rfl⟩ | ⟨rfl, rfl⟩ | ⟨n, rfl, m, hm, hf⟩
      · refine g_isiStr kn_str ?_
        walk_at "go"
        refine iteT ?_
        walk_at "go"
        refine g_new (sz rfl) fun a2 H2 na2 s2 ha2 _ => ?_
        refine ⟨a2, _, rfl, .inr (SqT.of ha2), rfl, rfl, ?_⟩
        walk_at "go"
        refine iteT ?_
        walk_at "go"
        refine g_yes rfl ?_
        walk_at "go"
        refine g_no (by decide) ?_
        walk_at "go"
        refine ⟨_, _, rfl, kn_int, ?_⟩
        walk_at "go"
        refine iteF ?_
        walk_at "go"
        refine iteF ?_
        walk_at "go"
        exact ⟨rfl, s2, .inl (.inr rfl), .inl ⟨.inr rfl, rfl⟩⟩
      · refine g_isiStr kn_str ?_
        walk_at "go"
        refine iteT ?_
        walk_at "go"
        refine g_new (sz rfl) fun a2 H2 na2 s2 ha2 _ => ?_
        refine ⟨a2, _, rfl, .inr (SqT.of ha2), rfl, rfl, ?_⟩
        walk_at "go"
        refine iteT ?_
        walk_at "go"
        refine g_no (by decide +kernel) ?_
        walk_at "go"
        refine ⟨_, _, rfl, kn_int, ?_⟩
        walk_at "go"
        refine iteF ?_
        walk_at "go"
        refine iteF ?_
        walk_at "go"
        exact ⟨rfl, s2, .inl (.inl rfl), .inl ⟨.inl rfl, rfl⟩⟩
      · refine g_isiStr kn_int ?_
        walk_at "go"
        refine iteF ?_
        walk_at "go"
        refine ⟨_, _, rfl, kn_int, ?_⟩
        walk_at "go"
        refine iteF ?_
        walk_at "go"
        refine g_no (by omega) ?_
        walk_at "go"
        refine ⟨_, _, rfl, kn_int, ?_⟩
        walk_at "go"
        refine iteF ?_
        walk_at "go"
        refine ⟨rfl, Same.refl _, .inr ⟨_, rfl, fun h => ?_⟩, .inr ⟨m, hm, hf⟩⟩
        rw [lowB_nat (by omega)]
        omega
    · rintro σ' H2 ⟨rfl, s2, hx, hy⟩
      have h2 := s2 _ _ (s1 _ _ ha)
      walk_at "go"
      refine ⟨a, C, dx, _, rfl, h2, T.own.cl, T.nS, Nat.le_of_ble_eq_true rfl, ?_⟩
      walk_at "go"
      refine ⟨_, _, rfl, hx, fun H3 a3 na3 s3 ha3 => ?_⟩
      have h3 : H3 a = some (.ins C dx (putF "sign" (.int sg) [])) := s3 _ _ upd_same
      have n3 : a3 ≠ a := fun z => by rw [z, upd_same] at na3; cases na3
      walk_at "go"
      refine ⟨a3, _, rfl, SqT.of ha3, rfl, ?_⟩
      walk_at "go"
      refine ⟨a, C, dx, _, rfl, h3, T.own.cl, T.nT, Nat.le_of_ble_eq_true rfl, ?_⟩
      walk_at "go"
      refine ⟨a, C, dx, _, rfl, upd_same, T.own.cl, T.nP, Nat.le_of_ble_eq_true rfl, ?_⟩
      walk_at "go"
      generalize e4 : upd (upd H3 a (.ins C dx (putF "top" (redV top p).1 (putF "sign" (.int sg) [])))) a (.ins C dx (putF "power" (.int (redV top p).2) (putF "top" (redV top p).1 (putF "sign" (.int sg) [])))) = H4
      have h4 : H4 a = some (.ins C dx (flF sg (redV top p).1 (redV top p).2)) := by rw [← e4]; exact upd_same
      have k4 : ∀ b o, b ≠ a → H b = some o → H4 b = some o := fun b o hb e => by
        rw [← e4, upd_ne hb, upd_ne hb]
        exact s3 _ _ (by rw [upd_ne hb]; exact s2 _ _ (s1 _ _ e))
      refine ⟨a, C, dx, _, _, rfl, h4, T.own.cl, T.nT, fl_top _ _ _, ?_⟩
      walk_at "go"
      refine g_new (sz rfl) fun a5 H5 na5 s5 ha5 _ => ?_
      have fin : ∀ H6, Same H5 H6 → Q .non H6 := fun H6 s6 => q H6 (fun b o hb e => s6 _ _ (s5 _ _ (k4 b o hb e))) (s6 _ _ (s5 _ _ h4))
      rcases hy with ⟨hn, hr⟩ | ⟨m, hm, hf⟩
      · rw [hr]
        refine ⟨a5, _, rfl, .inr (SqT.of ha5), by rcases hn with rfl | rfl <;> rfl, rfl, ?_⟩
        walk_at "go"
        have e : (if true = true then !inV top [V.str "inf", V.str "nan"] else inV top [V.str "inf", V.str "nan"]) = false := by
          rcases hn with rfl | rfl <;> decide +kernel
        rw [e]
        walk_at "go"
        exact fin _ (Same.refl _)
      · rw [hm]
        refine ⟨a5, _, rfl, .inr (SqT.of ha5), rfl, rfl, ?_⟩
        walk_at "go"
        have e : (if true = true then !inV (.int m) [V.str "inf", V.str "nan"] else inV (.int m) [V.str "inf", V.str "nan"]) = true := rfl
        rw [e]
        walk_at "go"
        refine ⟨a, C, dx, _, _, rfl, s5 _ _ h4, T.own.cl, T.nT, fl_top _ _ _, ?_⟩
        walk_at "go"
        refine ⟨a, C, dx, _, _, rfl, s5 _ _ h4, T.own.cl, T.nP, fl_power _ _ _, ?_⟩
        walk_at "go"
        refine ⟨m, _, by rw [hm]; rfl, ?_⟩
        walk_at "go"
        rw [hf]
        walk_at "go"
        exact fin _ (Same.refl _)
end
end Up

set_option Elab.async false
set_option linter.all false
set_option maxRecDepth 100000
set_option maxHeartbeats 4000000
namespace Up
open PySem
/-! ### the nearest float to a fraction: power, scaled parts, rounding -/
def nrP (t b : Nat) : Int := if (-1074 : Int) > (bitsN t : Int) - (bitsN b : Int) - 53 then -1074 else (bitsN t : Int) - (bitsN b : Int) - 53
def nrT (t : Nat) (p : Int) : Nat := if p < 0 then t * 2 ^ (0 - p).toNat else t
def nrB (b : Nat) (p : Int) : Nat := if p < 0 then b else b * 2 ^ p.toNat
def nrBig (t b : Nat) : Bool := decide (9007199254740992 ≤ nrT t (nrP t b) / nrB b (nrP t b))
def nrB2 (t b : Nat) : Nat := if nrBig t b then nrB b (nrP t b) * 2 else nrB b (nrP t b)
def nrP2 (t b : Nat) : Int := if nrBig t b then nrP t b + 1 else nrP t b
def nrQ (t b : Nat) : Nat := nrT t (nrP t b) / nrB2 t b
def nrR (t b : Nat) : Nat := nrT t (nrP t b) % nrB2 t b
def nrUp (t b : Nat) : Bool := decide (nrB2 t b < 2 * nrR t b) || (decide (2 * nrR t b = nrB2 t b) && decide (nrQ t b % 2 = 1))
def nrW (t b : Nat) : Nat := if nrUp t b then nrQ t b + 1 else nrQ t b
theorem nrP_lo (t b : Nat) : -1074 ≤ nrP t b := by unfold nrP; split <;> omega
theorem nrP_ge (t b : Nat) : (bitsN t : Int) - (bitsN b : Int) - 53 ≤ nrP t b := by unfold nrP; split <;> omega
theorem nrP_hi {t b : Nat} : nrP t b ≤ bitsN t := by unfold nrP; split <;> omega
theorem nrB_pos {b : Nat} (hb : 0 < b) (p : Int) : 0 < nrB b p := by
  unfold nrB; split
  · exact hb
  · exact Nat.mul_pos hb (Nat.two_pow_pos _)
theorem nrB2_pos {t b : Nat} (hb : 0 < b) : 0 < nrB2 t b := by
  unfold nrB2; split
  · exact Nat.mul_pos (nrB_pos hb _) (by decide)
  · exact nrB_pos hb _
/-- the scaled quotient is below 2 ^ 54 -/
theorem nr_lt54 {t b : Nat} (hb : 0 < b) : nrT t (nrP t b) / nrB b (nrP t b) < 2 ^ 54 := by
  rw [Nat.div_lt_iff_lt_mul (nrB_pos hb _)]
  have h1 := bits_lt t
  have h2 := bits_ge (n := b) (by omega)
  have h3 := bits_pos (n := b) (by omega)
  have h4 := nrP_ge t b
  unfold nrT nrB
  by_cases hp : nrP t b < 0
  · rw [if_pos hp, if_pos hp]
    have e1 : t * 2 ^ (0 - nrP t b).toNat < 2 ^ (bitsN t) * 2 ^ (0 - nrP t b).toNat := Nat.mul_lt_mul_of_pos_right h1 (Nat.two_pow_pos _)
    rw [← Nat.pow_add] at e1
    have e2 : 2 ^ (bitsN t + (0 - nrP t b).toNat) ≤ 2 ^ (54 + (bitsN b - 1)) := Nat.pow_le_pow_right (by decide) (by omega)
    rw [Nat.pow_add 2 54] at e2
    have e3 : 2 ^ 54 * 2 ^ (bitsN b - 1) ≤ 2 ^ 54 * b := Nat.mul_le_mul_left _ h2
    omega
  · rw [if_neg hp, if_neg hp]
    have e2 : 2 ^ bitsN t ≤ 2 ^ (54 + ((bitsN b - 1) + (nrP t b).toNat)) := Nat.pow_le_pow_right (by decide) (by omega)
    rw [Nat.pow_add 2 54, Nat.pow_add 2 (bitsN b - 1)] at e2
    have e3 : 2 ^ (bitsN b - 1) * 2 ^ (nrP t b).toNat ≤ b * 2 ^ (nrP t b).toNat := Nat.mul_le_mul_right _ h2
    have e4 : 2 ^ 54 * (2 ^ (bitsN b - 1) * 2 ^ (nrP t b).toNat) ≤ 2 ^ 54 * (b * 2 ^ (nrP t b).toNat) := Nat.mul_le_mul_left _ e3
    omega
theorem nrQ_lt {t b : Nat} (hb : 0 < b) : nrQ t b < 2 ^ 53 := by
  have h := nr_lt54 (t := t) hb
  unfold nrQ nrB2
  by_cases hg : nrBig t b = true
  · rw [if_pos hg, ← Nat.div_div_eq_div_mul]
    omega
  · rw [if_neg hg]
    have h2 : ¬ 9007199254740992 ≤ nrT t (nrP t b) / nrB b (nrP t b) := fun z => hg (decide_eq_true z)
    omega
theorem nrW_le {t b : Nat} (hb : 0 < b) : nrW t b ≤ 2 ^ 53 := by
  have h := nrQ_lt (t := t) hb
  unfold nrW; split <;> omega
theorem nrP2_lo (t b : Nat) : -1074 ≤ nrP2 t b := by
  have := nrP_lo t b
  unfold nrP2; split <;> omega
theorem nrB2_bits {t b m : Nat} (h1 : bitsN t ≤ m) (h2 : bitsN b ≤ m) (hb : 0 < b) : nrB2 t b < 2 ^ (m + 1) := by
  have h3 := bits_lt b
  have h4 := bits_pos (n := b) (by omega)
  have hB : nrB b (nrP t b) < 2 ^ m := by
    unfold nrB
    by_cases hp : nrP t b < 0
    · rw [if_pos hp]
      exact Nat.lt_of_lt_of_le h3 (Nat.pow_le_pow_right (by decide) h2)
    · rw [if_neg hp]
      have hx : nrP t b = (bitsN t : Int) - (bitsN b : Int) - 53 := by
        have hp' := hp
        unfold nrP at hp' ⊢
        split at hp' <;> rename_i hc
        · omega
        · rw [if_neg hc]
      have e1 : b * 2 ^ (nrP t b).toNat < 2 ^ bitsN b * 2 ^ (nrP t b).toNat := Nat.mul_lt_mul_of_pos_right h3 (Nat.two_pow_pos _)
      rw [← Nat.pow_add] at e1
      exact Nat.lt_of_lt_of_le e1 (Nat.pow_le_pow_right (by decide) (by omega))
  unfold nrB2
  rw [Nat.pow_succ]
  split <;> omega
end Up

set_option Elab.async false
set_option linter.all false
set_option maxRecDepth 100000
set_option maxHeartbeats 4000000
set_option exponentiation.threshold 200000
namespace Up
open PySem PySem.Spec PyProof.Rows L2
local macro_rules | `(tactic| walk_at "u") => `(tactic| first
  | with_reducible refine g_seq ?_
  | with_reducible refine g_asg ?_
  | with_reducible refine g_op ?_
  | ((with_reducible show tVar _ _ _ _); apply g_var; exact rfl)
  | with_reducible refine g_c ?_
  | with_reducible refine g_name ?_
  | with_reducible refine g_ifs ?_
  | with_reducible refine g_tt ?_
  | with_reducible refine g_tB ?_
  | with_reducible refine g_bl ?_
  | with_reducible refine g_ret ?_
  | with_reducible refine g_cb ?_
  | with_reducible refine g_cons ?_
  | with_reducible refine g_nil ?_
  | with_reducible refine g_call ?_
  | with_reducible refine g_and ?_
  | with_reducible refine g_or ?_
  | with_reducible refine g_not ?_
  | with_reducible refine g_andV ?_
  | with_reducible refine g_orV ?_
  | with_reducible refine g_notV ?_
  | with_reducible refine g_if ?_
  | with_reducible refine g_un ?_
  | with_reducible refine g_neg ?_
  | with_reducible refine g_addI ?_
  | with_reducible refine g_subI ?_
  | with_reducible refine g_subB ?_
  | with_reducible refine g_I0 ?_
  | with_reducible refine g_cmpI ?_
  | with_reducible refine g_eqI ?_
  | with_reducible refine g_neI ?_
  | with_reducible refine g_eqS ?_
  | with_reducible refine g_neS ?_
  | with_reducible refine g_eqB ?_
  | with_reducible refine g_neB ?_
  | with_reducible refine g_bits ?_
  | with_reducible refine g_bitsI ?_
  | with_reducible refine g_fld ?_
  | with_reducible refine g_tup ?_
  | with_reducible refine g_lst ?_
  | with_reducible refine g_gtup ?_
  | with_reducible refine g_make ?_
  | with_reducible refine g_lc ?_
  | with_reducible refine g_yesT ?_
  | with_reducible refine g_intI ?_
  | with_reducible refine g_intB ?_
  | with_reducible refine g_max2 ?_
  | with_reducible refine g_abs1 ?_
  | with_reducible refine g_for ?_
  | with_reducible refine g_iList ?_
  | with_reducible refine g_iTup ?_
  | with_reducible refine g_iRng1 ?_
  | with_reducible refine g_iEnum ?_
  | with_reducible refine g_slice ?_
  | with_reducible refine g_po0 ?_
  | with_reducible refine g_po1 ?_
  | with_reducible refine g_gsub ?_
  | with_reducible refine g_par ?_
  | with_reducible refine g_par2 ?_
  | with_reducible refine g_rfl ?_
  | with_reducible refine g_meth ?_
  | with_reducible refine g_gcons ?_
  | with_reducible refine g_gnil ?_
  | with_reducible refine g_gfld ?_
  | with_reducible refine g_sfld ?_
  | with_reducible refine g_drop ?_
  | with_reducible refine g_next ?_
  | with_reducible refine iteT ?_
  | with_reducible refine iteF ?_)
local macro_rules | `(tactic| walk_at "go") => `(tactic| (repeat walk_at "u"))

/-! ### parts of a float that was made -/
theorem red_nat {n : Nat} (h : n ≠ 0) (p : Int) : redV (.int n) p = (.int ((n / 2 ^ tz n : Nat) : Int), p + (tz n : Int)) := by
  have e : redV (.int n) p = (.int ((n : Int) / 2 ^ (lowB n).toNat), p + lowB n) := if_neg (by omega)
  rw [e, lowB_nat h]
  simp
theorem red_zero (p : Int) : redV (.int 0) p = (.int 0, 0) := rfl
theorem fits_of {n : Nat} {p : Int} (h1 : n ≤ 2 ^ 53) (h2 : -1074 ≤ p) (h3 : (bitsN n : Int) + p ≤ 1024) : ∃ m, (redV (.int n) p).1 = .int m ∧ fitsB m (redV (.int n) p).2 = true := by
  by_cases h0 : n = 0
  · subst h0
    exact ⟨0, rfl, by show fitsB 0 0 = true; decide⟩
  · rw [red_nat h0]
    refine ⟨_, rfl, ?_⟩
    obtain ⟨_, i2, i3, i4⟩ := land_pred n h0
    have hb := bits_shift h0
    have hle : n / 2 ^ tz n ≤ n := Nat.div_le_self _ _
    unfold fitsB
    rw [intBits_nat]
    have a1 : ((n / 2 ^ tz n : Nat) : Int) < 9007199254740992 := by
      have : n / 2 ^ tz n ≠ 2 ^ 53 := by intro z; rw [z] at i3; exact absurd i3 (by decide)
      omega
    have a2 : -1074 ≤ p + (tz n : Int) := by omega
    have a3 : ((bitsN (n / 2 ^ tz n) : Nat) : Int) + (p + (tz n : Int)) ≤ 1024 := by omega
    rw [decide_eq_true a1, decide_eq_true a2, decide_eq_true a3]
    rfl
theorem mk_flok {s : Int} {top : V} {p : Int} (h : MkOk s top p) : FlOk s (redV top p).1 (redV top p).2 := by
  obtain ⟨hs, h⟩ := h
  refine ⟨hs, ?_⟩
  rcases h with ⟨rfl, h1, rfl⟩ | ⟨rfl, rfl⟩ | ⟨n, rfl, m, hm, hf⟩
  · exact .inl ⟨rfl, h1, rfl⟩
  · exact .inr (.inl ⟨rfl, rfl⟩)
  · refine .inr (.inr ⟨m, hm, ?_⟩)
    by_cases h0 : n = 0
    · subst h0
      have e : m = 0 := by
        have : (V.int 0) = V.int m := hm
        injection this with z
        exact z.symm
      subst e
      show FinOk 0 0
      exact ⟨by decide, by decide, by decide, by decide, fun _ => rfl, fun z => absurd rfl z⟩
    · rw [red_nat h0] at hm hf ⊢
      obtain ⟨_, i2, i3, i4⟩ := land_pred n h0
      have e : ((n / 2 ^ tz n : Nat) : Int) = m := by injection hm
      have hne : m ≠ 0 := by
        intro z
        rw [z] at e
        have : n / 2 ^ tz n = 0 := by exact_mod_cast e
        rw [this] at i3
        exact absurd i3 (by decide)
      unfold fitsB at hf
      simp only [decide_eq_false hne, Bool.or_false, Bool.and_eq_true, decide_eq_true_eq] at hf
      exact ⟨e ▸ Int.natCast_nonneg _, hf.1, hf.2.1, hf.2.2, fun z => absurd z hne, fun _ => by rw [← e]; omega⟩
theorem mk_of_flok {s : Int} {n : Nat} {p : Int} (hs : s = 1 ∨ s = -1) (h1 : n ≤ 2 ^ 53) (h2 : -1074 ≤ p) (h3 : (bitsN n : Int) + p ≤ 1024) : MkOk s (.int n) p := ⟨hs, .inr (.inr ⟨n, rfl, fits_of h1 h2 h3⟩)⟩
/-! ### numbers as values -/
inductive Nm where
  | i (n : Int)
  | f (s : Int) (t : V) (p : Int)
def NumAt (C : Addr) (H : Hp) (v : V) : Nm → Prop
  | .i n => v = .int n
  | .f s t p => ∃ a, v = .ref a ∧ FlAt C H a s t p ∧ FlOk s t p
theorem NumAt.same {C : Addr} {H H' : Hp} {v : V} : ∀ {n : Nm}, NumAt C H v n → Same H H' → NumAt C H' v n
  | .i _, h, _ => h
  | .f _ _ _, ⟨a, e, h, k⟩, s => ⟨a, e, h.same s, k⟩
abbrev RetF (C : Addr) (H : Hp) (s : Int) (t : V) (p : Int) (Q : VK) : Prop := ∀ H' a, H a = none → Same H H' → FlAt C H' a s t p → Q (.ref a) H'
section
variable {P : Program} {w : World} {K : PySem.W.Frag} {mg : Str → Option Value} {base : Heap} {C : Addr}
/-- Float(s, top, p) -/
theorem mkF {H : Hp} {Q : VK} {E : XK} {s : Int} {top : V} {p : Int} (hk : MkOk s top p) (q : RetF C H s (redV top p).1 (redV top p).2 Q) :
    MakeR C (sp_Finit C) ([.int s, top, .int p] ++ []) H Q E := by
  intro x dx H' nx ndx ne s1 hx _
  exact ⟨x, dx, s, top, p, rfl, hx, hk, fun H2 k h2 => ⟨rfl, q H2 x nx (fun b o e => k b o (ne_of_none e nx) (s1 _ _ e)) ⟨dx, h2⟩⟩⟩
abbrev CnF (P : Program) (w : World) (K : PySem.W.Frag) (mg : Str → Option Value) (base : Heap) (C : Addr) : Prop := Cn P w K mg base CX0 2 "Float" C ["self", "sign", "top", "power"] [] (sp_Finit C)
/-! is_finite -/
theorem sc_Float_isfinite : FnScope ["self"] ["self"] (defScope s_Float_isfinite) := ⟨rfl, rfl, rfl, by decide +kernel, rfl, by decide +kernel, by decide +kernel⟩
def sp_isfinite (C : Addr) : Sp := fun vs H Q _ => ∃ a s t p, vs = [.ref a] ∧ FlAt C H a s t p ∧ FlOk s t p ∧ Q (.bl (isI t)) H
theorem FlOk.kn {s : Int} {t : V} {p : Int} {H : Hp} (h : FlOk s t p) : ∃ u, Kn K H t u ∧ isB t = false := by
  rcases h.2 with ⟨rfl, _⟩ | ⟨rfl, _⟩ | ⟨n, rfl, _⟩
  · exact ⟨_, kn_str, rfl⟩
  · exact ⟨_, kn_str, rfl⟩
  · exact ⟨_, kn_int, rfl⟩
theorem ok_isfinite {f : Addr} {fd : FuncData} (F : FunD K "is_finite" "Float.is_finite" (defArgs s_Float_isfinite) (defBody s_Float_isfinite) (defScope s_Float_isfinite) [] [] f fd) (B : Blt mg) (T : FlC K mg C) : FnOk P w K mg base CX0 1 f fd ["self"] (sp_isfinite C) := by
  refine F.ok sc_Float_isfinite (fun vs H Q E h => ?_) (fun cdv A outer s H vs Q E hr h => ?_)
  · obtain ⟨a, s, t, p, rfl, _⟩ := h; rfl
  · obtain ⟨a, sg, t, p, rfl, ⟨dx, ha⟩, ho, q⟩ := h
    refine ⟨_, PSs.nox (pss_one (ps_ret (pe_callB call_isi (by rfl) B.isinstance (by decide +kernel) (pa_cons (pe_fld (pv 0) rfl) (pa_cons (pe_tyInt B) pa_nil))))), ?_⟩
    walk_at "go"
    refine ⟨a, C, dx, _, _, rfl, ha, T.own.cl, T.nT, fl_top _ _ _, ?_⟩
    walk_at "go"
    obtain ⟨u, kn, hb⟩ := ho.kn (K := K) (H := H)
    refine g_isiInt kn ?_
    rw [hb, Bool.or_false]
    exact q
/-! ratio -/
theorem sc_Float_ratio : FnScope ["self"] ["self"] (defScope s_Float_ratio) := ⟨rfl, rfl, rfl, by decide +kernel, rfl, by decide +kernel, by decide +kernel⟩
def ratN (s n p : Int) : Int := if p < 0 then s * n else s * (n * 2 ^ p.toNat)
def ratD (p : Int) : Int := if p < 0 then 2 ^ (0 - p).toNat else 1
def sp_ratio (C : Addr) : Sp := fun vs H Q _ => ∃ a s n p, vs = [.ref a] ∧ FlAt C H a s (.int n) p ∧ FlOk s (.int n) p ∧ RetT H [.int (ratN s n p), .int (ratD p)] Q
theorem fin_of {s n p : Int} (h : FlOk s (.int n) p) : FinOk n p := by
  rcases h.2 with ⟨z, _⟩ | ⟨z, _⟩ | ⟨m, e, h⟩
  · cases z
  · cases z
  · injection e with e; subst e; exact h
theorem FinOk.hi {n p : Int} (h : FinOk n p) : p ≤ 1024 := by
  obtain ⟨h1, _, _, h4, h5⟩ := h
  by_cases h0 : n = 0
  · rw [h5.1 h0]; decide
  · have := bits_pos (n := n.natAbs) (by omega)
    rw [intBits_neg] at h4
    omega
theorem sgn_mul {s x : Int} (hs : s = 1 ∨ s = -1) : IntMulOk s x := .of_left (by rcases hs with rfl | rfl <;> decide)
theorem shl_small {i j : Int} (h0 : 0 ≤ j) (h : j ≤ 100000) (hi : i.natAbs < 2 ^ 100000) : CShl i j := by
  refine ⟨h0, ?_⟩
  rw [intBits_neg]
  have := bits_le hi
  omega
theorem lt_pow_mono {n a b : Nat} (h : n < 2 ^ a) (hab : a ≤ b) : n < 2 ^ b := Nat.lt_of_lt_of_le h (Nat.pow_le_pow_right (by decide) hab)
theorem ok_ratio {f : Addr} {fd : FuncData} (F : FunD K "ratio" "Float.ratio" (defArgs s_Float_ratio) (defBody s_Float_ratio) (defScope s_Float_ratio) [] [] f fd) (B : Blt mg) (T : FlC K mg C) : FnOk P w K mg base CX0 1 f fd ["self"] (sp_ratio C) := by
  refine F.ok sc_Float_ratio (fun vs H Q E h => ?_) (fun cdv A outer s H vs Q E hr h => ?_)
  · obtain ⟨a, s, t, p, rfl, _⟩ := h; rfl
  · obtain ⟨a, sg, n, p, rfl, ⟨dx, ha⟩, ho, q⟩ := h
    have hf := fin_of ho
    have hhi := hf.hi
    obtain ⟨f1, f2, f3, f4, f5⟩ := hf
    unfold ratN ratD at q
    refine ⟨_, PSs.nox (pss_cons (ps_if (pt_cmpR op_oLt (pe_fld (pv 0) rfl) pe_int (nomark _)) (pss_one (ps_ret (pe_tupN (pa_cons (pe_op op_oMul (pe_fld (pv 0) rfl) (pe_fld (pv 0) rfl)) (pa_cons (pe_op op_oShl pe_int (pe_op op_oSub pe_int (pe_fld (pv 0) rfl))) pa_nil))))) pss_nil)
  (pss_one (ps_ret (pe_tupN (pa_cons (pe_op op_oMul (pe_fld (pv 0) rfl) (pe_op op_oShl (pe_fld (pv 0) rfl) (pe_fld (pv 0) rfl))) (pa_cons pe_int pa_nil)))))), ?_⟩
    walk_at "go"
    refine ⟨a, C, dx, _, _, rfl, ha, T.own.cl, T.nP, fl_power _ _ _, ?_⟩
    walk_at "go"
    refine g_ite (fun hp => ?_) fun hp => ?_
    · walk_at "go"
      refine ⟨a, C, dx, _, _, rfl, ha, T.own.cl, T.nS, fl_sign _ _ _, ?_⟩
      walk_at "go"
      refine ⟨a, C, dx, _, _, rfl, ha, T.own.cl, T.nT, fl_top _ _ _, ?_⟩
      refine g_mulI (sgn_mul ho.1) ?_
      walk_at "go"
      refine ⟨a, C, dx, _, _, rfl, ha, T.own.cl, T.nP, fl_power _ _ _, ?_⟩
      walk_at "go"
      refine g_II (shl_small (by omega) (by omega) (lt_pow_mono (a := 1) (by decide) (by decide))) ?_
      walk_at "go"
      refine g_new (sz rfl) fun b H2 nb s2 hb _ => ?_
      rw [if_pos hp, if_pos hp] at q
      rw [Int.one_mul] at hb
      exact q _ _ nb s2 hb
    · walk_at "go"
      refine ⟨a, C, dx, _, _, rfl, ha, T.own.cl, T.nS, fl_sign _ _ _, ?_⟩
      walk_at "go"
      refine ⟨a, C, dx, _, _, rfl, ha, T.own.cl, T.nT, fl_top _ _ _, ?_⟩
      walk_at "go"
      refine ⟨a, C, dx, _, _, rfl, ha, T.own.cl, T.nP, fl_power _ _ _, ?_⟩
      walk_at "go"
      refine g_II (shl_small (by omega) (by omega) (lt_pow_mono (a := 53) (by omega) (by decide))) ?_
      refine g_mulI (sgn_mul ho.1) ?_
      walk_at "go"
      refine g_new (sz rfl) fun b H2 nb s2 hb _ => ?_
      rw [if_neg hp, if_neg hp] at q
      exact q _ _ nb s2 hb
/-! infinity -/
theorem sc_infinity : FnScope ["sign"] ["sign"] (defScope s_infinity) := ⟨rfl, rfl, rfl, by decide +kernel, rfl, by decide +kernel, by decide +kernel⟩
def sp_infinity (C : Addr) : Sp := fun vs H Q _ => ∃ s, vs = [.int s] ∧ (s = 1 ∨ s = -1) ∧ RetF C H s (.str "inf") 0 Q
theorem mk_inf {s : Int} (hs : s = 1 ∨ s = -1) : MkOk s (.str "inf") 0 := ⟨hs, .inr (.inl ⟨rfl, rfl⟩)⟩
theorem ok_infinity {f : Addr} {fd : FuncData} (F : FunD K "infinity" "infinity" (defArgs s_infinity) (defBody s_infinity) (defScope s_infinity) [] [] f fd) (c_Float : CnF P w K mg base C) : FnOk P w K mg base CX0 4 f fd ["sign"] (sp_infinity C) := by
  refine F.ok sc_infinity (fun vs H Q E h => ?_) (fun cdv A outer s H vs Q E hr h => ?_)
  · obtain ⟨a, rfl, _⟩ := h; rfl
  · obtain ⟨sg, rfl, hs, q⟩ := h
    refine ⟨_, PSs.nox (pss_one (ps_ret (pe_cn c_Float (hr.mono (by first | decide | omega)) pass0 (pa_cons (pv 0) (pa_cons pe_str (pa_cons pe_int pa_nil)))))), ?_⟩
    walk_at "go"
    exact mkF (mk_inf hs) q
/-! nearest -/
theorem sc_nearest : FnScope ["sign", "top", "bottom", "power", "whole", "rest"] ["sign", "top", "bottom"] (defScope s_nearest) := ⟨rfl, rfl, rfl, by decide +kernel, rfl, by decide +kernel, by decide +kernel⟩
/-- what is handed to Float -/
def nearV (t b : Nat) : V × Int := if t = 0 then (.int 0, 0) else if (bitsN (nrW t b) : Int) + nrP2 t b > 1024 then (.str "inf", 0) else (.int (nrW t b : Int), nrP2 t b)
theorem near_mk {s : Int} {t b : Nat} (hs : s = 1 ∨ s = -1) (hb : 0 < b) : MkOk s (nearV t b).1 (nearV t b).2 := by
  unfold nearV
  by_cases h0 : t = 0
  · rw [if_pos h0]
    exact mk_of_flok (n := 0) hs (by decide) (by decide) (by decide)
  · rw [if_neg h0]
    by_cases h1 : (bitsN (nrW t b) : Int) + nrP2 t b > 1024
    · rw [if_pos h1]
      exact mk_inf hs
    · rw [if_neg h1]
      exact mk_of_flok hs (nrW_le hb) (nrP2_lo t b) (by omega)
def sp_nearest (C : Addr) : Sp := fun vs H Q _ => ∃ (s : Int) (t b : Nat), vs = [.int s, .int t, .int b] ∧ (s = 1 ∨ s = -1) ∧ 0 < b ∧ bitsN t ≤ 6000 ∧ bitsN b ≤ 6000 ∧ RetF C H s (redV (nearV t b).1 (nearV t b).2).1 (redV (nearV t b).1 (nearV t b).2).2 Q
theorem fdiv_nat (a b : Nat) : (a : Int).fdiv (b : Int) = ((a / b : Nat) : Int) := by
  rw [Int.fdiv_eq_ediv_of_nonneg _ (by omega)]; rfl
theorem log2_lt {b k : Nat} (h : b < 2 ^ k) (hk : 0 < k) : b.log2 < k := by
  by_cases h0 : b = 0
  · subst h0; simpa using hk
  · exact (Nat.log2_lt h0).mpr h
theorem land_one (n : Nat) : Builtin.bitAnd (n : Int) 1 = ((n % 2 : Nat) : Int) := by
  rw [PyProof.Rows.bitAnd_pp (by omega) (by decide)]
  show ((n &&& 1 : Nat) : Int) = _
  rw [Nat.and_one_is_mod]
theorem ok_nearest {f : Addr} {fd : FuncData} (F : FunD K "nearest" "nearest" (defArgs s_nearest) (defBody s_nearest) (defScope s_nearest) [] [] f fd) (B : Blt mg) (i_ROOM : ∃ t, mg "ROOM" = some (.int 9007199254740992 t)) (i_LOWEST : ∃ t, mg "LOWEST" = some (.int (-1074) t)) (i_TOO_GREAT : ∃ t, mg "TOO_GREAT" = some (.int 1024 t))
    (c_Float : CnF P w K mg base C) (c_infinity : Fn P w K mg base CX0 4 "infinity" ["sign"] [] (sp_infinity C)) : FnOk P w K mg base CX0 5 f fd ["sign", "top", "bottom"] (sp_nearest C) := by
  refine F.ok sc_nearest (fun vs H Q E h => ?_) (fun cdv A outer s H vs Q E hr h => ?_)
  · obtain ⟨_, _, _, rfl, _⟩ := h; rfl
  · obtain ⟨sg, t, b, rfl, hs, hb, ht, hbb, q⟩ := h
    have mk := near_mk (t := t) (b := b) hs hb
    refine ⟨_, PSs.nox (pss_cons (ps_if (pt_cmpR (op_oEq hr.units) (pv 1) pe_int (nomark _)) (pss_one (ps_ret (pe_cn c_Float (hr.mono (by first | decide | omega)) pass0 (pa_cons (pv 0) (pa_cons pe_int (pa_cons pe_int pa_nil)))))) pss_nil)
  (pss_cons (ps_set (i := 3) sc_nearest.nd rfl (Or.inl rfl) (pe_callB (call_max2 rfl) (by rfl) B.max (by decide +kernel) (pa_cons (pe_op op_oSub (pe_op op_oSub (pe_bits (pv 1)) (pe_bits (pv 2))) pe_int) (pa_cons (pe_gint i_LOWEST) pa_nil))))
  (C8.pss_cut (ps_if (pt_cmpR op_oLt (pv 3) pe_int (nomark _)) (pss_one (ps_set (i := 1) sc_nearest.nd rfl (Or.inl rfl) (pe_op op_oShl (pv 1) (pe_op op_oSub pe_int (pv 3))))) (pss_one (ps_set (i := 2) sc_nearest.nd rfl (Or.inl rfl) (pe_op op_oShl (pv 2) (pv 3)))))
  (C8.pss_cut (ps_if (pt_cmpR op_oGe (pe_op op_oDiv (pv 1) (pv 2)) (pe_gint i_ROOM) (nomark _)) (pss_cons (ps_set (i := 2) sc_nearest.nd rfl (Or.inl rfl) (pe_op op_oShl (pv 2) pe_int))
  (pss_one (ps_set (i := 3) sc_nearest.nd rfl (Or.inl rfl) (pe_op op_oAdd (pv 3) pe_int)))) pss_nil)
  (pss_cons (ps_asg (pe_callB call_divmodK (by rfl) B.divmod (by decide +kernel) (pa_cons (pv 1) (pa_cons (pv 2) pa_nil))) (pg_tup rfl (pgs_cons (pg_name (i := 4) sc_nearest.nd rfl (Or.inl rfl)) (pgs_cons (pg_name (i := 5) sc_nearest.nd rfl (Or.inl rfl)) pgs_nil))))
  (C8.pss_cut (ps_if (PW.pt (pw_or (pt_cmpR op_oGt (pe_op op_oMul pe_int (pv 5)) (pv 2) (nomark _)) (pw_or1 (PW.pt (pw_and (pt_cmpR (op_oEq hr.units) (pe_op op_oMul pe_int (pv 5)) (pv 2) (nomark _)) (pw_and1 (pt_cmpR (op_oEq hr.units) (pe_op op_oAnd (pv 4) pe_int) pe_int (nomark _)))))))) (pss_one (ps_set (i := 4) sc_nearest.nd rfl (Or.inl rfl) (pe_op op_oAdd (pv 4) pe_int))) pss_nil)
  (pss_cons (ps_if (pt_cmpR op_oGt (pe_op op_oAdd (pe_bits (pv 4)) (pv 3)) (pe_gint i_TOO_GREAT) (nomark _)) (pss_one (ps_ret (pe_fn c_infinity (hr.mono (by first | decide | omega)) pass0 (pa_cons (pv 0) pa_nil)))) pss_nil)
  (pss_one (ps_ret (pe_cn c_Float (hr.mono (by first | decide | omega)) pass0 (pa_cons (pv 0) (pa_cons (pv 4) (pa_cons (pv 3) pa_nil))))))))))))), ?_⟩
    walk_at "go"
    refine g_ite (fun h0 => ?_) fun h0 => ?_
    · walk_at "go"
      have h0 : t = 0 := by omega
      have e : nearV t b = (.int 0, 0) := if_pos h0
      rw [e] at q mk
      exact mkF mk q
    · have h0 : t ≠ 0 := by omega
      walk_at "go"
      rw [intBits_nat, intBits_nat]
      have eP : (if (-1074 : Int) > ((bitsN t : Nat) : Int) - ((bitsN b : Nat) : Int) - 53 then (-1074 : Int) else ((bitsN t : Nat) : Int) - ((bitsN b : Nat) : Int) - 53) = nrP t b := rfl
      rw [eP]
      have p1 := nrP_lo t b
      have p2 := nrP_hi (t := t) (b := b)
      walk_at "go"
      refine g_cut (fun σ' H2 => σ' = [some (.int sg), some (.int (nrT t (nrP t b) : Nat)), some (.int (nrB b (nrP t b) : Nat)), some (.int (nrP t b)), none, none] ∧ H = H2) ?_ ?_
      · walk_at "go"
        refine g_ite (fun hp => ?_) fun hp => ?_
        · walk_at "go"
          refine g_II (shl_small (by omega) (by omega) (lt_pow_mono (bits_lt t) (by omega))) ?_
          walk_at "go"
          refine ⟨?_, rfl⟩
          unfold nrT nrB
          rw [if_pos hp, if_pos hp]
          simp [L2.start]
        · walk_at "go"
          refine g_II (shl_small (by omega) (by omega) (lt_pow_mono (bits_lt b) (by omega))) ?_
          walk_at "go"
          refine ⟨?_, rfl⟩
          unfold nrT nrB
          rw [if_neg hp, if_neg hp]
          simp [L2.start]
      · rintro σ' _ ⟨rfl, rfl⟩
        have hB := nrB_pos hb (nrP t b)
        have hB2 := nrB2_pos (t := t) hb
        have hbit := nrB2_bits (m := 6000) ht hbb hb
        have hbit1 : nrB b (nrP t b) < 2 ^ 6001 := by
          unfold nrB2 at hbit
          split at hbit <;> omega
        walk_at "go"
        refine g_cut (fun σ' H2 => σ' = [some (.int sg), some (.int (nrT t (nrP t b) : Nat)), some (.int (nrB2 t b : Nat)), some (.int (nrP2 t b)), none, none] ∧ H = H2) ?_ ?_
        · walk_at "go"
          refine g_divI (by omega) (by rw [Int.natAbs_natCast]; exact Nat.lt_trans (log2_lt hbit1 (by decide)) (by decide)) ?_
          rw [fdiv_nat]
          walk_at "go"
          refine g_ite (fun hg => ?_) fun hg => ?_
          · have hg' : nrBig t b = true := decide_eq_true (Int.ofNat_le.mp (show ((9007199254740992 : Nat) : Int) ≤ _ from hg))
            walk_at "go"
            refine g_II (shl_small (by decide) (by decide) (lt_pow_mono hbit1 (by decide))) ?_
            walk_at "go"
            refine ⟨?_, rfl⟩
            unfold nrB2 nrP2
            rw [if_pos hg', if_pos hg']
            simp
          · have hg' : ¬ nrBig t b = true := fun z => hg (Int.ofNat_le.mpr (of_decide_eq_true z))
            walk_at "go"
            refine ⟨?_, rfl⟩
            unfold nrB2 nrP2
            rw [if_neg hg', if_neg hg']
        · rintro σ' _ ⟨rfl, rfl⟩
          walk_at "go"
          refine ⟨_, _, rfl, ⟨by omega, by rw [Int.natAbs_natCast]; exact Nat.lt_trans (log2_lt hbit (by decide)) (by decide)⟩, fun a H2 na s2 ha _ => ?_⟩
          walk_at "go"
          refine ⟨a, _, rfl, SqT.of ha, rfl, ?_⟩
          walk_at "go"
          have eQ : ((nrT t (nrP t b) : Nat) : Int) / ((nrB2 t b : Nat) : Int) = ((nrQ t b : Nat) : Int) := rfl
          have eR : ((nrT t (nrP t b) : Nat) : Int) % ((nrB2 t b : Nat) : Int) = ((nrR t b : Nat) : Int) := rfl
          rw [eQ, eR]
          refine g_cut (fun σ' H3 => σ' = [some (.int sg), some (.int (nrT t (nrP t b) : Nat)), some (.int (nrB2 t b : Nat)), some (.int (nrP2 t b)), some (.int (nrW t b : Nat)), some (.int (nrR t b : Nat))] ∧ H2 = H3) ?_ ?_
          · have up : ∀ (c : Bool), nrUp t b = c → nrW t b = if c then nrQ t b + 1 else nrQ t b := fun c h => by unfold nrW; rw [h]
            walk_at "go"
            refine g_mulI (.of_left (by decide)) ?_
            walk_at "go"
            refine g_ite (fun h1 => ?_) fun h1 => ?_
            · walk_at "go"
              refine ⟨?_, rfl⟩
              rw [up true (by unfold nrUp; rw [decide_eq_true (show nrB2 t b < 2 * nrR t b by omega)]; rfl)]
              simp
            · walk_at "go"
              refine g_mulI (.of_left (by decide)) ?_
              walk_at "go"
              refine g_ite (fun h2 => ?_) fun h2 => ?_
              · walk_at "go"
                rw [land_one]
                refine g_ite (fun h3 => ?_) fun h3 => ?_
                · walk_at "go"
                  refine ⟨?_, rfl⟩
                  rw [up true (by unfold nrUp; rw [decide_eq_true (show 2 * nrR t b = nrB2 t b by omega), decide_eq_true (show nrQ t b % 2 = 1 by omega), Bool.and_self, Bool.or_true])]
                  simp
                · walk_at "go"
                  refine ⟨?_, rfl⟩
                  rw [up false (by unfold nrUp; rw [decide_eq_false (show ¬ nrB2 t b < 2 * nrR t b by omega), decide_eq_false (show ¬ nrQ t b % 2 = 1 by omega), Bool.and_false, Bool.or_false])]
                  simp
              · walk_at "go"
                refine ⟨?_, rfl⟩
                rw [up false (by unfold nrUp; rw [decide_eq_false (show ¬ nrB2 t b < 2 * nrR t b by omega), decide_eq_false (show ¬ 2 * nrR t b = nrB2 t b by omega), Bool.false_and, Bool.or_false])]
                simp
          · rintro σ' _ ⟨rfl, rfl⟩
            have q2 : RetF C H2 sg (redV (nearV t b).1 (nearV t b).2).1 (redV (nearV t b).1 (nearV t b).2).2 Q := fun H' x nx sx hx => q H' x (s2.free nx) (s2.trans sx) hx
            walk_at "go"
            rw [intBits_nat]
            refine g_ite (fun h1 => ?_) fun h1 => ?_
            · walk_at "go"
              have e : nearV t b = (.str "inf", 0) := by unfold nearV; rw [if_neg h0, if_pos h1]
              rw [e] at q2
              exact ⟨sg, rfl, hs, q2⟩
            · walk_at "go"
              have e : nearV t b = (.int (nrW t b : Int), nrP2 t b) := by unfold nearV; rw [if_neg h0, if_neg h1]
              rw [e] at q2 mk
              exact mkF mk q2
end
end Up

set_option Elab.async false
set_option linter.all false
set_option maxRecDepth 100000
set_option maxHeartbeats 4000000
namespace Up
open PySem PySem.Spec PyProof.Rows L2 PySem.SeqAt HN
/-! ### == of None and of instances of a class without an own one -/
structure IdC (K : PySem.W.Frag) (C : Addr) : Prop where
  hm : PySem.W.mroIn K C (.type "object") = some true
  he : PySem.W.findIn K (.ref C) "__eq__" = some (some (.builtin "object.__eq__"))
  hn : PySem.W.subIn K (.ref C) (.type "NoneType") = some false
section
variable {M : Model} {prog : Program} {w : World} {A : Around} {E : Value → Shared → Prop} {s : Shared} {K : PySem.W.Frag} {x y C : Addr} {ox oy : Obj} {od oe : Option Obj}
theorem inst_nt (I : PySem.W.InstAt s.heap x ox C od) : ox.cls ≠ .type "tuple" := by
  obtain ⟨_, hc, _, _⟩ := I
  rw [hc]; exact fun z => nomatch z
theorem obj_other {Q : Value → Shared → Prop} (X : K.In s.heap) (I : PySem.W.InstAt s.heap x ox C od) (J : PySem.W.InstAt s.heap y oy C oe) (T : IdC K C) (hxy : x ≠ y) (hq : Q .notImplemented s) :
    wpAny (model prog w) A (call (.builtin "object.__eq__") [.ref x, .ref y]) Q E s :=
  wpAny_call (codeAny_call_builtin PySem.F.cmp_object.eq.plain PySem.F.cmpEntry_eq (PySem.W.check_slot PySem.F.cmpKind_eq PySem.F.cmpSplit_eq (I.type.andThen (PySem.W.looks_mroIn X T.hm)) (PySem.F.cmpArgs_eq _ _) (objEq_entry_other hxy I.1 J.1 (inst_nt I) hq)))
theorem obj_same {Q : Value → Shared → Prop} (X : K.In s.heap) (I : PySem.W.InstAt s.heap x ox C od) (T : IdC K C) (hq : Q (.bool true) s) :
    wpAny (model prog w) A (call (.builtin "object.__eq__") [.ref x, .ref x]) Q E s :=
  wpAny_call (codeAny_call_builtin PySem.F.cmp_object.eq.plain PySem.F.cmpEntry_eq (PySem.W.check_slot PySem.F.cmpKind_eq PySem.F.cmpSplit_eq (I.type.andThen (PySem.W.looks_mroIn X T.hm)) (PySem.F.cmpArgs_eq _ _) (objEq_entry_same hq)))
theorem try_other {Q : Option Value → Shared → Prop} (X : K.In s.heap) (I : PySem.W.InstAt s.heap x ox C od) (J : PySem.W.InstAt s.heap y oy C oe) (T : IdC K C) (hxy : x ≠ y) (hq : Q none s) :
    wpAny (model prog w) A (tryCompare (.ref x) "__eq__" (.ref y)) Q E s := by
  unfold tryCompare
  exact wpAny_bind (ifBound_objEq X I T.he (obj_other X I J T hxy (wpAny_pure hq)))
theorem try_same {Q : Option Value → Shared → Prop} (X : K.In s.heap) (I : PySem.W.InstAt s.heap x ox C od) (T : IdC K C) (hq : Q (some (.bool true)) s) :
    wpAny (model prog w) A (tryCompare (.ref x) "__eq__" (.ref x)) Q E s := by
  unfold tryCompare
  exact wpAny_bind (ifBound_objEq X I T.he (obj_same X I T (wpAny_pure hq)))
theorem try_rn {Q : Option Value → Shared → Prop} (X : K.In s.heap) (I : PySem.W.InstAt s.heap x ox C od) (T : IdC K C) (hq : Q none s) :
    wpAny (model prog w) A (tryCompare (.ref x) "__eq__" .none) Q E s := by
  unfold tryCompare
  exact wpAny_bind (ifBound_objEq X I T.he (HN.call_objEq X I T.hm (wpAny_pure hq)))
theorem try_nr {Q : Option Value → Shared → Prop} (hq : Q none s) : wpAny (model prog w) A (tryCompare .none "__eq__" (.ref x)) Q E s :=
  wpAny_tryCompare_declines (show s.TypeIs .none "NoneType" from rfl) PySem.F.slot_NoneType_eq_refl (call_gives PySem.F.slot_NoneType_eq_refl rfl PySem.F.entry_NoneType_eq (PySem.F.args_NoneType_eq_2 _ _) (NoneType___eq___none_ref_0 x) ⟨rfl, hq⟩)
theorem rc_same {Q : Value → Shared → Prop} (hu : A.units < cLine) (X : K.In s.heap) (I : PySem.W.InstAt s.heap x ox C od) (T : IdC K C) (hq : Q (.bool true) s) : wpAny (model prog w) A (richCompare .Eq (.ref x) (.ref x)) Q E s := by
  simp only [richCompare, cmpInfo_Eq, oneThing_ref]
  refine wpAny_holding (wpAny_bind (wpAny_cRoomFor hu ?_))
  refine wpAny_bind (I.type.here (wpAny_bind (I.type.here ?_)))
  simp only [bne_self_eq_false, Bool.false_eq_true, if_false]
  refine wpAny_bind (wpAny_pure (wpAny_bind (m := tryCompare (.ref x) _ (.ref x)) (try_same X I T ?_)))
  exact wpAny_pure hq
theorem rc_other {Q : Value → Shared → Prop} (hu : A.units < cLine) (X : K.In s.heap) (I : PySem.W.InstAt s.heap x ox C od) (J : PySem.W.InstAt s.heap y oy C oe) (T : IdC K C) (hxy : x ≠ y) (hq : Q (.bool false) s) : wpAny (model prog w) A (richCompare .Eq (.ref x) (.ref y)) Q E s := by
  simp only [richCompare, cmpInfo_Eq, oneThing_ref]
  refine wpAny_holding (wpAny_bind (wpAny_cRoomFor hu ?_))
  refine wpAny_bind (I.type.here (wpAny_bind (J.type.here ?_)))
  simp only [bne_self_eq_false, Bool.false_eq_true, if_false]
  refine wpAny_bind (wpAny_pure (wpAny_bind (m := tryCompare (.ref x) _ (.ref y)) (try_other X I J T hxy ?_)))
  simp only [Bool.false_eq_true, if_false, Bool.not_false, if_true]
  refine wpAny_bind (m := tryCompare (.ref y) _ (.ref x)) (try_other X J I T hxy.symm ?_)
  exact wpAny_bind (wpAny_rule (wpAny_bind (wpAny_isSame_ref_other hxy I.1 J.1 (inst_nt I) (wpAny_pure hq))))
theorem rc_nr {Q : Value → Shared → Prop} (hu : A.units < cLine) (X : K.In s.heap) (I : PySem.W.InstAt s.heap x ox C od) (T : IdC K C) (hq : Q (.bool false) s) : wpAny (model prog w) A (richCompare .Eq .none (.ref x)) Q E s := by
  have h0 : oneThing? .Eq .none (.ref x) = none := rfl
  simp only [richCompare, cmpInfo_Eq, h0]
  refine wpAny_holding (wpAny_bind (wpAny_cRoomFor hu ?_))
  refine wpAny_bind (wpAny_typeOf (show s.TypeIs .none "NoneType" from rfl) (wpAny_bind (I.type.here ?_)))
  split
  · refine wpAny_bind ((PySem.W.looks_subIn X T.hn).here ?_)
    simp only [Bool.false_eq_true, if_false, Bool.not_false, if_true]
    refine wpAny_bind (m := tryCompare .none _ (.ref x)) (try_nr ?_)
    refine wpAny_bind (m := tryCompare (.ref x) _ .none) (try_rn X I T ?_)
    exact wpAny_bind (wpAny_rule (wpAny_bind (wpAny_of_eq (rfl : isSame .none (.ref x) = pure false) (wpAny_pure hq))))
  · rename_i q
    exact absurd (by simp) q
end
/-- None, or an instance of the class at C -/
def IdV (C : Addr) (H : Hp) (x : V) : Prop := x = .non ∨ ∃ a dx fs, x = .ref a ∧ H a = some (.ins C dx fs)
def rEqId (C : Addr) : R2 := fun x y H Q => IdV C H x ∧ IdV C H y ∧ Q (.bl (decide (x = y))) H
theorem op_eqId {X : Cx} {C : Addr} (T : IdC X.K C) (hu : X.A.units + 64 < cLine) : OpR X (compareOp .Eq) (rEqId C) := by
  intro pins s σ H x y v u Q I rx ry h
  obtain ⟨h1, h2, q⟩ := h
  have hu0 : X.A.units < cLine := by omega
  show wpAny (model X.prog X.w) X.A (richCompare .Eq v u) (EP X pins σ Q) X.xe s
  rcases h1 with rfl | ⟨a, dx, fs, rfl, ha⟩
  · rcases h2 with rfl | ⟨b, dy, gs, rfl, hb⟩
    · exact op_eq pins s σ H .non .non v u Q I rx ry ⟨rfl, q⟩
    · cases rx
      cases ry
      obtain ⟨mA, O, _⟩ := ins_get I.hok hb
      obtain ⟨od, J, _⟩ := O.look
      exact rc_nr hu0 I.kIn J T ⟨.bl false, H, I, rfl, q⟩
  · obtain ⟨mA, O, _⟩ := ins_get I.hok ha
    obtain ⟨od, J, _⟩ := O.look
    rcases h2 with rfl | ⟨b, dy, gs, rfl, hb⟩
    · cases rx
      cases ry
      exact rc_none hu0 I.kIn J T.hm T.he X.prog X.w X.xe _ ⟨.bl false, H, I, rfl, q⟩
    · cases rx
      cases ry
      obtain ⟨mB, O2, _⟩ := ins_get I.hok hb
      obtain ⟨oe, J2, _⟩ := O2.look
      by_cases hab : a = b
      · subst hab
        rw [decide_eq_true rfl] at q
        exact rc_same hu0 I.kIn J T ⟨.bl true, H, I, rfl, q⟩
      · rw [decide_eq_false (fun z => hab (by injection z))] at q
        exact rc_other hu0 I.kIn J J2 T hab ⟨.bl false, H, I, rfl, q⟩
def oEqI (K : PySem.W.Frag) (C : Addr) : R2 := fun x y H Q => oEq K x y H Q ∨ rEqId C x y H Q
theorem op_oEqI {X : Cx} {C : Addr} (T : IdC X.K C) (hu : X.A.units + 64 < cLine) : OpR X (compareOp .Eq) (oEqI X.K C) := op_or (op_oEq hu) (op_eqId T hu)
end Up

set_option Elab.async false
set_option linter.all false
set_option maxRecDepth 100000
set_option maxHeartbeats 4000000
namespace Up
open PySem PySem.Spec PyProof.Rows L2 PySem.SeqAt HN
/-! ### == and != of two instances of a class with its own __eq__ -/
def EqC (P : Program) (w : World) (K : PySem.W.Frag) (mg : Str → Option Value) (base : Heap) (k : Nat) (C : Addr) (sp : Sp) : Prop :=
  ∃ f fd, FnOk P w K mg base CX0 k f fd ["self", "other"] sp ∧ PySem.W.findIn K (.ref C) "__eq__" = some (some (.ref f)) ∧ PySem.W.isFn K (.ref f) = true ∧ Binds K fd ["self", "other"] [] ∧
    PySem.W.findIn K (.ref C) "__ne__" = some (some (.builtin "object.__ne__")) ∧ PySem.W.mroIn K C (.type "object") = some true
def rEqO (C : Addr) (sp : Sp) : R2 := fun x y H Q => ∃ a b dx dy fs gs, x = .ref a ∧ y = .ref b ∧ H a = some (.ins C dx fs) ∧ H b = some (.ins C dy gs) ∧ sp [.ref a, .ref b] H (fun v H' => ∃ c, v = .bl c ∧ Q (.bl c) H') E0
def rNeO (C : Addr) (sp : Sp) : R2 := fun x y H Q => ∃ a b dx dy fs gs, x = .ref a ∧ y = .ref b ∧ H a = some (.ins C dx fs) ∧ H b = some (.ins C dy gs) ∧ sp [.ref a, .ref b] H (fun v H' => ∃ c, v = .bl c ∧ Q (.bl (!c)) H') E0
section
variable {X : Cx} {C : Addr} {k : Nat} {sp : Sp}
/-- the own __eq__ runs, wherever it is called from -/
theorem run_eq {pins : List (Addr × Obj)} {σ : L2.St} {H : Hp} {s : Shared} {A : Around} {f a b : Addr} {fd : FuncData} {Qv : VK} {R : Value → Shared → Prop} {E : Value → Shared → Prop} (F : FnOk X.prog X.w X.K X.mg X.base CX0 k f fd ["self", "other"] sp) (hb : Binds X.K fd ["self", "other"] [])
    (hr : Room k A) (hA : A.frames = X.A.frames) (I : L2.Inv X pins σ H s) (h : sp [.ref a, .ref b] H Qv E0) (q : ∀ v u H' s', L2.Inv X pins σ H' s' → L2.RelV v u → Qv v H' → R u s') : wpAny (model X.prog X.w) A (call (.ref f) [.ref a, .ref b]) R E s := by
  have e := I.env0
  have e0 : Env0 X.prog X.w X.K X.mg X.base A X.stack s H := ⟨by rw [hA]; exact e.frames, e.mod, e.bs, e.bsz, e.funs, e.frf, e.hok, e.bare⟩
  have r2 : Vals [V.ref a, V.ref b] [Value.ref a, Value.ref b] := .cons rfl (.cons rfl .nil)
  have bb := hb s [.ref a, .ref b] I.kIn rfl
  refine wpAny_call (codeAny_mono (F.run A X.stack s H ⟨[.ref a, .ref b], []⟩ [.ref a, .ref b] [.ref a, .ref b] Qv E0 hr e0 bb r2 h) fun r s' hq => ?_)
  cases r with
  | error e => exact hq.elim
  | ok fl =>
    cases fl with
    | ret u =>
      obtain ⟨v, H', I', rv, qv⟩ := I.after hq
      exact q v u H' s' I' rv qv
    | next => exact False.elim hq
    | brk => exact False.elim hq
    | cont => exact False.elim hq
theorem op_eqO (T : EqC X.prog X.w X.K X.mg X.base k C sp) (hr : Room k X.A) : OpR X (compareOp .Eq) (rEqO C sp) := by
  intro pins s σ H x y v u Q I rx ry h
  obtain ⟨f, fd, F, hs, hf, hb, hne, hm⟩ := T
  obtain ⟨a, b, dx, dy, fs, gs, rfl, rfl, ha, hb', h⟩ := h
  cases rx
  cases ry
  obtain ⟨mA, J, _⟩ := ins_get I.hok ha
  obtain ⟨mB, J', _⟩ := ins_get I.hok hb'
  obtain ⟨od, J, _⟩ := J.look
  obtain ⟨od', J', _⟩ := J'.look
  obtain ⟨m, hF⟩ := I.fr
  show wpAny (model X.prog X.w) X.A (richCompare .Eq (.ref a) (.ref b)) (EP X pins σ Q) X.xe s
  refine PySem.W.cmp_K (op := .Eq) (tb := .ref C) hr.units0 hF I.ok.mod.kin J J'.type (by simp [PySem.W.notFirst]) hs hf ?_
  refine run_eq F hb hr rfl I h fun v u H' s' I' rv qv => ?_
  obtain ⟨c, rfl, qv⟩ := qv
  cases rv
  exact ⟨.bl c, H', I', rfl, qv⟩
theorem ifBound_objNe {M : Model} {A : Around} {E : Value → Shared → Prop} {s : Shared} {K : PySem.W.Frag} {x C : Addr} {ox : Obj} {od : Option Obj} {args : List Value} {Q : Option Value → Shared → Prop} (Y : K.In s.heap) (I : PySem.W.InstAt s.heap x ox C od) (hs : PySem.W.findIn K (.ref C) "__ne__" = some (some (.builtin "object.__ne__")))
    (h : wpAny M A (call (.builtin "object.__ne__") (.ref x :: args)) (fun v => Q (some v)) E s) : wpAny M A (callSpecialIfBound? (.ref x) "__ne__" args) Q E s := by
  simp only [callSpecialIfBound?, bindSpecialIfBound?]
  refine wpAny_holding (wpAny_bind (wpAny_bind (wpAny_bind (I.type.here ((PySem.W.looks_findIn Y hs).here ?_)))))
  refine wpAny_bind (wpAny_askSetting (wpAny_ite ?_))
  have fin : wpAny M A (call (.builtin "object.__ne__") ([.ref x] ++ args) >>= fun v => pure (some v)) Q E s := wpAny_bind (wpAny_mono h (fun v s' z => wpAny_pure z) fun _ _ z => z)
  split
  · exact wpAny_bind (wpAny_of_eq (PySem.F.cmp_object.ne.bind _) (wpAny_pure (by exact fin)))
  · exact wpAny_tryCatch (wpAny_bind (wpAny_of_eq (PySem.F.cmp_object.ne.bind _) (wpAny_pure (by exact fin))))
theorem op_neO (T : EqC X.prog X.w X.K X.mg X.base k C sp) (hr : Room (k + 1) X.A) : OpR X (compareOp .NotEq) (rNeO C sp) := by
  intro pins s σ H x y v u Q I rx ry h
  obtain ⟨f, fd, F, hs, hf, hb, hne, hm⟩ := T
  obtain ⟨a, b, dx, dy, fs, gs, rfl, rfl, ha, hb', h⟩ := h
  cases rx
  cases ry
  obtain ⟨mA, J, _⟩ := ins_get I.hok ha
  obtain ⟨mB, J', _⟩ := ins_get I.hok hb'
  obtain ⟨od, J, _⟩ := J.look
  obtain ⟨od', J', _⟩ := J'.look
  show wpAny (model X.prog X.w) X.A (richCompare .NotEq (.ref a) (.ref b)) (EP X pins σ Q) X.xe s
  have hu := hr.un
  have one : wpAny (model X.prog X.w) X.A (tryCompare (.ref a) "__ne__" (.ref b)) (fun r s' => ∃ v, r = some v ∧ EP X pins σ Q v s') X.xe s := by
    unfold tryCompare
    refine wpAny_bind (ifBound_objNe I.kIn J hne ?_)
    refine wpAny_call (codeAny_call_builtin PySem.F.cmp_object.ne.plain PySem.F.cmpEntry_ne (PySem.W.check_slot PySem.F.cmpKind_ne PySem.F.cmpSplit_ne (J.type.andThen (PySem.W.looks_mroIn I.kIn hm)) (PySem.F.cmpArgs_ne _ _) ?_))
    unfold Builtin.«object.__ne__»
    refine wpAny_bind (wpAny_of_eq (a := ((Value.ref a : Value), [Value.ref b])) (by first | rfl | (simp only [slotArgs]; rfl)) ?_)
    refine wpAny_bind (wpAny_cRoomFor (by show X.A.units + 1 < cLine; omega) ?_)
    refine wpAny_bind (PySem.W.ifBound_K I.kIn J hs hf ?_)
    refine run_eq F hb hr.in1 rfl I h fun v u H' s' I' rv qv => ?_
    obtain ⟨c, rfl, qv⟩ := qv
    cases rv
    refine wpAny_bind (wpAny_truthy_bool (wpAny_pure ?_))
    exact wpAny_pure ⟨_, rfl, .bl (!c), H', I', rfl, qv⟩
  unfold richCompare
  simp only [oneThing_ref, cmpInfo_NotEq]
  refine wpAny_holding (wpAny_bind (wpAny_cRoomFor (by omega) ?_))
  refine wpAny_bind (J.type.here (wpAny_bind (J'.type.here ?_)))
  simp only [bne_self_eq_false, Bool.false_eq_true, if_false]
  refine wpAny_bind (wpAny_pure (wpAny_bind (m := tryCompare (.ref a) _ (.ref b)) (wpAny_mono one (fun r s' z => ?_) fun _ _ e => e)))
  obtain ⟨v, rfl, z⟩ := z
  exact wpAny_pure z
end
end Up

set_option Elab.async false
set_option linter.all false
set_option maxRecDepth 100000
set_option maxHeartbeats 4000000
namespace Up
open PySem PySem.Spec PyProof.Rows L2
/-- an expression that the proof never comes to -/
def tNevE : TE := fun _ _ _ => False
theorem pe_never {X : Cx} {e : Expr} : PE X e tNevE := ⟨fun _ _ _ _ _ _ h => h.elim⟩
/-- a test, a value read once with a middle term -/
def tCutT (t : TT) : TT := fun σ H R => ∃ P : Bool → Hp → Prop, t σ H P ∧ ∀ b H', P b H' → R b H'
theorem pt_cut {X : Cx} {e : Expr} {t : TT} (h : PT X e t) : PT X e (tCutT t) := ⟨fun pins s σ H Q I ⟨P, h1, h2⟩ => wpAny_mono (h.run pins s σ H P I h1) (fun b s' ⟨H', I', p⟩ => ⟨H', I', h2 _ _ p⟩) fun _ _ e => e⟩
def tCutE (t : TE) : TE := fun σ H R => ∃ P : VK, t σ H P ∧ ∀ b H', P b H' → R b H'
theorem pe_cut {X : Cx} {e : Expr} {t : TE} (h : PE X e t) : PE X e (tCutE t) := ⟨fun pins s σ H Q I ⟨P, h1, h2⟩ => wpAny_mono (h.run pins s σ H P I h1) (fun b s' ⟨v, H', I', r, p⟩ => ⟨v, H', I', r, h2 _ _ p⟩) fun _ _ e => e⟩
theorem g_cutT {t : TT} {σ : L2.St} {H : Hp} {R : Bool → Hp → Prop} (P : Bool → Hp → Prop) (h1 : t σ H P) (h2 : ∀ b H', P b H' → R b H') : tCutT t σ H R := ⟨P, h1, h2⟩
theorem g_cutE {t : TE} {σ : L2.St} {H : Hp} {R : VK} (P : VK) (h1 : t σ H P) (h2 : ∀ b H', P b H' → R b H') : tCutE t σ H R := ⟨P, h1, h2⟩
theorem g_chain {r r' : R2} {ta tb tc : TE} {σ : L2.St} {H : Hp} {Q : VK} (h : ta σ H fun x H1 => tb σ H1 fun y H2 => r x y H2 fun z H3 => ∃ k, z = .bl k ∧ (if k = true then tc σ H3 fun w' H4 => r' y w' H4 Q else Q (.bl false) H3)) : tChain r r' ta tb tc σ H Q := h
theorem g_par3 {i j l : Nat} {ta : TA} {D : Ends} {σ : L2.St} {H : Hp} (h : ta σ H fun vs H1 => ∃ u v w, vs = [u, v, w] ∧ D.nx (((σ.set i (some u)).set j (some v)).set l (some w)) H1) : tPar3 i j l ta D σ H := h
theorem g_par3' {a b c : V} {T : V → V → V → Prop} (h : T a b c) : ∃ u v w, [a, b, c] = [u, v, w] ∧ T u v w := ⟨a, b, c, rfl, h⟩
theorem g_while {c : TT} {tb : TS} {D : Ends} {σ : L2.St} {H : Hp} (W : Nat → L2.St → Hp → Prop) (m0 : Nat) (h0 : W m0 σ H) (hs : ∀ m σ H, W m σ H →
    c σ H fun b H1 => if b = true then ∃ N : L2.St → Hp → Prop, (∀ σ' H', N σ' H' → ∃ m', m' < m ∧ W m' σ' H') ∧ tb { D with nx := N, ct := N, bk := D.nx } σ H1 else D.nx σ H1) : tWhile c tb D σ H := ⟨W, ⟨m0, h0⟩, hs⟩
theorem g_wbody {tb : TS} {D : Ends} {σ : L2.St} {H : Hp} {W : Nat → L2.St → Hp → Prop} {m : Nat} (h : tb { D with nx := fun σ' H' => ∃ m', m' < m ∧ W m' σ' H', ct := fun σ' H' => ∃ m', m' < m ∧ W m' σ' H', bk := D.nx } σ H) :
    ∃ N : L2.St → Hp → Prop, (∀ σ' H', N σ' H' → ∃ m', m' < m ∧ W m' σ' H') ∧ tb { D with nx := N, ct := N, bk := D.nx } σ H := ⟨_, fun _ _ z => z, h⟩
section
variable {K : PySem.W.Frag} {H : Hp} {Q : VK} {x y : V}
theorem g_eqV (hs : scal x y = true) (h : Q (.bl (decide (x = y))) H) : oEq K x y H Q := .inl ⟨hs, h⟩
theorem g_neV (hs : scal x y = true) (h : Q (.bl (!decide (x = y))) H) : oNe K x y H Q := .inl ⟨hs, h⟩
end
/-- an int or a text -/
def IS (t : V) : Prop := (∃ n, t = .int n) ∨ ∃ x, t = .str x
theorem IS.int (n : Int) : IS (.int n) := .inl ⟨n, rfl⟩
theorem IS.str (n : Str) : IS (.str n) := .inr ⟨n, rfl⟩
theorem IS.scal {t u : V} (ht : IS t) (hu : IS u) : scal t u = true := by
  rcases ht with ⟨n, rfl⟩ | ⟨n, rfl⟩ <;> rcases hu with ⟨m, rfl⟩ | ⟨m, rfl⟩ <;> rfl
theorem IS.flat {t : V} (ht : IS t) : flatV t = true := by
  rcases ht with ⟨n, rfl⟩ | ⟨n, rfl⟩ <;> rfl
theorem IS.eqV {t u : V} (ht : IS t) (hu : IS u) : eqV t u = decide (t = u) := by
  rcases ht with ⟨n, rfl⟩ | ⟨n, rfl⟩ <;> rcases hu with ⟨m, rfl⟩ | ⟨m, rfl⟩
  · show (n == m) = _
    by_cases h : n = m
    · subst h; simp
    · have : (n == m) = false := beq_eq_false_iff_ne.mpr h
      rw [this]; simp [h]
  · show false = _
    simp
  · show false = _
    simp
  · show (n == m) = _
    by_cases h : n = m
    · subst h; simp
    · have : (n == m) = false := beq_eq_false_iff_ne.mpr h
      rw [this]; simp [h]
/-- x in (a, b) -/
theorem IS.in2 {x a b : V} (hx : IS x) (ha : IS a) (hb : IS b) : inV x [a, b] = decide (a = x ∨ b = x) := by
  unfold inV
  simp only [List.any_cons, List.any_nil, Bool.or_false]
  rw [ha.eqV hx, hb.eqV hx]
  by_cases h1 : a = x <;> by_cases h2 : b = x <;> simp [h1, h2]
theorem g_in2 {K : PySem.W.Frag} {H : Hp} {Q : VK} {x a b : V} {p : Addr} (hp : H p = some (.tup [a, b])) (hx : IS x) (ha : IS a) (hb : IS b) (q : Q (.bl (decide (a = x ∨ b = x))) H) : rIn K false x (.ref p) H Q :=
  ⟨p, _, rfl, .inr (SqT.of hp), hx.flat, by simp [ha.flat, hb.flat], by rw [hx.in2 ha hb]; exact q⟩
def dV : V → PyData
  | .int n => .int n
  | .str x => .str x
  | _ => .none
theorem IS.dp {K : PySem.W.Frag} {H : Hp} {t : V} (ht : IS t) : Dp K H t (dV t) := by
  rcases ht with ⟨n, rfl⟩ | ⟨n, rfl⟩
  · exact .int n
  · exact .str n
theorem IS.eqv {t u : V} (ht : IS t) (hu : IS u) : PyData.eqv (dV t) (dV u) = decide (t = u) := by
  rw [← ht.eqV hu]
  rcases ht with ⟨n, rfl⟩ | ⟨n, rfl⟩ <;> rcases hu with ⟨m, rfl⟩ | ⟨m, rfl⟩ <;> simp [dV, PyData.eqv, L2.eqV]
end Up

set_option Elab.async false
set_option linter.all false
set_option pp.maxSteps 600
set_option maxRecDepth 100000
set_option maxHeartbeats 4000000
namespace Up
open PySem PySem.Spec PyProof.Rows L2 PySem.W
/-! ### own exceptions over ArithmeticError, their __init__ walked as a def -/
structure AxC (K : PySem.W.Frag) (C : Addr) : Prop where
  ini : excInitIn K C aeT "ArithmeticError.__new__" = true
  ov : excOver K C aeT = true
  hd : hasDictIn K C = true
  sa : findIn K (.ref C) "__setattr__" = some (some (.builtin "object.__setattr__"))
  exC : subIn K (.ref C) (.type "BaseException") = some true
  tyC : typeIn K (.ref C) = some (.type "type")
  kC : keepIn K (.ref C) = true
section
variable {prog : Program} {w : World} {A : Around} {R : Result → Shared → Prop} {K : PySem.W.Frag} {x C : Addr} {name : Str} {tk : Tok} {v : Value} {hp : Heap} {g : Array GenState} {d : Drawn} {t : Nat} {os : OsState}
/-- the first field: the dict is laid -/
theorem ax_set0 {fv : Array Value} (T : AxC K C) (Y : K.In hp) (hx : hp.get? x = some { cls := .ref C, data := .fields fv }) (ht : takerIn K C name = some none)
    (q : ∀ h' tk' dx, (∀ b o, b ≠ x → hp.get? b = some o → h'.get? b = some o) → hp.objs.size ≤ dx → dx ≠ x → h'.get? x = some { cls := .ref C, dict := some dx, data := .fields fv } → h'.Ns1 dx (fun y => if y = name then some v else none) → R (.ok (.ret .none)) ⟨h', g, d, tk', os⟩) :
    codeAny (model prog w) A (.call (.builtin "object.__setattr__") ⟨[.ref x, .str name tk, v], []⟩) R ⟨hp, g, d, t, os⟩ := by
  refine osa_openX (s := ⟨hp, g, d, t, os⟩) (od := none) PySem.F.store_ArithmeticError Y ⟨hx, rfl, rfl, trivial⟩ T.ov ht fun b => ?_
  obtain ⟨cd, hc, hd'⟩ := any_some T.hd
  have ne : x ≠ hp.objs.size := Nat.ne_of_lt (Heap.lt_size hx)
  have hcl : Looks (model prog w) hp (classData C) cd := looks_clsIn Y hc
  obtain ⟨c1, c2, c3, c4, c5, c6, c7, c8, c9, c10, c11⟩ := cd
  have hd2 : c6 = true := hd'
  subst hd2
  unfold Builtin.ObjectAttr.storeInOwnDict Builtin.ObjectAttr.ownDictForStores
  repeat (first | with_reducible refine HandSPX.store_in_new ?_ ?_ | with_reducible refine wpAny_loadPart_at hx ?_ | with_reducible refine hcl.at ?_ | wp_step)
  · exact ⟨_, #[], _, (Heap.get?_update_ne _ _ _ _ ne.symm).trans (Heap.get?_push_at rfl rfl), rfl, fun e he => absurd he (by simp), fun _ => rfl⟩
  · intro h' tk' n1 sb
    have hx1 : (hp.push { cls := .type "dict", data := .dict #[] }).get? x = some { cls := .ref C, data := .fields fv } := Heap.get?_push_of_some _ hx
    exact q h' tk' hp.objs.size (fun b o hb ho => (sb.2 b (Nat.ne_of_lt (Heap.lt_size ho))).trans ((Heap.get?_update_ne _ _ _ _ hb).trans (Heap.get?_push_of_some _ ho))) (Nat.le_refl _) ne.symm
      ((sb.2 x ne).trans (Heap.get?_update_self _ hx1 rfl)) n1
/-- a later one -/
theorem ax_setD {fv : Array Value} {dx : Addr} {m0 : Str → Option Value} {nl : List Str} (T : AxC K C) (Y : K.In hp) (hx : hp.get? x = some { cls := .ref C, dict := some dx, data := .fields fv }) (hn : hp.Ns1 dx m0) (hw : Within m0 nl) (hz : nl.length ≤ 1000) (ht : takerIn K C name = some none)
    (q : ∀ h' tk', (∀ b o, b ≠ dx → hp.get? b = some o → h'.get? b = some o) → h'.Ns1 dx (fun y => if y = name then some v else m0 y) → R (.ok (.ret .none)) ⟨h', g, d, tk', os⟩) :
    codeAny (model prog w) A (.call (.builtin "object.__setattr__") ⟨[.ref x, .str name tk, v], []⟩) R ⟨hp, g, d, t, os⟩ := by
  obtain ⟨oD, esD, epD, hoD, hdD, _⟩ := hn.count hw
  refine osa_openX (s := ⟨hp, g, d, t, os⟩) (od := some oD) PySem.F.store_ArithmeticError Y ⟨hx, rfl, rfl, hoD⟩ T.ov ht fun b => ?_
  obtain ⟨cd, hc, hd'⟩ := any_some T.hd
  have hcl : Looks (model prog w) hp (classData C) cd := looks_clsIn Y hc
  obtain ⟨c1, c2, c3, c4, c5, c6, c7, c8, c9, c10, c11⟩ := cd
  have hd2 : c6 = true := hd'
  subst hd2
  unfold Builtin.ObjectAttr.storeInOwnDict Builtin.ObjectAttr.ownDictForStores
  repeat (first | with_reducible refine OEX.store_in_old hn hw hz ?_ | with_reducible refine wpAny_loadPart_at hx ?_ | with_reducible refine hcl.at ?_ | wp_step)
  intro h' tk' n1 sb
  exact q h' tk' (fun b o hb ho => (sb.2 b hb).trans ho) n1
end
theorem taker_none {K : PySem.W.Frag} {C : Addr} {f : Str} (h : findIn K (.ref C) f = some none) : takerIn K C f = some none := by
  unfold takerIn
  rw [h]
  rfl
section
variable {X : Cx} {pins : List (Addr × Obj)} {σ : L2.St} {H : Hp} {s : Shared} {a C dx : Addr} {f : Str} {y : V} {u : Value} {fs : List (Str × V)} {Q : Unit → Shared → Prop} {E : Value → Shared → Prop} {A : Around}
theorem ax_new (T : AxC X.K C) (I : L2.Inv X pins σ H s) (ea : H a = some (exo a C none)) (hno : findIn X.K (.ref C) f = some none) (ry : L2.RelV y u)
    (h : ∀ dx s', H dx = none → dx ≠ a → L2.Inv X pins σ (upd (upd H dx (exd dx [(f, y)])) a (exo a C (some dx))) s' → Q () s') : wpAny (model X.prog X.w) A (setAttr (.ref a) f u) Q E s := by
  obtain ⟨t1, oa⟩ := exo_at I.hok ea
  obtain ⟨hp, gg, dr, tt, oo⟩ := s
  refine set_plain I.kIn (ox := { cls := .ref C, dict := none, data := .fields #[.ref t1, .none, .none, .none, .bool false, .none] }) (od := none) ⟨oa, rfl, rfl, trivial⟩ T.sa (ax_set0 T I.kIn oa (taker_none hno) fun h' tk' dx kp dn dne hx hn => ?_)
  have fr : H dx = none := I.hok.fresh dn
  have old : ∀ {b : Addr} {o : Obj}, hp.get? b = some o → b ≠ dx := fun {b o} z => Nat.ne_of_lt (Nat.lt_of_lt_of_le (Heap.lt_size z) dn)
  have nota : ∀ {b : Addr}, H b = none → b ≠ a := fun {b} n z => by
    subst z
    exact absurd (ea.symm.trans n) (by simp)
  refine h dx _ fr dne (I.un (t' := tk') ⟨fun b o z n _ _ => kp b o (nota n) z, fun b o z n _ _ => ⟨o.slots, kp b o (nota n) z⟩, fun b o z n _ => ?_, fun b o z _ => ?_, fun b xs z => ?_, fun b o v z => ?_, fun b ps z => ?_⟩ fun b o z => ?_)
  · rw [upd_ne (nota n), upd_ne (old z), n]
  · by_cases hb : b = a
    · subst hb; exact ⟨_, hx⟩
    · exact ⟨o, kp b o hb z⟩
  · rw [upd_ne (at_ne ea z exo_tup), upd_ne (ne_of_none z fr), z]
  · rw [upd_ne (at_ne ea z exo_frz), upd_ne (ne_of_none z fr), z]
  · refine ⟨#[], ?_⟩
    rw [upd_ne (at_ne ea z exo_tbl), upd_ne (ne_of_none z fr), z]
    simp
  · by_cases hb : b = a
    · subst hb
      rw [upd_same] at z
      cases z
      exact exo_ok hx
    · rw [upd_ne hb] at z
      by_cases hd : b = dx
      · subst hd
        rw [upd_same] at z
        cases z
        exact exd_ok hn (relO_put (fs := []) ry fun _ => trivial)
      · rw [upd_ne hd] at z
        refine (I.hok b o z).stay (fun c v hc r => kp c v ?_ r) (fun c hc => ?_) (fun c xs hc => ?_)
        · rcases hc with hc | hc
          · rw [hc]; exact hb
          · exact at_ne ea hc exo_own
        · rw [upd_ne (at_ne ea hc exo_own), upd_ne (ne_of_none hc fr), hc]
        · rw [upd_ne (at_ne ea hc exo_tup), upd_ne (ne_of_none hc fr), hc]
theorem ax_old (T : AxC X.K C) (I : L2.Inv X pins σ H s) (ea : H a = some (exo a C (some dx))) (ed : H dx = some (exd dx fs)) (hl : fs.length ≤ 900) (hno : findIn X.K (.ref C) f = some none) (ry : L2.RelV y u)
    (h : ∀ s', L2.Inv X pins σ (upd H dx (exd dx ((f, y) :: fs))) s' → Q () s') : wpAny (model X.prog X.w) A (setAttr (.ref a) f u) Q E s := by
  obtain ⟨t1, oa⟩ := exo_at I.hok ea
  obtain ⟨mA, hns, rel⟩ := exd_at I.hok ed
  obtain ⟨hp, gg, dr, tt, oo⟩ := s
  have hw := within_of rel
  obtain ⟨oD, _, _, hoD, _, _⟩ := hns.count hw
  refine set_plain I.kIn (ox := { cls := .ref C, dict := some dx, data := .fields #[.ref t1, .none, .none, .none, .bool false, .none] }) (od := some oD) ⟨oa, rfl, rfl, hoD⟩ T.sa
    (ax_setD T I.kIn oa hns hw (by rw [List.length_map]; omega) (taker_none hno) fun h' tk' kp hn => ?_)
  have there : ∃ o, h'.get? dx = some o := by
    obtain ⟨o, _, _, z, _⟩ := hn
    exact ⟨o, z⟩
  exact h _ (I.write (t' := tk') (x := dx) (e := dx) (o := exd dx ((f, y) :: fs)) (by rw [ed]; trivial) (.inl rfl) kp there (exd_ok hn (relO_put ry rel)))
/-- ArithmeticError.__init__(self, ..) -/
theorem ax_init {us : List Value} {Q : Value → Shared → Prop} (T : AxC X.K C) (I : L2.Inv X pins σ H s) (ea : H a = some (exo a C none)) (hl : us.length ≤ sizeLine) (h : ∀ s', L2.Inv X pins σ H s' → Q .none s') :
    wpAny (model X.prog X.w) A (call (.builtin "ArithmeticError.__init__") (.ref a :: us)) Q E s := by
  obtain ⟨nm, N, qn, bs, bm, hd, sn, sub, ab, col, dd, k0, k1, k2, k3, k5, hC, hT⟩ := excInit_of I.kIn T.ini
  obtain ⟨t1, oa⟩ := exo_at I.hok ea
  obtain ⟨hp, gg, dr, tt, oo⟩ := s
  refine wpAny_call (HandSPX.init_base PySem.F.excBase_ArithmeticError hT hC oa hl fun h' t2 kp hx => ?_)
  have J := I.write (t' := tt) (x := a) (e := a) (o := exo a C none) (by rw [ea]; trivial) (.inl rfl) kp ⟨_, hx⟩ (exo_ok hx)
  have same : upd H a (exo a C none) = H := funext fun b => by
    by_cases hb : b = a
    · subst hb; rw [upd_same, ea]
    · rw [upd_ne hb]
  rw [same] at J
  exact h _ J
end
theorem typ_AE : typeOf (.type "ArithmeticError") = pure (.type "type") := by kernel_rfl
/-! readings and rules -/
def tAxI (K : PySem.W.Frag) (ta : TA) : TE := fun σ H Q => ta σ H fun vs H1 => ∃ (a C : Addr) (ws : List V), vs = .ref a :: ws ∧ ws.length ≤ 1000 ∧ AxC K C ∧ H1 a = some (exo a C none) ∧ Q .non H1
def AxNew (H : Hp) (a C : Addr) (f : Str) (y : V) (R : Hp → Prop) : Prop := ∀ dx H', H dx = none → dx ≠ a → H' a = some (exo a C (some dx)) → H' dx = some (exd dx [(f, y)]) → (∀ b, b ≠ a → b ≠ dx → H' b = H b) → R H'
def AxOld (H : Hp) (a dx : Addr) (fs : List (Str × V)) (f : Str) (y : V) (R : Hp → Prop) : Prop := ∀ H', H' dx = some (exd dx ((f, y) :: fs)) → (∀ b, b ≠ dx → H' b = H b) → R H'
def tAxS (K : PySem.W.Frag) (f : Str) (to te : TE) : TS := fun D σ H => te σ H fun y H1 => to σ H1 fun x H2 => ∃ a C : Addr, x = .ref a ∧ AxC K C ∧ findIn K (.ref C) f = some none ∧
  ((H2 a = some (exo a C none) ∧ AxNew H2 a C f y (D.nx σ)) ∨ ∃ (dx : Addr) (fs : List (Str × V)), H2 a = some (exo a C (some dx)) ∧ H2 dx = some (exd dx fs) ∧ fs.length ≤ 900 ∧ AxOld H2 a dx fs f y (D.nx σ))
section
variable {X : Cx} {o e : Expr} {es : List Expr} {to te : TE} {ta : TA} {f : Str} {p p' p1 p2 pos : Pos}
theorem pe_axI {pl : Sem Bool} (hm : X.mg "ArithmeticError" = none) (vV : findCls X.K (.type "ArithmeticError") (.type "type") "__init__" = some (.val (.builtin "ArithmeticError.__init__"))) (ha : PA X (e :: es) ta) (hg : Gl X "ArithmeticError" := by rfl)
    (hc : eval (.Call (.Attribute (.Name "ArithmeticError" p1) "__init__" p2) (e :: es) [] pos) X.env = (do
      let ov ← eval (.Name "ArithmeticError" p1) X.env
      standAt p2.atName
      let (f, first) ← holding [ov] (getMethod ov "__init__" pl)
      callWith pos f first (backTo pos (starEach (e :: es) X.env)) (backToKw pos (keywordEach [] X.env))) := by rfl)
    (he : starEach (e :: es) X.env = (false, eval e X.env) :: starEach es X.env := by rfl) (hpl : (backTo pos (starEach es X.env)).any (·.1) = false := by rfl) :
    PE X (.Call (.Attribute (.Name "ArithmeticError" p1) "__init__" p2) (e :: es) [] pos) (tAxI X.K ta) := by
  refine ⟨fun pins s σ H Q I h => methodCall_KW (ld_blt I hg hm PyProof.Rows.Boot.«ArithmeticError» ?_ (by decide) (by decide)) hc⟩
  obtain ⟨m, fr⟩ := I.fr
  refine method_type fr I.ok.mod.kin typ_AE (by decide +kernel) vV (by decide +kernel) ?_
  show wpAny _ _ (callWith pos (Value.builtin "ArithmeticError.__init__") [] (backTo pos (starEach (e :: es) X.env)) []) _ _ _
  refine PyProof.Rows.callWith_method1 (thn (ha.run pos pins _ σ H _ (I.tok _) h) fun us s1 ⟨vs, H1, I1, r1, a, C, ws, ev, hl, T, ea, q⟩ => ?_) he hpl
  subst ev
  cases r1 with
  | @cons _ u0 _ ur ra rr =>
    cases (show u0 = Value.ref a from ra)
    have n := Paired.length rr
    exact ax_init T I1 ea (by rw [← n, sizeLine_eq]; omega) fun s' J => ⟨.non, H1, J, rfl, q⟩
theorem ps_axS (ho : PE X o to) (he : PE X e te) (hs : swapsWith e (some (.Attribute o f p')) pos.line X.env = pure false := by rfl) : PS X (.Assign [.Attribute o f p'] e pos) (tAxS X.K f to te) := by
  refine ⟨fun pins s σ H D I h => plainObj_wpAny_Assign_Attribute (thn (he.run pins s σ H _ I h) fun v s1 ⟨y, H1, I1, r1, q1⟩ => thn (ho.run pins s1 σ H1 _ I1 q1) fun u s2 ⟨x, H2, I2, r2, a, C, ex, T, hno, q⟩ => ?_) hs⟩
  subst ex
  cases (show u = Value.ref a from r2)
  rcases q with ⟨ea, q⟩ | ⟨dx, fs, ea, ed, hl, q⟩
  · exact ax_new T I2 ea hno r1 fun dx s' n ne J => ⟨σ, _, J, q dx _ n ne upd_same ((upd_ne ne).trans upd_same) fun b b1 b2 => (upd_ne b1).trans (upd_ne b2)⟩
  · exact ax_old T I2 ea ed hl hno r1 fun s' J => ⟨σ, _, J, q _ upd_same fun b b1 => upd_ne b1⟩
/-- C(..) of such a class -/
theorem pmk_ax {CX : CXT} {x : Str} {C fI : Addr} {k : Nat} {fd : FuncData} {ps : List Str} {sp : Sp} {ds : List Value} {dvs : List V} (T : AxC X.K C) (iC : findIn X.K (.ref C) "__init__" = some (some (.ref fI))) (tI : typeIn X.K (.ref fI) = some (.type "function"))
    (F1 : FnOk X.prog X.w X.K X.mg X.base CX k fI fd ps sp) (hr : Room (k + 1) X.A) (hb : Binds X.K fd ps ds) (hd : Vals dvs ds) (hx : Passes CX X (fun _ _ _ => False)) (hm : X.mg x = some (.ref C)) (ha : PA X (e :: es) ta) (hg : Gl X x := by rfl)
    (hdb : (x == ("__debug__" : Str)) = false := by decide) (he : starEach (e :: es) X.env = (false, eval e X.env) :: starEach es X.env := by rfl) (hpl : (backTo pos (starEach es X.env)).any (·.1) = false := by rfl) :
    PMk X (.Call (.Name x p) (e :: es) [] pos) (tMkO C sp dvs ta) := by
  intro pins s σ H Q I h
  refine wpAny_Call_Name_kw (ld_glob I hg hm ?_ hdb)
  refine callWith_K (h₀ := X.base) I.ok.mod.kin T.kC (thn (ha.run pos pins s σ H _ I h) fun us s1 ⟨vs, H1, I1, r1, hz, q1⟩ => ⟨I1.kIn, ?_⟩) he hpl
  show wpAny _ _ (call (.ref C) us) _ _ _
  obtain ⟨hp, gg, dr, tk, oo⟩ := s1
  obtain ⟨nm, N, qn, bs, bm, hdc, sn, sub, ab, col, dd, k0, k1, k2, k3, k5, hC, hT⟩ := excInit_of I1.kIn T.ini
  have le1 : hp.objs.size ≤ hp.objs.size + 1 := Nat.le_succ _
  have free1 : H1 (hp.objs.size + 1) = none := I1.hok.fresh le1
  have todo := q1 (hp.objs.size + 1) free1
  have kp : ∀ b o, hp.get? b = some o → ((hp.push (kdv_tup us)).push (HandSPX.excO C hp.objs.size)).get? b = some o := fun b o z => Heap.get?_push_of_some _ (Heap.get?_push_of_some _ z)
  have at1 : ((hp.push (kdv_tup us)).push (HandSPX.excO C hp.objs.size)).get? (hp.objs.size + 1) = some (HandSPX.excO C hp.objs.size) := by heap_get
  have I2 := I1.laid (t' := tk) (a := hp.objs.size + 1) (o := exo (hp.objs.size + 1) C none) (h' := (hp.push (kdv_tup us)).push (HandSPX.excO C hp.objs.size)) kp le1 (exo_ok at1)
  have rels : Vals (V.ref (hp.objs.size + 1) :: (vs ++ dvs)) (Value.ref (hp.objs.size + 1) :: (us ++ ds)) := .cons rfl (r1.append hd)
  have len : (Value.ref (hp.objs.size + 1) :: us ++ ds).length = ps.length := by
    have z := rels.length
    rw [F1.len _ _ _ _ todo] at z
    exact z.symm
  have lus : us.length ≤ sizeLine := by
    have z := Paired.length r1
    rw [sizeLine_eq]
    omega
  have fun1 := F1.run _ X.stack _ _ ⟨Value.ref (hp.objs.size + 1) :: us, []⟩ (Value.ref (hp.objs.size + 1) :: (us ++ ds)) _ _ (fun _ _ _ => False) (hr.make C us []) (I2.env0.make C us []) (hb _ (Value.ref (hp.objs.size + 1) :: us) I2.kIn len) rels todo
  refine wpAny_call (HandSPX.call_own PySem.F.excBase_ArithmeticError hT hC (looks_findIn I1.kIn iC) (fun self => bind_fn I1.kIn self tI) lus (codeAny_mono fun1 fun r s' z => ?_))
  cases r with
  | error er => exact hx pins σ _ _ er s' I2 z
  | ok fl =>
    cases fl
    case ret u =>
      obtain ⟨v, H2, os2, bare2, un2, hok2, rv, ev, d, fs, ea, ed, hd1, q2⟩ := z
      subst ev
      obtain ⟨h2, g2, d2, t2, o2⟩ := s'
      exact ⟨rv, mk_end (raises_own T.exC T.tyC) I1 le1 kp un2 hok2 os2 bare2 ea ed hd1 q2⟩
    all_goals exact False.elim z
end
end Up

set_option Elab.async false
set_option linter.all false
set_option pp.maxSteps 600
set_option maxRecDepth 100000
set_option maxHeartbeats 4000000
namespace Up
open PySem PySem.Spec PyProof.Rows L2
section
variable {C : Addr}
/-! raise, made of a reading -/
def tRai (t : L2.St → Hp → XK → Prop) (W : WX) : TS := fun _ σ H => t σ H fun cls d H' => W cls d σ H'
theorem g_rai {t : L2.St → Hp → XK → Prop} {W : WX} {D : Ends} {σ : L2.St} {H : Hp} (h : t σ H fun cls d H' => W cls d σ H') : tRai t W D σ H := h
def MkOR (C : Addr) (sp : Sp) (dvs : List V) (Q : XK) (vs : List V) (H1 : Hp) : Prop := vs.length ≤ 1000 ∧ ∀ a, H1 a = none → sp (.ref a :: (vs ++ dvs)) (upd H1 a (exo a C none))
  (fun v H2 => v = .non ∧ ∃ (d : Addr) (fs : List (Str × V)), H2 a = some (exo a C (some d)) ∧ H2 d = some (exd d fs) ∧ H1 d = none ∧ Q (.ref C) (some d) (upd (del H2 a) d (.xd fs))) (fun _ _ _ => False)
theorem g_mko {sp : Sp} {dvs : List V} {ta : TA} {σ : L2.St} {H : Hp} {Q : XK} (h : ta σ H fun vs H1 => MkOR C sp dvs Q vs H1) : tMkO C sp dvs ta σ H Q := h
theorem pe_fnS {X : Cx} {CX : CXT} {k : Nat} {x : Str} {ps : List Str} {sp : Sp} {E : L2.St → XK} {p pos : Pos} {e : Expr} {es : List Expr} {t : TA} (F : Fn X.prog X.w X.K X.mg X.base CX k x ps [] sp) (hr : Room k X.A) (hx : ∀ σ, PassesAt CX X σ (E σ)) (ha : PA X (e :: es) t) (hg : Gl X x := by rfl)
    (hdb : (x == ("__debug__" : Str)) = false := by decide) (he : starEach (e :: es) X.env = (false, eval e X.env) :: starEach es X.env := by rfl) (hpl : (backTo pos (starEach es X.env)).any (·.1) = false := by rfl) :
    PE X (.Call (.Name x p) (e :: es) [] pos) (tCallS sp E t) := by
  obtain ⟨f, fd, ds, F, hm, hk, hb, hd⟩ := F
  cases hd
  exact pe_callS F hr hg hm hk hb hx ha hdb he hpl
end
end Up

set_option Elab.async false
set_option linter.all false
set_option maxRecDepth 100000
set_option maxHeartbeats 4000000
namespace Up
open PySem PySem.Spec PyProof.Rows L2
/-! ### a list beside an empty one -/
def oEqE (K : PySem.W.Frag) : R2 := fun x y H Q => ∃ a b xs, x = .ref a ∧ y = .ref b ∧ SqL K H a xs ∧ SqL K H b [] ∧ Q (.bl xs.isEmpty) H
def oNeE (K : PySem.W.Frag) : R2 := fun x y H Q => ∃ a b xs, x = .ref a ∧ y = .ref b ∧ SqL K H a xs ∧ SqL K H b [] ∧ Q (.bl (!xs.isEmpty)) H
theorem op_eqE {X : Cx} (hu : X.A.units + 64 < cLine) : OpR X (compareOp .Eq) (oEqE X.K) := by
  intro pins s σ H x y v u Q I rx ry h
  obtain ⟨a, b, xs, rfl, rfl, ha, hb, q⟩ := h
  cases rx
  cases ry
  obtain ⟨its, r1, p1, _⟩ := I.list ha
  obtain ⟨jts, r2, p2, _⟩ := I.list hb
  have l1 := r1.length
  have l2 := r2.length
  by_cases e : xs = []
  · subst e
    have z1 : its.toArray.size = 0 := by rw [List.size_toArray, ← l1]; rfl
    refine SeqAt.eq_listAt (e := fun _ => true) p1.isList p2.isList (by rw [z1, List.size_toArray, ← l2]; rfl) (by omega) (fun j h1 => absurd h1 (by omega)) ?_
    rw [z1]
    exact ⟨.bl true, H, I, rfl, q⟩
  · refine SeqAt.eq_list_lengthsAt p1.isList p2.isList ?_ (by omega) ?_
    · rw [List.size_toArray, List.size_toArray, ← l1, ← l2]
      cases xs with
      | nil => exact absurd rfl e
      | cons _ _ => rfl
    · cases xs with
      | nil => exact absurd rfl e
      | cons _ _ => exact ⟨.bl false, H, I, rfl, q⟩
theorem op_neE {X : Cx} (hu : X.A.units + 64 < cLine) : OpR X (compareOp .NotEq) (oNeE X.K) := by
  intro pins s σ H x y v u Q I rx ry h
  obtain ⟨a, b, xs, rfl, rfl, ha, hb, q⟩ := h
  cases rx
  cases ry
  obtain ⟨its, r1, p1, _⟩ := I.list ha
  obtain ⟨jts, r2, p2, _⟩ := I.list hb
  have l1 := r1.length
  have l2 := r2.length
  by_cases e : xs = []
  · subst e
    have z1 : its.toArray.size = 0 := by rw [List.size_toArray, ← l1]; rfl
    refine SeqAt.RcNeAt.lists (e := fun _ => true) p1.isList p2.isList (by rw [z1, List.size_toArray, ← l2]; rfl) (by omega) (fun j h1 => absurd h1 (by omega)) _ _ _ _ ?_
    rw [z1]
    exact ⟨.bl false, H, I, rfl, q⟩
  · refine SeqAt.RcNeAt.lists_lengths p1.isList p2.isList ?_ (by omega) _ _ _ _ ?_
    · rw [List.size_toArray, List.size_toArray, ← l1, ← l2]
      cases xs with
      | nil => exact absurd rfl e
      | cons _ _ => rfl
    · cases xs with
      | nil => exact absurd rfl e
      | cons _ _ => exact ⟨.bl true, H, I, rfl, q⟩
theorem g_eqE {K : PySem.W.Frag} {H : Hp} {Q : VK} {a b : Addr} {xs : List V} (ha : H a = some (.lst xs)) (hb : H b = some (.lst [])) (q : Q (.bl xs.isEmpty) H) : oEqE K (.ref a) (.ref b) H Q := ⟨a, b, xs, rfl, rfl, SqL.of ha, SqL.of hb, q⟩
theorem g_neE {K : PySem.W.Frag} {H : Hp} {Q : VK} {a b : Addr} {xs : List V} (ha : H a = some (.lst xs)) (hb : H b = some (.lst [])) (q : Q (.bl (!xs.isEmpty)) H) : oNeE K (.ref a) (.ref b) H Q := ⟨a, b, xs, rfl, rfl, SqL.of ha, SqL.of hb, q⟩
/-! ### xs[i] op= e -/
def rGetL (K : PySem.W.Frag) : V → V → Hp → VK → Prop := fun x y H Q => ∃ p xs i z, x = .ref p ∧ y = .int i ∧ SqL K H p xs ∧ 0 ≤ i ∧ atI xs i = some z ∧ Q z H
theorem pget_list {X : Cx} : PGet X (rGetL X.K) := by
  intro pins s σ H x y v u Q I rx ry h
  obtain ⟨p, xs, i, z, rfl, rfl, hq, h0, he, q⟩ := h
  cases rx
  obtain ⟨t, rfl⟩ := ry
  obtain ⟨its, r, pl, hz⟩ := I.list hq
  obtain ⟨j, h1, h2, h3, h4, h5⟩ := atI_get he
  obtain ⟨w, ew, rw'⟩ := r.get h2
  have hl := r.length
  have hn := line63
  have hj : i.toNat = j := by
    rw [seqIndex_of h0 h5] at h1
    exact Option.some.inj h1
  exact wpAny_getItem_list pl.isList h0 (by omega) (by rw [hj]; simpa using ew) ⟨z, H, I, rw', q⟩
theorem g_augS {to ti te : TE} {tget : V → V → Hp → VK → Prop} {tip : TIp} {tset : TSet} {D : Ends} {σ : L2.St} {H : Hp} (h : to σ H fun o H1 => ti σ H1 fun i H2 => tget o i H2 fun x H3 => te σ H3 fun y H4 => tip x y H4 fun z H5 => tset o i z H5 fun H6 => D.nx σ H6) : tAugS to ti te tget tip tset D σ H := h
theorem g_getL {K : PySem.W.Frag} {H : Hp} {Q : VK} {p : Addr} {xs : List V} {i : Int} {z : V} (h : H p = some (.lst xs)) (h0 : 0 ≤ i) (e : atI xs i = some z) (q : Q z H) : rGetL K (.ref p) (.int i) H Q := ⟨p, xs, i, z, rfl, rfl, SqL.of h, h0, e, q⟩
theorem g_ipI {f : Int → Int → Int} {i j : Int} {H : Hp} {Q : VK} (q : Q (.int (f i j)) H) : ipI f (.int i) (.int j) H Q := ⟨i, j, rfl, rfl, q⟩
def ipM : TIp := fun x y H Q => ∃ i j, x = .int i ∧ y = .int j ∧ IntMulOk i j ∧ Q (.int (i * j)) H
theorem ip_mul {X : Cx} : PIp X .Mult ipM := by
  intro pins s σ H x y v u Q I r1 r2 h
  obtain ⟨i, j, e1, e2, hm, q⟩ := h
  subst e1; subst e2
  obtain ⟨t, rfl⟩ := r1
  obtain ⟨t', rfl⟩ := r2
  exact imul_int ⟨.int _, H, I.tok _, ⟨_, rfl⟩, q⟩ hm
theorem g_ipM {i j : Int} {H : Hp} {Q : VK} (hm : IntMulOk i j) (q : Q (.int (i * j)) H) : ipM (.int i) (.int j) H Q := ⟨i, j, rfl, rfl, hm, q⟩
theorem g_ord {c : Nat} {H : Hp} {Q : VK} (q : Q (.int (c : Nat)) H) : (fun xs H Q => ∃ x, xs = [V.str x] ∧ x.length = 1 ∧ Q (.int (x.cps.getD 0 0 : Nat)) H : List V → Hp → VK → Prop) [.str ⟨#[c]⟩] H Q := ⟨_, rfl, rfl, q⟩
/-! ### other readings -/
theorem g_nt {A B : Prop} (h : B) : if (!true) = true then A else B := h
theorem g_nf {A B : Prop} (h : A) : if (!false) = true then A else B := h

theorem g_bm {K : PySem.W.Frag} {T : String} {r : V → List V → Hp → VK → Prop} {to : TE} {t : TA} {σ : L2.St} {H : Hp} {Q : VK} (h : to σ H fun x H1 => tyV K T x H1 ∧ t σ H1 fun vs H2 => r x vs H2 Q) : tBM K T r to t σ H Q := h
theorem g_app {H : Hp} {Q : VK} {l : Addr} {xs : List V} {y : V} (h : H l = some (.lst xs)) (hz : xs.length < sizeLine) (q : ∀ H', H' l = some (.lst (xs ++ [y])) → (∀ b, b ≠ l → H' b = H b) → Q .non H') : rAppend (.ref l) [y] H Q := ⟨l, xs, y, rfl, rfl, h, hz, q _ upd_same fun b hb => upd_ne hb⟩
theorem g_ext {H : Hp} {Q : VK} {l b : Addr} {xs zs : List V} (h : H l = some (.lst xs)) (hb : H b = some (.lst zs)) (hz : xs.length + zs.length ≤ sizeLine) (q : ∀ H', H' l = some (.lst (xs ++ zs)) → (∀ b, b ≠ l → H' b = H b) → Q .non H') : rExtend (.ref l) [.ref b] H Q := ⟨l, b, xs, zs, rfl, rfl, h, hb, hz, q _ upd_same fun b hb => upd_ne hb⟩
theorem tyL {K : PySem.W.Frag} {H : Hp} {p : Addr} {xs : List V} (h : H p = some (.lst xs)) : tyV K "list" (.ref p) H := .inl ⟨rfl, _, SqL.of h⟩
theorem g_iStr {te : TE} {σ : L2.St} {H : Hp} {R : It → Hp → Prop} (h : te σ H fun v H1 => ∃ x, v = .str x ∧ R (Its x) H1) : iStr te σ H R := h
theorem atI_of {xs : List V} {i : Int} {v : V} (h0 : 0 ≤ i) (h : xs[i.toNat]? = some v) : atI xs i = some v := by
  have hl : i.toNat < xs.length := by
    by_cases e : i.toNat < xs.length
    · exact e
    · rw [List.getElem?_eq_none (by omega)] at h; cases h
  unfold atI
  have e : ixN xs.length i = some i.toNat := by unfold ixN; rw [if_pos h0, if_pos (by omega)]
  rw [e]
  exact h
theorem ixN_of {n : Nat} {i : Int} (h0 : 0 ≤ i) (h : i < n) : ixN n i = some i.toNat := by unfold ixN; rw [if_pos h0, if_pos (by omega)]
theorem g_aug {i : Nat} {te : TE} {tip : TIp} {D : Ends} {σ : L2.St} {H : Hp} (h : ∃ v, σ[i]? = some (some v) ∧ te σ H fun y H1 => tip v y H1 fun z H2 => D.nx (σ.set i (some z)) H2) : tAug i te tip D σ H := h
theorem g_fldaug {K : PySem.W.Frag} {ta tv : TE} {rd : R2} {f : Str} {D : Ends} {σ : L2.St} {H : Hp} (h : ta σ H fun x H1 => ∃ a C dx fs v, x = .ref a ∧ H1 a = some (.ins C dx fs) ∧ Cls K C ∧ NoAttr K C f ∧ fs.lookup f = some v ∧ tv σ H1 fun y H2 => rd v y H2 fun z H3 => ∃ dx' fs', H3 a = some (.ins C dx' fs') ∧ fs'.length < 1000 ∧ D.nx σ (upd H3 a (.ins C dx' (putF f z fs')))) : sFldAug K ta tv rd f D σ H := h
theorem pg_tupE {X : Cx} (K : PySem.W.Frag) {es : List Expr} {k : Nat} {t : TGs} {n : Nat} {pos : Pos} (hK : X.K = K) (hc : X.calm = true) (h : PGs X es t)
    (hn : (assignEach es X.env).length = n := by rfl) (hst : (assignEach es X.env).findIdx? (·.1) = none := by rfl) : PG X (.Tuple es k pos) (gTup K n t) := hK ▸ pg_tup hc h hn hst
/-! ### loops over enumerate, over a text -/
theorem for_enum {K : PySem.W.Frag} {a : Addr} {xs : List V} {g : TG} {tb : TS} {D : Ends} {σ : L2.St} {H : Hp} (Pv : Nat → L2.St → Hp → Prop) (h0 : Pv 0 σ H) (hl : ∀ i σ H, i ≤ xs.length → Pv i σ H → SqL K H a xs)
    (hs : ∀ i x σ H T, xs[i]? = some x → Pv i σ H → H T = none → g (.ref T) σ (upd H T (.tup [.int (i : Nat), x])) fun σ2 H2 => tb { D with nx := Pv (i + 1), ct := Pv (i + 1), bk := D.nx } σ2 H2) (hd : ∀ σ H, Pv xs.length σ H → D.nx σ H) :
    ∃ W : Nat → Nat → L2.St → Hp → Prop, (∃ m, W 0 m σ H) ∧ ∀ i m σ H, W i m σ H →
      ((Ite K a).stop i H ∧ D.nx σ H) ∨ ((Ite K a).go i H ∧ ∃ N : L2.St → Hp → Prop, (∀ σ' H', N σ' H' → ∃ m', m' < m ∧ W (i + 1) m' σ' H') ∧ ∀ x H', (Ite K a).yld i H x H' → g x σ H' fun σ2 H2 => tb { D with nx := N, ct := N, bk := D.nx } σ2 H2) := by
  refine ⟨fun i m σ H => m = xs.length - i ∧ i ≤ xs.length ∧ Pv i σ H, ⟨xs.length, by simp, Nat.zero_le _, h0⟩, ?_⟩
  rintro i m σ H ⟨rfl, hi, p⟩
  have q := hl i σ H hi p
  by_cases hlt : i < xs.length
  · refine .inr ⟨⟨xs, xs[i], q, by simp [hlt]⟩, Pv (i + 1), fun σ' H' p' => ⟨xs.length - (i + 1), by omega, rfl, hlt, p'⟩, fun x H' y => ?_⟩
    obtain ⟨T, y, rfl, hT, rfl, hy⟩ := y
    exact hs i y σ _ T (hy xs q) p hT
  · have e : i = xs.length := by omega
    subst e
    exact .inl ⟨⟨xs, q, Nat.le_refl _⟩, hd σ H p⟩
theorem lc_enum {K : PySem.W.Frag} {a : Addr} {xs : List V} {g : TG} {tt : TT} {te : TE} {vs : List Nat} {σ : L2.St} {H1 : Hp} {D : Addr} {Qd : Hp → Prop} (Pv : Nat → Hp → Prop) (h0 : Pv 0 (upd H1 D (.lst []))) (hl : ∀ i H, i ≤ xs.length → Pv i H → SqL K H a xs)
    (hs : ∀ i x H T, xs[i]? = some x → Pv i H → H T = none → g (.ref T) (wipe σ vs) (upd H T (.tup [.int (i : Nat), x])) fun σ2 H2 => wipe σ2 vs = wipe σ vs ∧ tt σ2 H2 fun b H3 =>
      if b = true then te σ2 H3 fun y H4 => ∃ acc, H4 D = some (.lst acc) ∧ acc.length < sizeLine ∧ Pv (i + 1) (upd H4 D (.lst (acc ++ [y]))) else Pv (i + 1) H3) (hd : ∀ H, Pv xs.length H → Qd H) :
    ∃ W : Nat → Nat → Hp → Prop, (∃ m, W 0 m (upd H1 D (.lst []))) ∧ ∀ i m H, W i m H →
      ((Ite K a).stop i H ∧ Qd H) ∨ ((Ite K a).go i H ∧ ∃ Nx : Hp → Prop, (∀ H', Nx H' → ∃ m', m' < m ∧ W (i + 1) m' H') ∧ ∀ x H', (Ite K a).yld i H x H' → g x (wipe σ vs) H' fun σ2 H2 => wipe σ2 vs = wipe σ vs ∧ tt σ2 H2 fun b H3 =>
        if b = true then te σ2 H3 fun y H4 => ∃ acc, H4 D = some (.lst acc) ∧ acc.length < sizeLine ∧ Nx (upd H4 D (.lst (acc ++ [y]))) else Nx H3) := by
  refine ⟨fun i m H => m = xs.length - i ∧ i ≤ xs.length ∧ Pv i H, ⟨xs.length, by simp, Nat.zero_le _, h0⟩, ?_⟩
  rintro i m H ⟨rfl, hi, p⟩
  have q := hl i H hi p
  by_cases hlt : i < xs.length
  · refine .inr ⟨⟨xs, xs[i], q, by simp [hlt]⟩, Pv (i + 1), fun H' p' => ⟨xs.length - (i + 1), by omega, rfl, hlt, p'⟩, fun x H' y => ?_⟩
    obtain ⟨T, y, rfl, hT, rfl, hy⟩ := y
    exact hs i y _ T (hy xs q) p hT
  · have e : i = xs.length := by omega
    subst e
    exact .inl ⟨⟨xs, q, Nat.le_refl _⟩, hd H p⟩
theorem for_str {x : Str} {g : TG} {tb : TS} {D : Ends} {σ : L2.St} {H : Hp} (Pv : Nat → L2.St → Hp → Prop) (h0 : Pv 0 σ H)
    (hs : ∀ i c σ H, x.cps[i]? = some c → Pv i σ H → g (.str ⟨#[c]⟩) σ H fun σ2 H2 => tb { D with nx := Pv (i + 1), ct := Pv (i + 1), bk := D.nx } σ2 H2) (hd : ∀ σ H, Pv x.cps.size σ H → D.nx σ H) :
    ∃ W : Nat → Nat → L2.St → Hp → Prop, (∃ m, W 0 m σ H) ∧ ∀ i m σ H, W i m σ H →
      ((Its x).stop i H ∧ D.nx σ H) ∨ ((Its x).go i H ∧ ∃ N : L2.St → Hp → Prop, (∀ σ' H', N σ' H' → ∃ m', m' < m ∧ W (i + 1) m' σ' H') ∧ ∀ x' H', (Its x).yld i H x' H' → g x' σ H' fun σ2 H2 => tb { D with nx := N, ct := N, bk := D.nx } σ2 H2) := by
  refine ⟨fun i m σ H => m = x.cps.size - i ∧ i ≤ x.cps.size ∧ Pv i σ H, ⟨x.cps.size, by simp, Nat.zero_le _, h0⟩, ?_⟩
  rintro i m σ H ⟨rfl, hi, p⟩
  by_cases hlt : i < x.cps.size
  · refine .inr ⟨hlt, Pv (i + 1), fun σ' H' p' => ⟨x.cps.size - (i + 1), by omega, rfl, hlt, p'⟩, fun x' H' y => ?_⟩
    obtain ⟨rfl, c, hc, rfl⟩ := y
    exact hs i c σ _ hc p
  · have e : i = x.cps.size := by omega
    subst e
    exact .inl ⟨Nat.le_refl _, hd σ H p⟩
end Up

set_option Elab.async false
set_option linter.all false
set_option pp.maxSteps 600
set_option maxRecDepth 100000
set_option maxHeartbeats 4000000
namespace Up
open PySem PySem.Spec PyProof.Rows L2 PySem.SeqAt HN
/-! ### own __eq__ that tells NotImplemented -/
/-- a call that tells NotImplemented, and leaves all as it is -/
def NiEnd (outer : List Env) (P : Program) (w : World) (H : Hp) (s : Shared) (r : Result) (s' : Shared) : Prop := match r with
  | .ok (.ret u) => u = .notImplemented ∧ s'.os = s.os ∧ AllBare s'.gens ∧ Un (frs outer) [] H H s.heap s'.heap ∧ HOk P w H s'.heap
  | .ok _ => False
  | .error e => CX0 outer H s E0 e s'
theorem int_ne_ins (b : Int) (u : Tok) (l : Addr) (c : Value) (dd : Option Addr) (sl : Array (Option Value)) :
    Meets (Builtin.«int.__ne__» ⟨[.int b u, .ref l], []⟩) (fun _ R s => s.heap.get? l = some { cls := c, dict := dd, data := .plain, slots := sl } ∧ R (.ok (.ret .notImplemented)) s) :=
  .of_wp fun prog w A R s h => by obtain ⟨hp, g, d, tk, os⟩ := s; obtain ⟨hl, h⟩ := h; wp_walk using wpAny_loadPart' hl, wpAny_load hl; exact ⟨_, rfl, h⟩
theorem int_eq_ins (b : Int) (u : Tok) (l : Addr) (c : Value) (dd : Option Addr) (sl : Array (Option Value)) :
    Meets (Builtin.«int.__eq__» ⟨[.int b u, .ref l], []⟩) (fun _ R s => s.heap.get? l = some { cls := c, dict := dd, data := .plain, slots := sl } ∧ R (.ok (.ret .notImplemented)) s) :=
  .of_wp fun prog w A R s h => by obtain ⟨hp, g, d, tk, os⟩ := s; obtain ⟨hl, h⟩ := h; wp_walk using wpAny_loadPart' hl, wpAny_load hl; exact ⟨_, rfl, h⟩
theorem ni_run {P : Program} {w : World} {K : PySem.W.Frag} {mg : Str → Option Value} {base : Heap} {k : Nat} {f : Addr} {fd : FuncData} {name qual : Str} {params : Arguments} {scope : Scope} {N ps : List Str} {c : Expr} {rest : List Stmt} {p1 p2 p3 : Pos} {tc : TT}
    (F : FunD K name qual params (.If c [.Return (some (.Name "NotImplemented" p1)) p2] [] p3 :: rest) scope [] [] f fd) (S : FnScope N ps scope) (hb : Binds K fd ps []) (hm : mg "NotImplemented" = none) (hg : scope.names.lookup ("NotImplemented" : Str) = some .globalImplicit)
    {A : Around} {outer : List Env} {s : Shared} {H : Hp} {us : List Value} {vs : List V} (hr : Room (k + 1) A) (e0 : Env0 P w K mg base A outer s H) (r : Vals vs us) (hl : vs.length = ps.length)
    (hc : ∀ cdv, PT (cxOf CX0 P w K mg base N qual scope f cdv A outer s H E0) c tc) (ht : tc (start N vs) H fun b H1 => b = true ∧ H1 = H) :
    codeAny (model P w) A (.call (.ref f) ⟨us, []⟩) (NiEnd outer P w H s) s := by
  obtain ⟨oc, od, dV, kV, doc, pm, an, cdv, ct, osl, rfl, lk, hcd, _, _⟩ := F.ex
  have KX : K.In s.heap := e0.mod.kin.keeps fun b o e => (e0.bs b o e).1
  have lim : s.heap.NoLimit := e0.mod.nolimit.keeps fun b o e => (e0.bs b o e).1
  have hkind : ∀ y ∈ ps.zip us, scope.names.lookup y.1 = some .local ∨ (scope.names.lookup y.1 = some .cell ∧ ((cellsFrom (s.heap.objs.size + 1) scope.names []).lookup y.1).isSome = true) := fun ⟨n, v⟩ hy => by
    rcases S.par n (List.of_mem_zip hy).1 with q | q
    · exact .inl q
    · exact .inr ⟨q, PySem.W.cellsFrom_some _ _ _ (.inl q)⟩
  have hlu : us.length = ps.length := by rw [← hl]; exact r.length.symm
  have bb := hb s us KX (by simpa using hlu)
  rw [List.append_nil] at bb
  refine codeAny_call_function hr.depth (KX _ _ lk) rfl S.co S.gen rfl (PySem.W.codeRec_of KX hcd) (bb _ _ _ _ ?_)
  refine wpAny_newFunctionEnv_cells S.kind hkind fun env he s1 x => ?_
  subst he
  refine ⟨lim.keeps x.toInCall.keep, codeAny_func ?_⟩
  have I : Inv (cxOf CX0 P w K mg base N qual scope f cdv A outer s H E0) [] (L2.start N vs) H s1 := inv_start S hr.hd e0 hl r x
  have body : wpAny (model P w) (A.deeper (envOfC qual scope s.heap.objs.size f cdv)) (execs (.If c [.Return (some (.Name "NotImplemented" p1)) p2] [] p3 :: rest) (cxOf CX0 P w K mg base N qual scope f cdv A outer s H E0).env)
      (fun fl s' => match fl with
        | .ret u => u = .notImplemented ∧ Inv (cxOf CX0 P w K mg base N qual scope f cdv A outer s H E0) [] (L2.start N vs) H s'
        | _ => False) (cxOf CX0 P w K mg base N qual scope f cdv A outer s H E0).xe s1 := by
    refine wpAny_execs_cons (thn (wpAny_If (Q := fun fl s' => match fl with
        | .ret u => u = .notImplemented ∧ Inv (cxOf CX0 P w K mg base N qual scope f cdv A outer s H E0) [] (L2.start N vs) H s'
        | _ => False) (thn ((hc cdv).run [] s1 _ H _ I ht) fun d s2 ⟨H1, I1, q⟩ => ?_)) fun fl s2 q => ?_)
    · obtain ⟨rfl, rfl⟩ := q
      refine wpAny_execs_cons (thn (wpAny_Return_some (Q := fun fl s' => match fl with
        | .ret u => u = .notImplemented ∧ Inv (cxOf CX0 P w K mg base N qual scope f cdv A outer s H1 E0) [] (L2.start N vs) H1 s'
        | _ => False) (ld_blt I1 hg hm (by decide +kernel : bootBuiltins "NotImplemented" = some .notImplemented) ⟨rfl, I1⟩ (by decide) (by decide))) fun fl s2 q => ?_)
      cases fl with
      | ret u => exact q
      | next => exact q.elim
      | brk => exact q.elim
      | cont => exact q.elim
    · cases fl with
      | ret u => exact q
      | next => exact q.elim
      | brk => exact q.elim
      | cont => exact q.elim
  refine wpAny_mono body (fun fl s' hs => ?_) fun e s' hs => hs
  cases fl with
  | ret u => exact ⟨hs.1, hs.2.os, hs.2.bare, hs.2.base, hs.2.hok⟩
  | next => exact hs.elim
  | brk => exact hs.elim
  | cont => exact hs.elim
/-- a class whose own __eq__ tells NotImplemented beside what is none of its instances -/
def NiC (P : Program) (w : World) (K : PySem.W.Frag) (mg : Str → Option Value) (base : Heap) (k : Nat) (C : Addr) : Prop :=
  ∃ f, PySem.W.findIn K (.ref C) "__eq__" = some (some (.ref f)) ∧ PySem.W.isFn K (.ref f) = true ∧ PySem.W.findIn K (.ref C) "__ne__" = some (some (.builtin "object.__ne__")) ∧ PySem.W.mroIn K C (.type "object") = some true ∧
    ∀ (A : Around) (outer : List Env) (s : Shared) (H : Hp) (a dx : Addr) (fs : List (Str × V)) (y : V) (u t : Value), Room k A → Env0 P w K mg base A outer s H → H a = some (.ins C dx fs) → Kn K H y t → PySem.W.kitOne K t (.ref C) = some false → RelV y u →
      codeAny (model P w) A (.call (.ref f) ⟨[.ref a, u], []⟩) (NiEnd outer P w H s) s
section
variable {X : Cx} {C : Addr} {k : Nat}
theorem ni_eq {pins : List (Addr × Obj)} {σ : L2.St} {H : Hp} {s : Shared} {A : Around} {f a dx : Addr} {fs : List (Str × V)} {y : V} {u t : Value} {R : Value → Shared → Prop} {E : Value → Shared → Prop}
    (hN : ∀ (A : Around) (outer : List Env) (s : Shared) (H : Hp) (a dx : Addr) (fs : List (Str × V)) (y : V) (u t : Value), Room k A → Env0 X.prog X.w X.K X.mg X.base A outer s H → H a = some (.ins C dx fs) → Kn X.K H y t → PySem.W.kitOne X.K t (.ref C) = some false → RelV y u →
      codeAny (model X.prog X.w) A (.call (.ref f) ⟨[.ref a, u], []⟩) (NiEnd outer X.prog X.w H s) s)
    (hr : Room k A) (hA : A.frames = X.A.frames) (I : L2.Inv X pins σ H s) (ha : H a = some (.ins C dx fs)) (hk : Kn X.K H y t) (hf : PySem.W.kitOne X.K t (.ref C) = some false) (hu : RelV y u)
    (q : ∀ s', L2.Inv X pins σ H s' → R .notImplemented s') : wpAny (model X.prog X.w) A (call (.ref f) [.ref a, u]) R E s := by
  have e := I.env0
  have e0 : Env0 X.prog X.w X.K X.mg X.base A X.stack s H := ⟨by rw [hA]; exact e.frames, e.mod, e.bs, e.bsz, e.funs, e.frf, e.hok, e.bare⟩
  refine wpAny_call (codeAny_mono (hN A X.stack s H a dx fs y u t hr e0 ha hk hf hu) fun r s' hq => ?_)
  cases r with
  | error e => exact hq.elim
  | ok fl =>
    cases fl with
    | ret v =>
      obtain ⟨rfl, os, bare, un, hok⟩ := hq
      obtain ⟨v, H', I', rv, rfl⟩ := I.after (Q := fun _ H' => H' = H) (u := Value.none) ⟨.non, H, os, bare, un, hok, rfl, rfl⟩
      exact q s' I'
    | next => exact False.elim hq
    | brk => exact False.elim hq
    | cont => exact False.elim hq
theorem op_neNI (T : NiC X.prog X.w X.K X.mg X.base k C) (hi : PySem.W.kitOne X.K (.type "int") (.ref C) = some false) (hr : Room (k + 1) X.A) : OpR X (compareOp .NotEq) (fun x y H Q => ∃ a dx fs i, x = .ref a ∧ y = .int i ∧ H a = some (.ins C dx fs) ∧ Q (.bl true) H) := by
  intro pins s σ H x y v u Q I rx ry h
  obtain ⟨f, hs, hf, hne, hm, hN⟩ := T
  obtain ⟨a, dx, fs, i, rfl, rfl, ha, q⟩ := h
  cases rx
  obtain ⟨tk, rfl⟩ := ry
  obtain ⟨mA, O, _⟩ := ins_get I.hok ha
  obtain ⟨od, J, _⟩ := O.look
  show wpAny (model X.prog X.w) X.A (richCompare .NotEq (.ref a) (.int i tk)) (EP X pins σ Q) X.xe s
  have hu := hr.un
  have one : wpAny (model X.prog X.w) X.A (tryCompare (.ref a) "__ne__" (.int i tk)) (fun r s' => r = none ∧ L2.Inv X pins σ H s') X.xe s := by
    unfold tryCompare
    refine wpAny_bind (ifBound_objNe I.kIn J hne ?_)
    refine wpAny_call (codeAny_call_builtin PySem.F.cmp_object.ne.plain PySem.F.cmpEntry_ne (PySem.W.check_slot PySem.F.cmpKind_ne PySem.F.cmpSplit_ne (J.type.andThen (PySem.W.looks_mroIn I.kIn hm)) (PySem.F.cmpArgs_ne _ _) ?_))
    unfold Builtin.«object.__ne__»
    refine wpAny_bind (wpAny_of_eq (a := ((Value.ref a : Value), [Value.int i tk])) (by first | rfl | (simp only [slotArgs]; rfl)) ?_)
    refine wpAny_bind (wpAny_cRoomFor (by show X.A.units + 1 < cLine; omega) ?_)
    refine wpAny_bind (PySem.W.ifBound_K I.kIn J hs hf ?_)
    refine ni_eq hN hr.in1 rfl I ha (y := .int i) kn_int hi ⟨tk, rfl⟩ fun s' I' => ?_
    refine wpAny_pure ?_
    exact wpAny_pure ⟨rfl, I'⟩
  have h0 : oneThing? .NotEq (.ref a) (.int i tk) = none := rfl
  simp only [richCompare, cmpInfo_NotEq, h0]
  refine wpAny_holding (wpAny_bind (wpAny_cRoomFor (by omega) ?_))
  refine wpAny_bind (J.type.here (wpAny_bind (wpAny_typeOf (typeIs_int s i tk) ?_)))
  split
  · refine wpAny_bind ((PySem.W.looks_subIn I.kIn (by rfl : PySem.W.subIn X.K (.type "int") (.ref C) = some false)).here ?_)
    simp only [Bool.false_eq_true, if_false, Bool.not_false, if_true]
    refine wpAny_bind (m := tryCompare (.ref a) _ (.int i tk)) (wpAny_mono one (fun r s' z => ?_) fun _ _ e => e)
    obtain ⟨rfl, I'⟩ := z
    obtain ⟨mA', O', _⟩ := ins_get I'.hok ha
    have ho : s'.heap.get? a = some (PySem.W.instObj C dx) := O'.obj
    refine wpAny_bind (m := tryCompare (.int i tk) _ (.ref a)) (wpAny_tryCompare_declines (typeIs_int s' i tk) PySem.F.slot_int_ne_refl (call_meets PySem.F.slot_int_ne_refl (typeIs_int s' i tk) PySem.F.entry_int_ne (PySem.F.args_int_ne_2 _ _) (int_ne_ins _ _ _ _ _ _) ⟨ho, ⟨rfl, ?_⟩⟩))
    exact wpAny_bind (wpAny_rule (wpAny_bind (wpAny_of_eq (rfl : isSame (.ref a) (.int i tk) = pure false) (wpAny_pure ⟨.bl true, H, I', rfl, q⟩))))
  · rename_i z
    exact absurd (by simp) z
theorem entry_int {M : Model} {A : Around} {E : Value → Shared → Prop} {s : Shared} {x : Addr} {i : Int} {tk : Tok} {Q : Fin → Shared → Prop} (hq : Q (.done (.ret .notImplemented)) s) : wpAny M A (Builtin.«object.__eq__» ⟨[.ref x, .int i tk], []⟩) Q E s := by
  have h1 : isSame (.ref x) (.int i tk) = pure false := rfl
  unfold Builtin.«object.__eq__»
  repeat (first | with_reducible refine wpAny_of_eq h1 ?_ | wp_step)
  exact hq
/-- an instance of a class without own __eq__, beside an int -/
theorem op_neIdI {D : Addr} (T : IdC X.K D) (hne : PySem.W.findIn X.K (.ref D) "__ne__" = some (some (.builtin "object.__ne__"))) (hu : X.A.units + 64 < cLine) : OpR X (compareOp .NotEq) (fun x y H Q => ∃ a dx fs i, x = .ref a ∧ y = .int i ∧ H a = some (.ins D dx fs) ∧ Q (.bl true) H) := by
  intro pins s σ H x y v u Q I rx ry h
  obtain ⟨a, dx, fs, i, rfl, rfl, ha, q⟩ := h
  cases rx
  obtain ⟨tk, rfl⟩ := ry
  obtain ⟨mA, O, _⟩ := ins_get I.hok ha
  obtain ⟨od, J, _⟩ := O.look
  have ho : s.heap.get? a = some (PySem.W.instObj D dx) := O.obj
  show wpAny (model X.prog X.w) X.A (richCompare .NotEq (.ref a) (.int i tk)) (EP X pins σ Q) X.xe s
  have one : wpAny (model X.prog X.w) X.A (tryCompare (.ref a) "__ne__" (.int i tk)) (fun r s' => r = none ∧ s' = s) X.xe s := by
    unfold tryCompare
    refine wpAny_bind (ifBound_objNe I.kIn J hne ?_)
    refine wpAny_call (codeAny_call_builtin PySem.F.cmp_object.ne.plain PySem.F.cmpEntry_ne (PySem.W.check_slot PySem.F.cmpKind_ne PySem.F.cmpSplit_ne (J.type.andThen (PySem.W.looks_mroIn I.kIn T.hm)) (PySem.F.cmpArgs_ne _ _) ?_))
    unfold Builtin.«object.__ne__»
    refine wpAny_bind (wpAny_of_eq (a := ((Value.ref a : Value), [Value.int i tk])) (by first | rfl | (simp only [slotArgs]; rfl)) ?_)
    refine wpAny_bind (wpAny_cRoomFor (by show X.A.units + 1 < cLine; omega) ?_)
    refine wpAny_bind (ifBound_objEq I.kIn J T.he ?_)
    refine wpAny_call (codeAny_call_builtin PySem.F.cmp_object.eq.plain PySem.F.cmpEntry_eq (PySem.W.check_slot PySem.F.cmpKind_eq PySem.F.cmpSplit_eq (J.type.andThen (PySem.W.looks_mroIn I.kIn T.hm)) (PySem.F.cmpArgs_eq _ _) (entry_int ?_)))
    refine wpAny_pure ?_
    exact wpAny_pure ⟨rfl, rfl⟩
  have h0 : oneThing? .NotEq (.ref a) (.int i tk) = none := rfl
  simp only [richCompare, cmpInfo_NotEq, h0]
  refine wpAny_holding (wpAny_bind (wpAny_cRoomFor (by omega) ?_))
  refine wpAny_bind (J.type.here (wpAny_bind (wpAny_typeOf (typeIs_int s i tk) ?_)))
  split
  · refine wpAny_bind ((PySem.W.looks_subIn I.kIn (by rfl : PySem.W.subIn X.K (.type "int") (.ref D) = some false)).here ?_)
    simp only [Bool.false_eq_true, if_false, Bool.not_false, if_true]
    refine wpAny_bind (m := tryCompare (.ref a) _ (.int i tk)) (wpAny_mono one (fun r s' z => ?_) fun _ _ e => e)
    obtain ⟨rfl, rfl⟩ := z
    refine wpAny_bind (m := tryCompare (.int i tk) _ (.ref a)) (wpAny_tryCompare_declines (typeIs_int _ i tk) PySem.F.slot_int_ne_refl (call_meets PySem.F.slot_int_ne_refl (typeIs_int _ i tk) PySem.F.entry_int_ne (PySem.F.args_int_ne_2 _ _) (int_ne_ins _ _ _ _ _ _) ⟨ho, ⟨rfl, ?_⟩⟩))
    exact wpAny_bind (wpAny_rule (wpAny_bind (wpAny_of_eq (rfl : isSame (.ref a) (.int i tk) = pure false) (wpAny_pure ⟨.bl true, H, I, rfl, q⟩))))
  · rename_i z
    exact absurd (by simp) z
theorem op_neBI : OpR X (compareOp .NotEq) (fun x y H Q => ∃ b i, x = .bl b ∧ y = .int i ∧ Q (.bl (!((if b = true then (1 : Int) else 0) == i))) H) := by
  intro pins s σ H x y v u Q I rx ry h
  obtain ⟨b, i, rfl, rfl, q⟩ := h
  cases rx
  obtain ⟨tk, rfl⟩ := ry
  exact RcNeAt.bool_int b i tk X.prog X.w X.xe _ ⟨.bl _, H, I, rfl, q⟩
end
end Up

set_option Elab.async false
set_option linter.all false
set_option pp.maxSteps 600
set_option maxRecDepth 100000
set_option maxHeartbeats 4000000
namespace Up
open PySem PySem.Spec PyProof.Rows L2 PySem.W
/-! ### isinstance of a caught error by its own class -/
theorem isi_own {prog : Program} {w : World} {A : Around} {K : PySem.W.Frag} {a D : Addr} {oe : Obj} {od : Option Obj} {s : Shared} {Q : Value → Shared → Prop} {E : Value → Shared → Prop} (X : K.In s.heap) (I : InstAt s.heap a oe D od) (h : ∀ tk, Q (.bool true) { s with toks := tk }) :
    wpAny (model prog w) A (call (.builtin "isinstance") [.ref a, .ref D]) Q E s :=
  call_isinstance (S := fun _ R s => (K.In s.heap ∧ InstAt s.heap a oe D od) ∧ ∀ tk, R (.ok (.ret (.bool true))) { s with toks := tk })
    (fun prog w A R s hs => isinstance_outer (isi_nested hs.1.1 hs.1.2.type (by unfold isIn; simp) (hs.2 s.toks)) (fun e => by cases e)) ⟨⟨X, I⟩, h⟩
def rIsO (D a : Addr) (cls : Value) : List V → Hp → VK → Prop := fun xs H Q => xs = [.ref a, .ref D] ∧ cls = .ref D ∧ Q (.bl true) H
theorem call_isO {X : Cx} {a D : Addr} {oe : Obj} {cls : Value} {d : Option Addr} {pn : List (Addr × Obj)} (hz : Zc cls d oe) (hf : ∃ vs, oe.data = .fields vs) (hd : d = none ∨ ∃ dd, d = some dd) : CallR (X.suite a ((a, oe) :: pn)) (.builtin "isinstance") (fun xs H Q => (∀ dd, d = some dd → ∃ fs, H dd = some (.xd fs)) ∧ rIsO D a cls xs H Q) := by
  intro pins s σ H xs us Q I r h
  obtain ⟨hdd, rfl, rfl, q⟩ := h
  cases r with
  | cons rx rr =>
    cases rr with
    | cons rt rr =>
      cases rr
      cases rx
      cases rt
      obtain ⟨hget, _⟩ := I.pin (a, oe) (List.mem_append.mpr (.inl List.mem_cons_self))
      obtain ⟨vs, hv⟩ := hf
      have J : ∃ od, PySem.W.InstAt s.heap a oe D od := by
        rcases hd with rfl | ⟨dd, rfl⟩
        · exact ⟨none, hget, hz.1, by unfold PySem.W.notCls; rw [hv] <;> rfl, by rw [hz.2]; trivial⟩
        · obtain ⟨fs, ea⟩ := hdd dd rfl
          have hx : ObjOk X.prog X.w H s.heap dd (.xd fs) := I.hok dd _ ea
          obtain ⟨mA, hns, hr⟩ := hx
          obtain ⟨od, ho, hl⟩ := lookIn_ns hns
          exact ⟨some od, hget, hz.1, by unfold PySem.W.notCls; rw [hv] <;> rfl, by rw [hz.2]; exact ho⟩
      obtain ⟨od, J⟩ := J
      exact isi_own I.kIn J fun tk => ⟨.bl true, H, I.kept (t' := tk) fun _ _ z => z, rfl, q⟩
/-! ### LuaError.__init__(self, ..), found at ArithmeticError -/
structure LuC (K : PySem.W.Frag) (mg : Str → Option Value) (L : Addr) : Prop where
  mg : mg "LuaError" = some (.ref L)
  rd : readsIn K L (.type "type") = true
  ga : specialIn K (.ref L) "__getattribute__" = some (some (.builtin "type.__getattribute__"))
  vV : findCls K (.ref L) (.type "type") "__init__" = some (.val (.builtin "ArithmeticError.__init__"))
section
variable {X : Cx} {e : Expr} {es : List Expr} {ta : TA} {p1 p2 pos : Pos} {L : Addr}
theorem pe_axL {pl : Sem Bool} (T : LuC X.K X.mg L) (ha : PA X (e :: es) ta) (hg : Gl X "LuaError" := by rfl)
    (hc : eval (.Call (.Attribute (.Name "LuaError" p1) "__init__" p2) (e :: es) [] pos) X.env = (do
      let ov ← eval (.Name "LuaError" p1) X.env
      standAt p2.atName
      let (f, first) ← holding [ov] (getMethod ov "__init__" pl)
      callWith pos f first (backTo pos (starEach (e :: es) X.env)) (backToKw pos (keywordEach [] X.env))) := by rfl)
    (he : starEach (e :: es) X.env = (false, eval e X.env) :: starEach es X.env := by rfl) (hpl : (backTo pos (starEach es X.env)).any (·.1) = false := by rfl) :
    PE X (.Call (.Attribute (.Name "LuaError" p1) "__init__" p2) (e :: es) [] pos) (tAxI X.K ta) := by
  refine ⟨fun pins s σ H Q I h => methodCall_KW (ld_glob I hg T.mg ?_ (by decide)) hc⟩
  refine method_cls I.kIn T.ga (cls_value I.kIn T.rd T.vV (by decide +kernel) ?_)
  show wpAny _ _ (callWith pos (Value.builtin "ArithmeticError.__init__") [] (backTo pos (starEach (e :: es) X.env)) []) _ _ _
  refine PyProof.Rows.callWith_method1 (thn (ha.run pos pins _ σ H _ (I.tok _) h) fun us s1 ⟨vs, H1, I1, r1, a, C, ws, ev, hl, T, ea, q⟩ => ?_) he hpl
  subst ev
  cases r1 with
  | @cons _ u0 _ ur ra rr =>
    cases (show u0 = Value.ref a from ra)
    have n := Paired.length rr
    exact ax_init T I1 ea (by rw [← n, sizeLine_eq]; omega) fun s' J => ⟨.non, H1, J, rfl, q⟩
end
end Up

set_option Elab.async false
set_option linter.all false
set_option pp.maxSteps 900
set_option maxRecDepth 100000
set_option maxHeartbeats 4000000
namespace Up
open PySem PySem.Spec PyProof.Rows L2
local macro_rules | `(tactic| walk_at "u") => `(tactic| first
  | with_reducible refine g_seq ?_
  | with_reducible refine g_asg ?_
  | with_reducible refine g_op ?_
  | ((with_reducible show tVar _ _ _ _); apply g_var; exact rfl)
  | with_reducible refine g_c ?_
  | with_reducible refine g_name ?_
  | with_reducible refine g_ifs ?_
  | with_reducible refine g_tt ?_
  | with_reducible refine g_tB ?_
  | with_reducible refine g_bl ?_
  | with_reducible refine g_ret ?_
  | with_reducible refine g_cb ?_
  | with_reducible refine g_cons ?_
  | with_reducible refine g_nil ?_
  | with_reducible refine g_call ?_
  | with_reducible refine g_and ?_
  | with_reducible refine g_or ?_
  | with_reducible refine g_not ?_
  | with_reducible refine g_andV ?_
  | with_reducible refine g_orV ?_
  | with_reducible refine g_notV ?_
  | with_reducible refine g_if ?_
  | with_reducible refine g_un ?_
  | with_reducible refine g_neg ?_
  | with_reducible refine g_addI ?_
  | with_reducible refine g_subI ?_
  | with_reducible refine g_subB ?_
  | with_reducible refine g_I0 ?_
  | with_reducible refine g_cmpI ?_
  | with_reducible refine g_eqI ?_
  | with_reducible refine g_neI ?_
  | with_reducible refine g_eqS ?_
  | with_reducible refine g_neS ?_
  | with_reducible refine g_eqB ?_
  | with_reducible refine g_neB ?_
  | with_reducible refine g_bits ?_
  | with_reducible refine g_bitsI ?_
  | with_reducible refine g_fld ?_
  | with_reducible refine g_tup ?_
  | with_reducible refine g_lst ?_
  | with_reducible refine g_gtup ?_
  | with_reducible refine g_make ?_
  | with_reducible refine g_lc ?_
  | with_reducible refine g_yesT ?_
  | with_reducible refine g_intI ?_
  | with_reducible refine g_intB ?_
  | with_reducible refine g_max2 ?_
  | with_reducible refine g_abs1 ?_
  | with_reducible refine g_for ?_
  | with_reducible refine g_iList ?_
  | with_reducible refine g_iTup ?_
  | with_reducible refine g_iRng1 ?_
  | with_reducible refine g_iEnum ?_
  | with_reducible refine g_slice ?_
  | with_reducible refine g_po0 ?_
  | with_reducible refine g_po1 ?_
  | with_reducible refine g_gsub ?_
  | with_reducible refine g_par ?_
  | with_reducible refine g_par2 ?_
  | with_reducible refine g_rfl ?_
  | with_reducible refine g_meth ?_
  | with_reducible refine g_gcons ?_
  | with_reducible refine g_gnil ?_
  | with_reducible refine g_gfld ?_
  | with_reducible refine g_sfld ?_
  | with_reducible refine g_drop ?_
  | with_reducible refine g_next ?_
  | with_reducible refine iteT ?_
  | with_reducible refine iteF ?_)
local macro_rules | `(tactic| walk_at "go") => `(tactic| (repeat walk_at "u"))

section
variable {P : Program} {w : World} {K : PySem.W.Frag} {mg : Str → Option Value} {base : Heap} {C CI L : Addr}
/-! ### InvalidArgument -/
structure IaK (K : PySem.W.Frag) (mg : Str → Option Value) (C L : Addr) : Prop where
  ax : AxC K C
  nP : PySem.W.findIn K (.ref C) "part" = some none
  xf : XfC K C
  lu : LuC K mg L
  mg : mg "InvalidArgument" = some (.ref C)
  te : PySem.W.exmOne K (.ref C) (.ref L) = some true
theorem sc_InvalidArgument_init : FnScope ["self", "part"] ["self", "part"] (defScope s_InvalidArgument_init) := ⟨rfl, rfl, rfl, by decide +kernel, rfl, by decide +kernel, by decide +kernel⟩
abbrev iaF (v : V) : List (Str × V) := [("part", v)]
def sp_IaInit (C : Addr) : Sp := fun vs H Q _ => ∃ (a : Addr) (v : V), vs = [.ref a, v] ∧ H a = some (exo a C none) ∧ ∀ d H', H d = none → d ≠ a → H' a = some (exo a C (some d)) → H' d = some (exd d (iaF v)) → (∀ b, b ≠ a → b ≠ d → H' b = H b) → Q .non H'
theorem ok_IaInit {f : Addr} {fd : FuncData} (F : FunD K "__init__" "InvalidArgument.__init__" (defArgs s_InvalidArgument_init) (defBody s_InvalidArgument_init) (defScope s_InvalidArgument_init) [] [] f fd) (T : IaK K mg CI L) : FnOk P w K mg base CX0 1 f fd ["self", "part"] (sp_IaInit CI) := by
  refine F.ok sc_InvalidArgument_init (fun vs H Q E h => ?_) (fun cdv A outer s H vs Q E hr h => ?_)
  · obtain ⟨_, _, rfl, _⟩ := h; rfl
  · obtain ⟨a, v, rfl, ha, q⟩ := h
    refine ⟨_, PSs.nox (pss_cons (ps_expr (pe_axL T.lu (pa_cons (pv 0) (pa_cons (pv 1) pa_nil)))) (pss_one (ps_axS (pv 0) (pv 1)))), ?_⟩
    refine g_seq (g_drop ?_)
    refine ⟨_, rfl, _, rfl, a, CI, [v], rfl, by simp, T.ax, ha, ?_⟩
    refine ⟨_, rfl, _, rfl, a, CI, rfl, T.ax, T.nP, .inl ⟨ha, fun d H1 nd ne h1 h2 kp => ?_⟩⟩
    exact q d H1 nd ne h1 h2 kp
def CIa (P : Program) (w : World) (K : PySem.W.Frag) (mg : Str → Option Value) (base : Heap) (C L : Addr) : Prop := IaK K mg C L ∧ ∃ fI fd, PySem.W.findIn K (.ref C) "__init__" = some (some (.ref fI)) ∧ PySem.W.typeIn K (.ref fI) = some (.type "function") ∧
  FnOk P w K mg base CX0 1 fI fd ["self", "part"] (sp_IaInit C) ∧ Binds K fd ["self", "part"] []
def IaR (C : Addr) (v : V) (H : Hp) (E : XK) : Prop := ∀ d H', Same H H' → H' d = some (.xd (iaF v)) → E (.ref C) (some d) H'
theorem IaR.later {v : V} {H H1 : Hp} {E : XK} (q : IaR C v H E) (s : Same H H1) : IaR C v H1 E := fun d H' s' h => q d H' (s.trans s') h
theorem g_ia {v : V} {H : Hp} {Q : XK} (q : IaR C v H Q) : MkOR C (sp_IaInit C) [] Q [v] H := by
  refine ⟨by simp, fun a na => ?_⟩
  refine ⟨a, v, rfl, upd_same, fun d H' nd dne ha hd kp => ⟨rfl, d, _, ha, hd, ?_, q d _ (fun b o e => ?_) upd_same⟩⟩
  · rw [upd_ne dne] at nd
    exact nd
  · rw [upd_ne dne] at nd
    have b1 := ne_of_none e na
    have b2 := ne_of_none e nd
    rw [upd_ne b2, del_ne b1, kp b b1 b2, upd_ne b1]
    exact e
theorem ps_ia {X : Cx} {W : WX} {e : Expr} {te : TE} {p pos pos2 : Pos} (T : CIa X.prog X.w X.K X.mg X.base C L) (hr : Room 2 X.A) (hc : X.calm = true) (tk : Takes X W) (he : PE X e te) (hg : Gl X "InvalidArgument" := by rfl)
    (hst : starEach (e :: []) X.env = (false, eval e X.env) :: starEach [] X.env := by rfl) (hpl : (backTo pos (starEach [] X.env)).any (·.1) = false := by rfl) :
    PS X (.Raise (some (.Call (.Name "InvalidArgument" p) [e] [] pos)) none pos2) (tRai (tMkO C (sp_IaInit C) [] (tCons te tNil)) W) := by
  obtain ⟨T, fI, fd, iC, tI, F, hb⟩ := T
  exact ps_raise hc tk (pmk_ax T.ax iC tI F hr hb .nil pass0 T.mg (pa_cons he pa_nil (hs := hst)) hg (by decide) hst hpl)
theorem ia_part (v : V) : (iaF v).lookup ("part" : Str) = some v := by
  have h2 : (("part" : Str) == ("part" : Str)) = true := by decide +kernel
  simp only [List.lookup, h2]
/-! ### Float(..) of anything -/
def fitR (n k : Int) : Bool := match (redV (.int n) k).1 with
  | .int m => fitsB m (redV (.int n) k).2
  | _ => false
def outF (s t p : V) : Option Str :=
  if ¬ (s = .int 1 ∨ s = .int (-1)) then some "sign"
  else match t with
    | .str x => if x = "inf" ∨ x = "nan" then (if x = "nan" ∧ s = .int (-1) then some "sign" else if p = .int 0 then none else some "power") else some "top"
    | .int n => if n < 0 then some "top" else match p with
      | .int k => if fitR n k = true then none else some "top"
      | _ => some "power"
    | _ => some "top"
def OutR (C CI : Addr) (a dx : Addr) (s t p : V) (H : Hp) (Q : VK) (E : XK) : Prop := match outF s t p with
  | some z => ∀ d H', (∀ b o, b ≠ a → H b = some o → H' b = some o) → H' d = some (.xd (iaF (.str z))) → E (.ref CI) (some d) H'
  | none => ∀ i k H', s = .int i → p = .int k → (∀ b o, b ≠ a → H b = some o → H' b = some o) → H' a = some (.ins C dx (flF i (redV t k).1 (redV t k).2)) → Q .non H'
def sp_FinitX (C CI : Addr) : Sp := fun vs H Q E => ∃ a dx s t p ts tt tp, vs = [.ref a, s, t, p] ∧ H a = some (.ins C dx []) ∧ Kn K H s ts ∧ Kn K H t tt ∧ Kn K H p tp ∧ OutR C CI a dx s t p H Q E
theorem isI_int {v : V} (h : isI v = true) : ∃ i, v = .int i := by
  cases v <;> first | exact ⟨_, rfl⟩ | cases h
theorem out_ia {a dx : Addr} {s t p : V} {H H' : Hp} {Q : VK} {E : XK} {z : Str} (q : OutR C CI a dx s t p H Q E) (e : outF s t p = some z) (st : ∀ b o, b ≠ a → H b = some o → H' b = some o) : IaR CI (.str z) H' E := by
  unfold OutR at q
  rw [e] at q
  exact fun d H2 s2 h => q d H2 (fun b o hb eb => s2 _ _ (st b o hb eb)) h
theorem out_sign {s t p : V} (h : ¬ (s = .int 1 ∨ s = .int (-1))) : outF s t p = some "sign" := if_pos h
theorem out_go {s t p : V} (h : s = .int 1 ∨ s = .int (-1)) : outF s t p = (match t with
    | .str x => if x = "inf" ∨ x = "nan" then (if x = "nan" ∧ s = .int (-1) then some "sign" else if p = .int 0 then none else some "power") else some "top"
    | .int n => if n < 0 then some "top" else match p with
      | .int k => if fitR n k = true then none else some "top"
      | _ => some "power"
    | _ => some "top") := if_neg (fun z => z h)
theorem out_top {s t p : V} (h : s = .int 1 ∨ s = .int (-1)) (h1 : isS t = false) (h2 : isI t = false) : outF s t p = some "top" := by
  rw [out_go h]
  cases t <;> first | rfl | (cases h1; done) | (cases h2; done)
theorem out_pow {s p : V} {n : Int} (h : s = .int 1 ∨ s = .int (-1)) (h1 : ¬ n < 0) (h2 : isI p = false) : outF s (.int n) p = some "power" := by
  rw [out_go h]
  show (if n < 0 then some ("top" : Str) else _) = _
  rw [if_neg h1]
  cases p <;> first | rfl | (cases h2; done)
theorem isS_str {v : V} (h : isS v = true) : ∃ i, v = .str i := by
  cases v <;> first | exact ⟨_, rfl⟩ | cases h
theorem st_same {a : Addr} {H H' : Hp} (s : Same H H') : ∀ b o, b ≠ a → H b = some o → H' b = some o := fun b o _ e => s _ _ e
theorem ok_FinitX {f : Addr} {fd : FuncData} (F : FunD K "__init__" "Float.__init__" (defArgs s_Float_init) (defBody s_Float_init) (defScope s_Float_init) [] [] f fd) (B : Blt mg) (T : FlC K mg C) (c_Inv : CIa P w K mg base CI L) (c_isplain : Fn P w K mg base CX0 1 "is_plain" ["number"] [] (sp_isplain K)) (c_reduced : Fn P w K mg base CX0 1 "reduced" ["top", "power"] [] sp_reduced)
    (c_fits : Fn P w K mg base CX0 1 "fits" ["top", "power"] [] sp_fits) : FnOk P w K mg base (L2.CX P w) 3 f fd ["self", "sign", "top", "power"] (sp_FinitX (K := K) C CI) := by
  refine F.ok sc_Float_init (fun vs H Q E h => ?_) (fun cdv A outer s H vs Q E hr h => ?_)
  · obtain ⟨_, _, _, _, _, _, _, _, rfl, _⟩ := h; rfl
  · obtain ⟨a, dx, sg, top, p, ts, tt, tp, rfl, ha, ks, kt, kp, q⟩ := h
    refine ⟨_, (pss_cons (ps_if (PW.pt (pw_or (pt_not (pt_val (pe_fn c_isplain (hr.mono (by first | decide | omega)) pass0 (pa_cons (pv 1) pa_nil)))) (pw_or1 (pt_cmpR op_notIn_seq (pv 1) (pe_tupN (pa_cons pe_int (pa_cons (pe_un un_neg pe_int) pa_nil))) (by rfl))))) (pss_one (ps_ia c_Inv (hr.mono (by decide)) rfl (takes_of rfl rfl rfl rfl) pe_str)) pss_nil)
  (C8.pss_cut (ps_if (PW.pt (pw_and (pt_val (pe_callB call_isi (by rfl) B.isinstance (by decide +kernel) (pa_cons (pv 2) (pa_cons (pe_tyStr B) pa_nil)))) (pw_and1 (pt_cmpR op_in_seq (pv 2) (pe_tupN (pa_cons pe_str (pa_cons pe_str pa_nil))) (by rfl))))) (pss_cons (ps_if (pt_cut (PW.pt (pw_and (pt_cmpR (op_oEq hr.units) (pv 2) pe_str (nomark _)) (pw_and1 (pt_cmpR (op_oEq hr.units) (pv 1) (pe_un un_neg pe_int) (nomark _)))))) (pss_one (ps_ia c_Inv (hr.mono (by decide)) rfl (takes_of rfl rfl rfl rfl) pe_str)) pss_nil)
  (pss_one (ps_if (PW.pt (pw_or (pt_not (pt_val (pe_fn c_isplain (hr.mono (by first | decide | omega)) pass0 (pa_cons (pv 3) pa_nil)))) (pw_or1 (pt_cmpR (op_oNe hr.units) (pv 3) pe_int (nomark _))))) (pss_one (ps_ia c_Inv (hr.mono (by decide)) rfl (takes_of rfl rfl rfl rfl) pe_str)) pss_nil))) (pss_one (ps_if (PW.pt (pw_or (pt_not (pt_val (pe_fn c_isplain (hr.mono (by first | decide | omega)) pass0 (pa_cons (pv 2) pa_nil)))) (pw_or1 (pt_cmpR op_oLt (pv 2) pe_int (nomark _))))) (pss_one (ps_ia c_Inv (hr.mono (by decide)) rfl (takes_of rfl rfl rfl rfl) pe_str)) (pss_one (ps_if (pt_not (pt_val (pe_fn c_isplain (hr.mono (by first | decide | omega)) pass0 (pa_cons (pv 3) pa_nil)))) (pss_one (ps_ia c_Inv (hr.mono (by decide)) rfl (takes_of rfl rfl rfl rfl) pe_str)) pss_nil)))))
  (pss_cons (ps_fld (pv 0) (pv 1) rfl)
  (pss_cons (ps_asg (pe_fn c_reduced (hr.mono (by first | decide | omega)) pass0 (pa_cons (pv 2) (pa_cons (pv 3) pa_nil))) (pg_tup rfl (pgs_cons (pg_fld (pv 0)) (pgs_cons (pg_fld (pv 0)) pgs_nil))))
  (pss_one (ps_if (PW.pt (pw_and (pt_cmpR op_notIn_seq (pe_fld (pv 0) rfl) (pe_tupN (pa_cons pe_str (pa_cons pe_str pa_nil))) (by rfl)) (pw_and1 (pt_not (pt_val (pe_fn c_fits (hr.mono (by first | decide | omega)) pass0 (pa_cons (pe_fld (pv 0) rfl) (pa_cons (pe_fld (pv 0) rfl) pa_nil)))))))) (pss_one (ps_ia c_Inv (hr.mono (by decide)) rfl (takes_of rfl rfl rfl rfl) pe_str)) pss_nil)))))), ?_⟩
    walk_at "go"
    refine ⟨_, _, rfl, ks, ?_⟩
    cases hs : isI sg with
    | false =>
      walk_at "go"
      refine g_nf ?_
      walk_at "go"
      refine g_rai ?_
      refine g_mko ?_
      walk_at "go"
      refine g_ia (out_ia q (out_sign ?_) (st_same (Same.refl _)))
      rintro (rfl | rfl) <;> cases hs
    | true =>
      obtain ⟨i, rfl⟩ := isI_int hs
      clear hs
      walk_at "go"
      refine g_nt ?_
      walk_at "go"
      refine g_new (sz rfl) fun a1 H1 na1 s1 ha1 _ => ?_
      refine ⟨a1, _, rfl, .inr (SqT.of ha1), rfl, rfl, ?_⟩
      walk_at "go"
      by_cases hi : i = 1 ∨ i = -1
      · have hin : (if true = true then !inV (V.int i) [V.int 1, V.int (-1)] else inV (V.int i) [V.int 1, V.int (-1)]) = false := by
          rcases hi with rfl | rfl <;> rfl
        rw [hin]
        walk_at "go"
        have hi2 : V.int i = .int 1 ∨ V.int i = .int (-1) := hi.imp (fun z => by rw [z]) fun z => by rw [z]
        refine g_cut (fun σ' H2 => ∃ k, p = .int k ∧ σ' = [some (.ref a), some (.int i), some top, some (.int k)] ∧ Same H1 H2 ∧ ((isIN top ∧ outF (.int i) top p = none) ∨ ∃ n : Nat, top = .int n ∧ outF (.int i) top p = (if fitR n k = true then none else some ("top" : Str)))) ?_ ?_
        · walk_at "go"
          refine g_isiStr (kt.same s1) ?_
          cases hS : isS top with
          | true =>
            obtain ⟨x, rfl⟩ := isS_str hS
            walk_at "go"
            refine g_new (sz rfl) fun a2 H2 na2 s2 ha2 _ => ?_
            refine ⟨a2, _, rfl, .inr (SqT.of ha2), rfl, rfl, ?_⟩
            walk_at "go"
            by_cases hx : x = "inf" ∨ x = "nan"
            · have hin2 : (if false = true then !inV (V.str x) [V.str "inf", V.str "nan"] else inV (V.str x) [V.str "inf", V.str "nan"]) = true := by
                rcases hx with rfl | rfl <;> decide +kernel
              rw [hin2]
              walk_at "go"
              have e0 : outF (.int i) (.str x) p = (if x = "nan" ∧ V.int i = .int (-1) then some ("sign" : Str) else if p = .int 0 then none else some ("power" : Str)) := by
                rw [out_go hi2]
                show (if x = "inf" ∨ x = "nan" then _ else _) = _
                exact if_pos hx
              refine g_cutT (fun v H' => v = decide (x = "nan" ∧ V.int i = .int (-1)) ∧ H' = H2) ?_ ?_
              · walk_at "go"
                refine g_ite (fun h1 => ?_) fun h1 => ?_
                · walk_at "go"
                  refine ⟨?_, rfl⟩
                  by_cases h2 : i = -1
                  · rw [decide_eq_true h2, decide_eq_true ⟨h1, by rw [h2]⟩]
                  · rw [decide_eq_false h2, decide_eq_false (fun z => h2 (by cases z.2; rfl))]
                · walk_at "go"
                  exact ⟨(decide_eq_false (fun z => h1 z.1)).symm, rfl⟩
              rintro _ H2 ⟨rfl, rfl⟩
              walk_at "go"
              refine g_ite (fun h1 => ?_) fun h1 => ?_
              · walk_at "go"
                refine g_rai ?_
                refine g_mko ?_
                walk_at "go"
                refine g_ia (out_ia q (e0.trans (if_pos h1)) (st_same (s1.trans s2)))
              · rw [if_neg h1] at e0
                walk_at "go"
                refine ⟨_, _, rfl, (kp.same s1).same s2, ?_⟩
                cases hP : isI p with
                | false =>
                  walk_at "go"
                  refine g_nf ?_
                  walk_at "go"
                  refine g_rai ?_
                  refine g_mko ?_
                  walk_at "go"
                  refine g_ia (out_ia q (e0.trans (if_neg (fun z => by rw [z] at hP; cases hP))) (st_same (s1.trans s2)))
                | true =>
                  obtain ⟨k, rfl⟩ := isI_int hP
                  walk_at "go"
                  refine g_nt ?_
                  walk_at "go"
                  by_cases hk : k = 0
                  · rw [decide_eq_true hk]
                    refine g_nt ?_
                    walk_at "go"
                    exact ⟨rfl, s2, .inl ⟨hx.imp (fun z => by rw [z]) (fun z => by rw [z]), e0.trans (if_pos (by rw [hk]))⟩⟩
                  · rw [decide_eq_false hk]
                    refine g_nf ?_
                    walk_at "go"
                    refine g_rai ?_
                    refine g_mko ?_
                    walk_at "go"
                    refine g_ia (out_ia q (e0.trans (if_neg (fun z => hk (by cases z; rfl)))) (st_same (s1.trans s2)))
            · have hin2 : (if false = true then !inV (V.str x) [V.str "inf", V.str "nan"] else inV (V.str x) [V.str "inf", V.str "nan"]) = false := by
                rw [if_neg (by decide)]
                show ((("inf" : Str) == x) || ((("nan" : Str) == x) || false)) = false
                have e1 : (("inf" : Str) == x) = false := beq_eq_false_iff_ne.mpr (fun z => hx (.inl z.symm))
                have e2 : (("nan" : Str) == x) = false := beq_eq_false_iff_ne.mpr (fun z => hx (.inr z.symm))
                rw [e1, e2]
                rfl
              rw [hin2]
              walk_at "go"
              refine ⟨_, _, rfl, (kt.same s1).same s2, ?_⟩
              walk_at "go"
              refine g_nf ?_
              walk_at "go"
              refine g_rai ?_
              refine g_mko ?_
              walk_at "go"
              refine g_ia (out_ia q ((out_go hi2).trans (if_neg hx)) (st_same (s1.trans s2)))
          | false =>
            walk_at "go"
            refine ⟨_, _, rfl, kt.same s1, ?_⟩
            cases hI : isI top with
            | false =>
              walk_at "go"
              refine g_nf ?_
              walk_at "go"
              refine g_rai ?_
              refine g_mko ?_
              walk_at "go"
              refine g_ia (out_ia q (out_top hi2 hS hI) (st_same (s1)))
            | true =>
              obtain ⟨n, rfl⟩ := isI_int hI
              walk_at "go"
              refine g_nt ?_
              walk_at "go"
              refine g_ite (fun h1 => ?_) fun h1 => ?_
              · walk_at "go"
                refine g_rai ?_
                refine g_mko ?_
                walk_at "go"
                refine g_ia (out_ia q ((out_go hi2).trans (if_pos h1)) (st_same (s1)))
              · walk_at "go"
                refine ⟨_, _, rfl, kp.same s1, ?_⟩
                cases hP : isI p with
                | false =>
                  walk_at "go"
                  refine g_nf ?_
                  walk_at "go"
                  refine g_rai ?_
                  refine g_mko ?_
                  walk_at "go"
                  refine g_ia (out_ia q (out_pow hi2 h1 hP) (st_same (s1)))
                | true =>
                  obtain ⟨k, rfl⟩ := isI_int hP
                  walk_at "go"
                  refine g_nt ?_
                  walk_at "go"
                  obtain ⟨n, rfl⟩ := Int.eq_ofNat_of_zero_le (show 0 ≤ n by omega)
                  exact ⟨rfl, Same.refl _, .inr ⟨n, rfl, (out_go hi2).trans (if_neg h1)⟩⟩
        · rintro _ H2 ⟨k, rfl, rfl, s2, ok⟩
          have h2 := s2 _ _ (s1 _ _ ha)
          walk_at "go"
          refine ⟨a, C, dx, _, rfl, h2, T.own.cl, T.nS, Nat.le_of_ble_eq_true rfl, ?_⟩
          walk_at "go"
          have hx : isIN top ∨ ∃ n : Int, top = .int n ∧ (n ≠ 0 → 0 ≤ lowB n) := by
            rcases ok with ⟨h, _⟩ | ⟨n, rfl, _⟩
            · exact .inl h
            · refine .inr ⟨_, rfl, fun h => ?_⟩
              rw [lowB_nat (by omega)]
              omega
          refine ⟨_, _, rfl, hx, fun H3 a3 na3 s3 ha3 => ?_⟩
          have h3 : H3 a = some (.ins C dx (putF "sign" (.int i) [])) := s3 _ _ upd_same
          have n3 : a3 ≠ a := fun z => by rw [z, upd_same] at na3; cases na3
          walk_at "go"
          refine ⟨a3, _, rfl, SqT.of ha3, rfl, ?_⟩
          walk_at "go"
          refine ⟨a, C, dx, _, rfl, h3, T.own.cl, T.nT, Nat.le_of_ble_eq_true rfl, ?_⟩
          walk_at "go"
          refine ⟨a, C, dx, _, rfl, upd_same, T.own.cl, T.nP, Nat.le_of_ble_eq_true rfl, ?_⟩
          walk_at "go"
          generalize e4 : upd (upd H3 a (.ins C dx (putF "top" (redV top k).1 (putF "sign" (.int i) [])))) a (.ins C dx (putF "power" (.int (redV top k).2) (putF "top" (redV top k).1 (putF "sign" (.int i) [])))) = H4
          have h4 : H4 a = some (.ins C dx (flF i (redV top k).1 (redV top k).2)) := by rw [← e4]; exact upd_same
          have k4 : ∀ b o, b ≠ a → H b = some o → H4 b = some o := fun b o hb e => by
            rw [← e4, upd_ne hb, upd_ne hb]
            exact s3 _ _ (by rw [upd_ne hb]; exact s2 _ _ (s1 _ _ e))
          refine ⟨a, C, dx, _, _, rfl, h4, T.own.cl, T.nT, fl_top _ _ _, ?_⟩
          walk_at "go"
          refine g_new (sz rfl) fun a5 H5 na5 s5 ha5 _ => ?_
          have fin : outF (.int i) top (.int k) = none → Q .non H5 := fun e => by
            unfold OutR at q
            rw [e] at q
            exact q i k H5 rfl rfl (fun b o hb e => s5 _ _ (k4 b o hb e)) (s5 _ _ h4)
          rcases ok with ⟨hn, e⟩ | ⟨n, rfl, e⟩
          · have hr : (redV top k).1 = top := by rcases hn with rfl | rfl <;> rfl
            rw [hr]
            refine ⟨a5, _, rfl, .inr (SqT.of ha5), by rcases hn with rfl | rfl <;> rfl, rfl, ?_⟩
            walk_at "go"
            have e2 : (if true = true then !inV top [V.str "inf", V.str "nan"] else inV top [V.str "inf", V.str "nan"]) = false := by
              rcases hn with rfl | rfl <;> decide +kernel
            rw [e2]
            walk_at "go"
            exact fin e
          · obtain ⟨m, hm⟩ : ∃ m, (redV (.int (n : Nat)) k).1 = .int m := by
              unfold redV
              dsimp only
              split <;> exact ⟨_, rfl⟩
            have ef : fitR n k = fitsB m (redV (.int (n : Nat)) k).2 := by
              unfold fitR
              rw [hm]
            rw [ef] at e
            rw [hm]
            refine ⟨a5, _, rfl, .inr (SqT.of ha5), rfl, rfl, ?_⟩
            walk_at "go"
            have e2 : (if true = true then !inV (.int m) [V.str "inf", V.str "nan"] else inV (.int m) [V.str "inf", V.str "nan"]) = true := rfl
            rw [e2]
            walk_at "go"
            refine ⟨a, C, dx, _, _, rfl, s5 _ _ h4, T.own.cl, T.nT, fl_top _ _ _, ?_⟩
            walk_at "go"
            refine ⟨a, C, dx, _, _, rfl, s5 _ _ h4, T.own.cl, T.nP, fl_power _ _ _, ?_⟩
            walk_at "go"
            refine ⟨m, _, by rw [hm]; rfl, ?_⟩
            cases hf : fitsB m (redV (.int (n : Nat)) k).2 with
            | true =>
              rw [hf] at e
              walk_at "go"
              exact fin (e.trans (if_pos rfl))
            | false =>
              rw [hf] at e
              walk_at "go"
              refine g_nf ?_
              refine g_rai ?_
              refine g_mko ?_
              walk_at "go"
              refine g_ia (out_ia q (e.trans (if_neg (by decide))) (fun b o hb e => s5 _ _ (k4 b o hb e)))
      · have hin : (if true = true then !inV (V.int i) [V.int 1, V.int (-1)] else inV (V.int i) [V.int 1, V.int (-1)]) = true := by
          rw [if_pos rfl]
          show (!(((1 : Int) == i) || (((-1 : Int) == i) || false))) = true
          have e1 : ((1 : Int) == i) = false := beq_eq_false_iff_ne.mpr (fun z => hi (.inl z.symm))
          have e2 : ((-1 : Int) == i) = false := beq_eq_false_iff_ne.mpr (fun z => hi (.inr z.symm))
          rw [e1, e2]
          rfl
        rw [hin]
        walk_at "go"
        refine g_rai ?_
        refine g_mko ?_
        walk_at "go"
        refine g_ia (out_ia q (out_sign ?_) (st_same s1))
        rintro (z | z) <;> cases z
        · exact hi (.inl rfl)
        · exact hi (.inr rfl)
end
end Up

set_option Elab.async false
set_option linter.all false
set_option maxRecDepth 100000
set_option maxHeartbeats 4000000
set_option exponentiation.threshold 200000
namespace Up
open PySem PySem.Spec PyProof.Rows L2
local macro_rules | `(tactic| walk_at "u") => `(tactic| first
  | with_reducible refine g_seq ?_
  | with_reducible refine g_asg ?_
  | with_reducible refine g_op ?_
  | ((with_reducible show tVar _ _ _ _); apply g_var; exact rfl)
  | with_reducible refine g_c ?_
  | with_reducible refine g_name ?_
  | with_reducible refine g_ifs ?_
  | with_reducible refine g_tt ?_
  | with_reducible refine g_tB ?_
  | with_reducible refine g_bl ?_
  | with_reducible refine g_ret ?_
  | with_reducible refine g_cb ?_
  | with_reducible refine g_cons ?_
  | with_reducible refine g_nil ?_
  | with_reducible refine g_call ?_
  | with_reducible refine g_and ?_
  | with_reducible refine g_or ?_
  | with_reducible refine g_not ?_
  | with_reducible refine g_andV ?_
  | with_reducible refine g_orV ?_
  | with_reducible refine g_notV ?_
  | with_reducible refine g_if ?_
  | with_reducible refine g_un ?_
  | with_reducible refine g_neg ?_
  | with_reducible refine g_addI ?_
  | with_reducible refine g_subI ?_
  | with_reducible refine g_subB ?_
  | with_reducible refine g_I0 ?_
  | with_reducible refine g_cmpI ?_
  | with_reducible refine g_eqI ?_
  | with_reducible refine g_neI ?_
  | with_reducible refine g_eqS ?_
  | with_reducible refine g_neS ?_
  | with_reducible refine g_eqB ?_
  | with_reducible refine g_neB ?_
  | with_reducible refine g_bits ?_
  | with_reducible refine g_bitsI ?_
  | with_reducible refine g_fld ?_
  | with_reducible refine g_tup ?_
  | with_reducible refine g_lst ?_
  | with_reducible refine g_gtup ?_
  | with_reducible refine g_make ?_
  | with_reducible refine g_lc ?_
  | with_reducible refine g_yesT ?_
  | with_reducible refine g_intI ?_
  | with_reducible refine g_intB ?_
  | with_reducible refine g_max2 ?_
  | with_reducible refine g_abs1 ?_
  | with_reducible refine g_for ?_
  | with_reducible refine g_iList ?_
  | with_reducible refine g_iTup ?_
  | with_reducible refine g_iRng1 ?_
  | with_reducible refine g_iEnum ?_
  | with_reducible refine g_slice ?_
  | with_reducible refine g_po0 ?_
  | with_reducible refine g_po1 ?_
  | with_reducible refine g_gsub ?_
  | with_reducible refine g_par ?_
  | with_reducible refine g_par2 ?_
  | with_reducible refine g_rfl ?_
  | with_reducible refine g_meth ?_
  | with_reducible refine g_gcons ?_
  | with_reducible refine g_gnil ?_
  | with_reducible refine g_gfld ?_
  | with_reducible refine g_sfld ?_
  | with_reducible refine g_drop ?_
  | with_reducible refine g_next ?_
  | with_reducible refine iteT ?_
  | with_reducible refine iteF ?_)
local macro_rules | `(tactic| walk_at "go") => `(tactic| (repeat walk_at "u"))

section
variable {P : Program} {w : World} {K : PySem.W.Frag} {mg : Str → Option Value} {base : Heap} {C : Addr}
/-! ### kinds, Float asked too -/
structure KnF (K : PySem.W.Frag) (C : Addr) (H : Hp) (x : V) (t : Value) (b : Bool) : Prop where
  kn : Kn K H x t
  fl : PySem.W.kitOne K t (.ref C) = some b
theorem KnF.same {H H' : Hp} {x : V} {t : Value} {b : Bool} (h : KnF K C H x t b) (s : Same H H') : KnF K C H' x t b := ⟨h.kn.same s, h.fl⟩
theorem g_isiF {H : Hp} {Q : VK} {x : V} {t : Value} {b : Bool} (h : KnF K C H x t b) (q : Q (.bl b) H) : rIsi K [x, .ref C] H Q := g_isi h.kn.ty (.own _) h.fl q
theorem kf_int (T : FlC K mg C) {H : Hp} {i : Int} : KnF K C H (.int i) (.type "int") false := ⟨kn_int, T.fi⟩
theorem kf_bl (T : FlC K mg C) {H : Hp} {i : Bool} : KnF K C H (.bl i) (.type "bool") false := ⟨kn_bl, T.fb⟩
theorem kf_str (T : FlC K mg C) {H : Hp} {i : Str} : KnF K C H (.str i) (.type "str") false := ⟨kn_str, T.fs⟩
theorem kf_non (T : FlC K mg C) {H : Hp} : KnF K C H .non (.type "NoneType") false := ⟨kn_non, T.fn⟩
theorem kf_fl (T : FlC K mg C) {H : Hp} {a : Addr} {s : Int} {t : V} {p : Int} (h : FlAt C H a s t p) : KnF K C H (.ref a) (.ref C) true := by
  obtain ⟨dx, h⟩ := h
  exact ⟨kn_ins T.own h, T.yes⟩
def isF : Nm → Bool
  | .i _ => false
  | .f _ _ _ => true
theorem NumAt.kf (T : FlC K mg C) {H : Hp} {v : V} : ∀ {n : Nm}, NumAt C H v n → ∃ t, KnF K C H v t (isF n) ∧ isI v = !isF n ∧ isB v = false
  | .i n, h => by
    have h : v = .int n := h
    subst h
    exact ⟨_, kf_int T, rfl, rfl⟩
  | .f s t p, ⟨a, e, h, _⟩ => by
    subst e
    exact ⟨_, kf_fl T h, rfl, rfl⟩
/-! to_float -/
theorem sc_tofloat : FnScope ["number"] ["number"] (defScope s_tofloat) := ⟨rfl, rfl, rfl, by decide +kernel, rfl, by decide +kernel, by decide +kernel⟩
def bigOk (k : Int) : Prop := k.natAbs < 2 ^ 5000
/-- the float of an int: sign, top, power -/
def tfS (k : Int) : Int := if k < 0 then -1 else 1
def tfR (k : Int) : V × Int := redV (nearV k.natAbs 1).1 (nearV k.natAbs 1).2
def sp_tofloat (C : Addr) : Sp := fun vs H Q _ => ∃ v n, vs = [v] ∧ NumAt C H v n ∧ match n with
  | .f _ _ _ => Q v H
  | .i k => bigOk k ∧ RetF C H (tfS k) (tfR k).1 (tfR k).2 Q
theorem ok_tofloat {f : Addr} {fd : FuncData} (F : FunD K "to_float" "to_float" (defArgs s_tofloat) (defBody s_tofloat) (defScope s_tofloat) [] [] f fd) (B : Blt mg) (T : FlC K mg C) (c_nearest : Fn P w K mg base CX0 5 "nearest" ["sign", "top", "bottom"] [] (sp_nearest C)) (c_signof : Fn P w K mg base CX0 1 "sign_of" ["is_negative"] [] sp_signof) :
    FnOk P w K mg base CX0 6 f fd ["number"] (sp_tofloat C) := by
  have g_Float : mg "Float" = some (.ref C) := T.mg
  refine F.ok sc_tofloat (fun vs H Q E h => ?_) (fun cdv A outer s H vs Q E hr h => ?_)
  · obtain ⟨x, n, rfl, _⟩ := h; rfl
  · obtain ⟨x, n, rfl, hn, q⟩ := h
    refine ⟨_, PSs.nox (pss_cons (ps_if (pt_val (pe_callB call_isi (by rfl) B.isinstance (by decide +kernel) (pa_cons (pv 0) (pa_cons (pe_gref g_Float) pa_nil)))) (pss_one (ps_ret (pv 0))) pss_nil)
  (pss_one (ps_ret (pe_fn c_nearest (hr.mono (by first | decide | omega)) pass0 (pa_cons (pe_fn c_signof (hr.mono (by first | decide | omega)) pass0 (pa_cons (pe_cmpR op_oLt (pv 0) pe_int (nomark _)) pa_nil)) (pa_cons (pe_callB call_abs (by rfl) B.abs (by decide +kernel) (pa_cons (pv 0) pa_nil)) (pa_cons pe_int pa_nil))))))), ?_⟩
    obtain ⟨t, hk, _, _⟩ := hn.kf T
    walk_at "go"
    refine g_isiF hk ?_
    walk_at "go"
    cases n with
    | f sg tp p =>
      refine iteT ?_
      walk_at "go"
      exact q
    | i k =>
      have hn : x = .int k := hn
      subst hn
      obtain ⟨hb, q⟩ := q
      refine iteF ?_
      walk_at "go"
      refine ⟨_, rfl, ?_⟩
      walk_at "go"
      have e1 : sgnB (decide (k < 0)) = tfS k := by unfold sgnB tfS; by_cases h : k < 0 <;> simp [h]
      have e2 : (if k < 0 then -k else k) = (k.natAbs : Int) := by split <;> omega
      rw [e1, e2]
      refine ⟨tfS k, k.natAbs, 1, rfl, by unfold tfS; split <;> simp, by decide, Nat.le_trans (bits_le hb) (by decide), by decide, q⟩
theorem mul_small {i j : Int} (hi : i.natAbs < 2 ^ 100000) (hj : j.natAbs < 2 ^ 100000) : IntMulOk i j := (mulx_ok hi hj (by decide)).ok
theorem natAbs_mul_lt {x y : Int} {a b : Nat} (hx : x.natAbs < 2 ^ a) (hy : y.natAbs < 2 ^ b) : (x * y).natAbs < 2 ^ (a + b) := by
  rw [Int.natAbs_mul, Nat.pow_add]
  exact Nat.mul_lt_mul'' hx hy
theorem sgn_abs {s : Int} (hs : s = 1 ∨ s = -1) (x : Int) : (s * x).natAbs = x.natAbs := by
  rw [Int.natAbs_mul]; rcases hs with rfl | rfl <;> simp
theorem tf_mk (k : Int) : MkOk (tfS k) (nearV k.natAbs 1).1 (nearV k.natAbs 1).2 := near_mk (by unfold tfS; split <;> simp) (by decide)
/-- a float made again of its own parts -/
theorem mk_again {s : Int} {t : V} {p : Int} (h : FlOk s t p) : MkOk s t p := by
  obtain ⟨hs, h⟩ := h
  rcases h with ⟨rfl, h1, rfl⟩ | ⟨rfl, rfl⟩ | ⟨n, rfl, f1, f2, f3, f4, f5⟩
  · exact ⟨hs, .inl ⟨rfl, h1, rfl⟩⟩
  · exact ⟨hs, .inr (.inl ⟨rfl, rfl⟩)⟩
  · obtain ⟨k, rfl⟩ := Int.eq_ofNat_of_zero_le f1
    rw [intBits_nat] at f4
    exact mk_of_flok hs (by omega) f3 f4
theorem small64 {k : Int} (h1 : -(2 ^ 65) ≤ k) (h2 : k ≤ 2 ^ 65) : k.natAbs < 2 ^ 1000 := lt_pow_mono (a := 66) (by omega) (by decide)
theorem big64 {k : Int} (h1 : -(2 ^ 65) ≤ k) (h2 : k ≤ 2 ^ 65) : bigOk k := lt_pow_mono (a := 66) (by omega) (by decide)
end
end Up

set_option Elab.async false
set_option linter.all false
set_option maxRecDepth 100000
set_option maxHeartbeats 4000000
namespace Up
open PySem PySem.Spec PyProof.Rows L2
/-! ### the source of draws: a list of three ints that each draw changes -/
def Well (H : Hp) (w : Addr) : Prop := ∃ a b c : Int, H w = some (.lst [.int a, .int b, .int c]) ∧ 0 ≤ a ∧ 0 ≤ b ∧ b < 2147483647 ∧ 0 ≤ c
/-- all but the list at w stands -/
def Stp (w : Addr) (H H' : Hp) : Prop := ∀ b o, b ≠ w → H b = some o → H' b = some o
theorem Stp.refl (w : Addr) (H : Hp) : Stp w H H := fun _ _ _ h => h
theorem Stp.trans {w : Addr} {H H1 H2 : Hp} (a : Stp w H H1) (b : Stp w H1 H2) : Stp w H H2 := fun c o n h => b c o n (a c o n h)
theorem Stp.of {w : Addr} {H H' : Hp} (s : Same H H') : Stp w H H' := fun b o _ h => s b o h
theorem Well.same {w : Addr} {H H' : Hp} (h : Well H w) (s : Same H H') : Well H' w := by
  obtain ⟨a, b, c, h, r⟩ := h
  exact ⟨a, b, c, s _ _ h, r⟩
theorem Well.ne_none {w p : Addr} {H : Hp} (h : Well H w) (n : H p = none) : p ≠ w := by
  obtain ⟨a, b, c, h, _⟩ := h
  exact fun z => by rw [z, h] at n; cases n
/-- a place that holds no list -/
theorem Well.ne {w p : Addr} {H : Hp} {o : HO} (h : Well H w) (e : H p = some o) (n : ∀ xs, o ≠ .lst xs) : p ≠ w := by
  obtain ⟨a, b, c, h, _⟩ := h
  exact fun z => by
    rw [z, h] at e
    exact n _ (Option.some.inj e).symm
theorem Stp.ins {w p C dx : Addr} {H H' : Hp} {fs : List (Str × V)} (s : Stp w H H') (h : Well H w) (e : H p = some (.ins C dx fs)) : H' p = some (.ins C dx fs) := s _ _ (h.ne e fun _ z => by cases z) e
theorem Stp.free {w p : Addr} {H H' : Hp} (s : Stp w H H') (h : Well H' w) (e : H' p = none) : H p = none := by
  cases q : H p with
  | none => rfl
  | some o =>
    have n : p ≠ w := h.ne_none e
    rw [s p o n q] at e
    cases e
end Up

set_option Elab.async false
set_option linter.all false
set_option maxRecDepth 100000
set_option maxHeartbeats 4000000
set_option exponentiation.threshold 200000
namespace Up
open PySem PySem.Spec PyProof.Rows L2
local macro_rules | `(tactic| walk_at "u") => `(tactic| first
  | with_reducible refine g_seq ?_
  | with_reducible refine g_asg ?_
  | with_reducible refine g_op ?_
  | ((with_reducible show tVar _ _ _ _); apply g_var; exact rfl)
  | with_reducible refine g_c ?_
  | with_reducible refine g_name ?_
  | with_reducible refine g_ifs ?_
  | with_reducible refine g_tt ?_
  | with_reducible refine g_tB ?_
  | with_reducible refine g_bl ?_
  | with_reducible refine g_ret ?_
  | with_reducible refine g_cb ?_
  | with_reducible refine g_cons ?_
  | with_reducible refine g_nil ?_
  | with_reducible refine g_call ?_
  | with_reducible refine g_and ?_
  | with_reducible refine g_or ?_
  | with_reducible refine g_not ?_
  | with_reducible refine g_andV ?_
  | with_reducible refine g_orV ?_
  | with_reducible refine g_notV ?_
  | with_reducible refine g_if ?_
  | with_reducible refine g_un ?_
  | with_reducible refine g_neg ?_
  | with_reducible refine g_addI ?_
  | with_reducible refine g_subI ?_
  | with_reducible refine g_subB ?_
  | with_reducible refine g_I0 ?_
  | with_reducible refine g_cmpI ?_
  | with_reducible refine g_eqI ?_
  | with_reducible refine g_neI ?_
  | with_reducible refine g_eqS ?_
  | with_reducible refine g_neS ?_
  | with_reducible refine g_eqB ?_
  | with_reducible refine g_neB ?_
  | with_reducible refine g_bits ?_
  | with_reducible refine g_bitsI ?_
  | with_reducible refine g_fld ?_
  | with_reducible refine g_tup ?_
  | with_reducible refine g_lst ?_
  | with_reducible refine g_gtup ?_
  | with_reducible refine g_make ?_
  | with_reducible refine g_lc ?_
  | with_reducible refine g_yesT ?_
  | with_reducible refine g_intI ?_
  | with_reducible refine g_intB ?_
  | with_reducible refine g_max2 ?_
  | with_reducible refine g_abs1 ?_
  | with_reducible refine g_for ?_
  | with_reducible refine g_iList ?_
  | with_reducible refine g_iTup ?_
  | with_reducible refine g_iRng1 ?_
  | with_reducible refine g_iEnum ?_
  | with_reducible refine g_slice ?_
  | with_reducible refine g_po0 ?_
  | with_reducible refine g_po1 ?_
  | with_reducible refine g_gsub ?_
  | with_reducible refine g_par ?_
  | with_reducible refine g_par2 ?_
  | with_reducible refine g_rfl ?_
  | with_reducible refine g_meth ?_
  | with_reducible refine g_gcons ?_
  | with_reducible refine g_gnil ?_
  | with_reducible refine g_gfld ?_
  | with_reducible refine g_sfld ?_
  | with_reducible refine g_drop ?_
  | with_reducible refine g_next ?_
  | with_reducible refine iteT ?_
  | with_reducible refine iteF ?_)
local macro_rules | `(tactic| walk_at "go") => `(tactic| (repeat walk_at "u"))

section
variable {P : Program} {w : World} {K : PySem.W.Frag} {mg : Str → Option Value} {base : Heap} {C : Addr}
/-! _law_well -/
theorem sc_Lwell : FnScope ["_law_cell"] ["_law_cell"] (defScope s_Lwell) := ⟨rfl, rfl, rfl, by decide +kernel, rfl, by decide +kernel, by decide +kernel⟩
def sp_Lwell : Sp := fun vs H Q _ => ∃ n, vs = [.int n] ∧ ∀ a H', H a = none → Same H H' → Well H' a → Q (.ref a) H'
theorem fmod_lt {x m : Int} (h : 0 < m) : 0 ≤ x.fmod m ∧ x.fmod m < m := by
  rw [Int.fmod_eq_emod_of_nonneg _ (by omega)]
  exact ⟨Int.emod_nonneg _ (by omega), Int.emod_lt_of_pos _ h⟩
theorem fdiv_nn {x m : Int} (hx : 0 ≤ x) (h : 0 < m) : 0 ≤ x.fdiv m := by
  rw [Int.fdiv_eq_ediv_of_nonneg _ (by omega)]
  exact Int.ediv_nonneg hx (by omega)
theorem ok_Lwell {f : Addr} {fd : FuncData} (F : FunD K "_law_well" "_law_well" (defArgs s_Lwell) (defBody s_Lwell) (defScope s_Lwell) [] [] f fd) (B : Blt mg) : FnOk P w K mg base CX0 1 f fd ["_law_cell"] sp_Lwell := by
  refine F.ok sc_Lwell (fun vs H Q E h => ?_) (fun cdv A outer s H vs Q E hr h => ?_)
  · obtain ⟨n, rfl, _⟩ := h; rfl
  · obtain ⟨n, rfl, q⟩ := h
    refine ⟨_, PSs.nox (pss_one (ps_ret (pe_lstN (pa_cons (pe_op op_oMul (pv 0) (pe_callTy call_int1 (by rfl) B.int (by decide +kernel) (pa_cons (pe_cmpR op_oGe (pv 0) (pe_op op_oPow pe_int pe_int) (nomark _)) pa_nil))) (pa_cons (pe_op op_oMod (pe_callTy call_int1 (by rfl) B.int (by decide +kernel) (pa_cons (pv 0) pa_nil)) pe_int) (pa_cons pe_int pa_nil)))))), ?_⟩
    walk_at "go"
    refine g_II ⟨by decide, by decide, by decide⟩ ?_
    walk_at "go"
    refine g_mulI (.of_right (by by_cases h : ((10 : Int) ^ (18 : Int).toNat ≤ n) <;> simp only [h, decide_true, decide_false] <;> decide)) ?_
    walk_at "go"
    refine g_modI (by decide) ?_
    walk_at "go"
    refine g_new (sz rfl) fun a H1 na s1 ha _ => ?_
    refine q a H1 na s1 ⟨_, _, _, ha, ?_, (fmod_lt (by decide)).1, (fmod_lt (by decide)).2, by decide⟩
    by_cases h : ((10 : Int) ^ (18 : Int).toNat ≤ n)
    · simp only [h, decide_true, if_true]
      have : (0 : Int) ≤ 10 ^ (18 : Int).toNat := by decide
      omega
    · rw [if_neg (by simpa using h), Int.mul_zero]
      decide
/-! _law_draw -/
theorem sc_Ldraw : FnScope ["_law_well_here", "_law_many", "_law_digit", "_law_number"] ["_law_well_here", "_law_many"] (defScope s_Ldraw) := ⟨rfl, rfl, rfl, by decide +kernel, rfl, by decide +kernel, by decide +kernel⟩
def sp_Ldraw : Sp := fun vs H Q _ => ∃ (a : Addr) (m : Int), vs = [.ref a, .int m] ∧ 0 < m ∧ m < 2 ^ 62 ∧ Well H a ∧ ∀ k H', 0 ≤ k → k < m → Stp a H H' → Well H' a → Q (.int k) H'
theorem small_div {m : Int} (h : 0 < m) (h2 : m < 2 ^ 62) : m.natAbs.log2 < 9000 := Nat.lt_trans (log2_lt (k := 62) (by omega) (by decide)) (by decide)
theorem sm31 {x : Int} (h0 : 0 ≤ x) (h1 : x < 2147483648) (y : Int) : IntMulOk x y := .of_left (intBits_le_64 (by omega) (by omega))
theorem sm31r {x : Int} (h0 : 0 ≤ x) (h1 : x < 2147483648) (y : Int) : IntMulOk y x := .of_right (intBits_le_64 (by omega) (by omega))
theorem ok_Ldraw {f : Addr} {fd : FuncData} (F : FunD K "_law_draw" "_law_draw" (defArgs s_Ldraw) (defBody s_Ldraw) (defScope s_Ldraw) [] [] f fd) (B : Blt mg) : FnOk P w K mg base CX0 1 f fd ["_law_well_here", "_law_many"] sp_Ldraw := by
  refine F.ok sc_Ldraw (fun vs H Q E h => ?_) (fun cdv A outer s H vs Q E hr h => ?_)
  · obtain ⟨a, m, rfl, _⟩ := h; rfl
  · obtain ⟨a, m, rfl, m0, m1, ⟨x, y, z, hw, x0, y0, y1, z0⟩, q⟩ := h
    refine ⟨_, PSs.nox (pss_cons (ps_if (pt_cmpR op_oGt (pe_ix ix_seq (pv 0) pe_int (fun _ _ => rfl)) pe_int (nomark _)) (pss_cons (ps_set (i := 2) sc_Ldraw.nd rfl (Or.inl rfl) (pe_op op_oMod (pe_callTy call_int1 (by rfl) B.int (by decide +kernel) (pa_cons (pe_ix ix_seq (pv 0) pe_int (fun _ _ => rfl)) pa_nil)) (pv 1)))
  (pss_cons (ps_asg (pe_op op_oDiv (pe_ix ix_seq (pv 0) pe_int (fun _ _ => rfl)) (pv 1)) (pg_sub (pv 0) pe_int set_list))
  (pss_one (ps_ret (pv 2))))) pss_nil)
  (pss_cons (ps_asg (pe_op op_oAdd (pe_ix ix_seq (pv 0) pe_int (fun _ _ => rfl)) pe_int) (pg_sub (pv 0) pe_int set_list))
  (pss_cons (ps_set (i := 3) sc_Ldraw.nd rfl (Or.inl rfl) (pe_op op_oMod (pe_callTy call_int1 (by rfl) B.int (by decide +kernel) (pa_cons (pe_op op_oAdd (pe_op op_oAdd (pe_op op_oMul (pe_ix ix_seq (pv 0) pe_int (fun _ _ => rfl)) pe_int) (pe_op op_oMul pe_int (pe_ix ix_seq (pv 0) pe_int (fun _ _ => rfl)))) pe_int) pa_nil)) pe_int))
  (pss_cons (ps_set (i := 3) sc_Ldraw.nd rfl (Or.inl rfl) (pe_op op_oMod (pe_callTy call_int1 (by rfl) B.int (by decide +kernel) (pa_cons (pe_op op_oMul (pv 3) (pe_op op_oAdd (pe_op op_oDiv (pv 3) pe_int) pe_int)) pa_nil)) pe_int))
  (pss_cons (ps_set (i := 3) sc_Ldraw.nd rfl (Or.inl rfl) (pe_op op_oMod (pe_callTy call_int1 (by rfl) B.int (by decide +kernel) (pa_cons (pe_op op_oMul (pv 3) (pe_op op_oAdd (pe_op op_oAdd (pe_op op_oDiv (pv 3) pe_int) pe_int) (pe_ix ix_seq (pv 0) pe_int (fun _ _ => rfl)))) pa_nil)) pe_int))
  (pss_one (ps_ret (pe_op op_oMod (pe_callTy call_int1 (by rfl) B.int (by decide +kernel) (pa_cons (pe_op op_oDiv (pv 3) pe_int) pa_nil)) (pv 1))))))))), ?_⟩
    walk_at "go"
    refine g_ixL hw rfl ?_
    walk_at "go"
    refine g_ite (fun hx => ?_) fun hx => ?_
    · walk_at "go"
      refine g_ixL hw rfl ?_
      walk_at "go"
      refine g_modI (by omega) ?_
      walk_at "go"
      refine g_ixL hw rfl ?_
      walk_at "go"
      refine g_divI (by omega) (small_div m0 m1) ?_
      walk_at "go"
      refine g_setL hw rfl fun H1 h1 k1 => ?_
      walk_at "go"
      exact q _ H1 (fmod_lt m0).1 (fmod_lt m0).2 (fun b o n e => (k1 b n).trans e) ⟨_, _, _, h1, fdiv_nn x0 m0, y0, y1, z0⟩
    · walk_at "go"
      refine g_ixL hw rfl ?_
      walk_at "go"
      refine g_setL hw rfl fun H1 h1 k1 => ?_
      walk_at "go"
      refine g_ixL h1 rfl ?_
      walk_at "go"
      refine g_mulI (.of_right (by decide)) ?_
      walk_at "go"
      refine g_ixL h1 rfl ?_
      refine g_mulI (.of_left (by decide)) ?_
      walk_at "go"
      refine g_modI (by decide) ?_
      walk_at "go"
      have b1 := fmod_lt (x := y * 48271 + 30103 * (z + 1) + 11) (m := 2147483647) (by decide)
      refine g_divI (by decide) (by decide) ?_
      walk_at "go"
      refine g_mulI (sm31 b1.1 (by omega) _) ?_
      walk_at "go"
      refine g_modI (by decide) ?_
      walk_at "go"
      generalize (y * 48271 + 30103 * (z + 1) + 11).fmod 2147483647 = u1 at *
      have b2 := fmod_lt (x := u1 * (u1.fdiv 1009 + 69621)) (m := 2147483629) (by decide)
      refine g_divI (by decide) (by decide) ?_
      walk_at "go"
      refine g_ixL h1 rfl ?_
      walk_at "go"
      refine g_mulI (sm31 b2.1 (by omega) _) ?_
      walk_at "go"
      refine g_modI (by decide) ?_
      walk_at "go"
      refine g_divI (by decide) (by decide) ?_
      walk_at "go"
      refine g_modI (by omega) ?_
      exact q _ H1 (fmod_lt m0).1 (fmod_lt m0).2 (fun b o n e => (k1 b n).trans e) ⟨_, _, _, h1, x0, y0, y1, by omega⟩
/-! _law_one -/
theorem sc_Lone : FnScope ["_law_well_here", "_law_some"] ["_law_well_here", "_law_some"] (defScope s_Lone) := ⟨rfl, rfl, rfl, by decide +kernel, rfl, by decide +kernel, by decide +kernel⟩
def sp_Lone : Sp := fun vs H Q _ => ∃ (a l : Addr) (xs : List V), vs = [.ref a, .ref l] ∧ Well H a ∧ H l = some (.lst xs) ∧ l ≠ a ∧ 0 < xs.length ∧ xs.length < 1000 ∧ ∀ v H', v ∈ xs → Stp a H H' → Well H' a → Q v H'
theorem ok_Lone {f : Addr} {fd : FuncData} (F : FunD K "_law_one" "_law_one" (defArgs s_Lone) (defBody s_Lone) (defScope s_Lone) [] [] f fd) (B : Blt mg) (c_Ldraw : Fn P w K mg base CX0 1 "_law_draw" ["_law_well_here", "_law_many"] [] sp_Ldraw) : FnOk P w K mg base CX0 2 f fd ["_law_well_here", "_law_some"] sp_Lone := by
  refine F.ok sc_Lone (fun vs H Q E h => ?_) (fun cdv A outer s H vs Q E hr h => ?_)
  · obtain ⟨a, l, xs, rfl, _⟩ := h; rfl
  · obtain ⟨a, l, xs, rfl, hw, hl, ne, x0, x1, q⟩ := h
    refine ⟨_, PSs.nox (pss_one (ps_ret (pe_ix ix_seq (pv 1) (pe_fn c_Ldraw (hr.mono (by first | decide | omega)) pass0 (pa_cons (pv 0) (pa_cons (pe_callB call_len_seq (by rfl) B.len (by decide +kernel) (pa_cons (pv 1) pa_nil)) pa_nil))) (fun _ _ => rfl)))), ?_⟩
    walk_at "go"
    refine g_lenL hl ?_
    walk_at "go"
    refine ⟨a, _, rfl, by omega, by omega, hw, fun k H1 k0 k1 s1 hw1 => ?_⟩
    have hi : k.toNat < xs.length := by omega
    refine g_ixL (s1 _ _ ne hl) (v := xs[k.toNat]) ?_ (q _ _ (List.getElem_mem hi) s1 hw1)
    have e : ixN xs.length k = some k.toNat := by unfold ixN; rw [if_pos k0, if_pos k1]
    unfold atI
    rw [e]
    simp [hi]
/-! _law_great -/
theorem sc_Lgreat : FnScope ["_law_well_here", "_law_bits", "_law_number", "_law_k"] ["_law_well_here", "_law_bits"] (defScope s_Lgreat) := ⟨rfl, rfl, rfl, by decide +kernel, rfl, by decide +kernel, by decide +kernel⟩
def sp_Lgreat : Sp := fun vs H Q _ => ∃ (a : Addr) (m : Int), vs = [.ref a, .int m] ∧ 0 ≤ m ∧ m ≤ 1000 ∧ Well H a ∧ ∀ k H', 0 ≤ k → k < 2 ^ m.toNat → Stp a H H' → Well H' a → Q (.int k) H'
theorem ok_Lgreat {f : Addr} {fd : FuncData} (F : FunD K "_law_great" "_law_great" (defArgs s_Lgreat) (defBody s_Lgreat) (defScope s_Lgreat) [] [] f fd) (B : Blt mg) (c_Ldraw : Fn P w K mg base CX0 1 "_law_draw" ["_law_well_here", "_law_many"] [] sp_Ldraw) : FnOk P w K mg base CX0 2 f fd ["_law_well_here", "_law_bits"] sp_Lgreat := by
  refine F.ok sc_Lgreat (fun vs H Q E h => ?_) (fun cdv A outer s H vs Q E hr h => ?_)
  · obtain ⟨a, m, rfl, _⟩ := h; rfl
  · obtain ⟨a, m, rfl, m0, m1, hw, q⟩ := h
    refine ⟨_, PSs.nox (pss_cons (ps_set (i := 2) sc_Lgreat.nd rfl (Or.inl rfl) pe_int)
  (pss_cons (ps_for PassesOwn.never rfl (pi_range1 (by rfl) B.range (pa_cons (pe_op op_oAdd pe_int (pe_op op_oDiv (pv 1) pe_int)) pa_nil)) (pg_name (i := 3) sc_Lgreat.nd rfl (Or.inl rfl))
    (pss_one (ps_set (i := 2) sc_Lgreat.nd rfl (Or.inl rfl) (pe_op op_oAdd (pe_op op_oMul (pv 2) pe_int) (pe_fn c_Ldraw (hr.mono (by first | decide | omega)) pass0 (pa_cons (pv 0) (pa_cons pe_int pa_nil)))))))
  (pss_one (ps_ret (pe_op op_oMod (pe_callTy call_int1 (by rfl) B.int (by decide +kernel) (pa_cons (pv 2) pa_nil)) (pe_op op_oShl pe_int (pv 1))))))), ?_⟩
    walk_at "go"
    refine g_divI (by decide) (by decide) ?_
    walk_at "go"
    have e0 : m.fdiv 20 = m / 20 := Int.fdiv_eq_ediv_of_nonneg _ (by decide)
    refine ⟨by omega, by omega, ?_⟩
    refine for_range (fun i σ' H' => ∃ (n : Int) (v : Option V), σ' = [some (.ref a), some (.int m), some (.int n), v] ∧ Stp a H H' ∧ Well H' a) ⟨0, none, rfl, Stp.refl _ _, hw⟩ ?_ ?_
    · rintro i _ H1 hi ⟨n, v, rfl, s1, hw1⟩
      walk_at "go"
      refine g_mulI (.of_right (by decide)) ?_
      walk_at "go"
      refine ⟨a, _, rfl, by decide, by decide, hw1, fun k H2 k0 k1 s2 hw2 => ?_⟩
      walk_at "go"
      exact ⟨_, _, rfl, s1.trans s2, hw2⟩
    · rintro _ H1 ⟨n, v, rfl, s1, hw1⟩
      walk_at "go"
      refine g_II (shl_small m0 (by omega) (lt_pow_mono (a := 1) (by decide) (by decide))) ?_
      rw [Int.one_mul]
      have hp : (0 : Int) < 2 ^ m.toNat := Int.pow_pos (by decide)
      refine g_modI (by omega) ?_
      exact q _ H1 (fmod_lt hp).1 (fmod_lt hp).2 s1 hw1
end
end Up

set_option Elab.async false
set_option linter.all false
set_option maxRecDepth 100000
set_option maxHeartbeats 4000000
set_option exponentiation.threshold 200000
namespace Up
open PySem PySem.Spec PyProof.Rows L2
local macro_rules | `(tactic| walk_at "u") => `(tactic| first
  | with_reducible refine g_seq ?_
  | with_reducible refine g_asg ?_
  | with_reducible refine g_op ?_
  | ((with_reducible show tVar _ _ _ _); apply g_var; exact rfl)
  | with_reducible refine g_c ?_
  | with_reducible refine g_name ?_
  | with_reducible refine g_ifs ?_
  | with_reducible refine g_tt ?_
  | with_reducible refine g_tB ?_
  | with_reducible refine g_bl ?_
  | with_reducible refine g_ret ?_
  | with_reducible refine g_cb ?_
  | with_reducible refine g_cons ?_
  | with_reducible refine g_nil ?_
  | with_reducible refine g_call ?_
  | with_reducible refine g_and ?_
  | with_reducible refine g_or ?_
  | with_reducible refine g_not ?_
  | with_reducible refine g_andV ?_
  | with_reducible refine g_orV ?_
  | with_reducible refine g_notV ?_
  | with_reducible refine g_if ?_
  | with_reducible refine g_un ?_
  | with_reducible refine g_neg ?_
  | with_reducible refine g_addI ?_
  | with_reducible refine g_subI ?_
  | with_reducible refine g_subB ?_
  | with_reducible refine g_I0 ?_
  | with_reducible refine g_cmpI ?_
  | with_reducible refine g_eqI ?_
  | with_reducible refine g_neI ?_
  | with_reducible refine g_eqS ?_
  | with_reducible refine g_neS ?_
  | with_reducible refine g_eqB ?_
  | with_reducible refine g_neB ?_
  | with_reducible refine g_bits ?_
  | with_reducible refine g_bitsI ?_
  | with_reducible refine g_fld ?_
  | with_reducible refine g_tup ?_
  | with_reducible refine g_lst ?_
  | with_reducible refine g_gtup ?_
  | with_reducible refine g_make ?_
  | with_reducible refine g_lc ?_
  | with_reducible refine g_yesT ?_
  | with_reducible refine g_intI ?_
  | with_reducible refine g_intB ?_
  | with_reducible refine g_max2 ?_
  | with_reducible refine g_abs1 ?_
  | with_reducible refine g_for ?_
  | with_reducible refine g_iList ?_
  | with_reducible refine g_iTup ?_
  | with_reducible refine g_iRng1 ?_
  | with_reducible refine g_iEnum ?_
  | with_reducible refine g_slice ?_
  | with_reducible refine g_po0 ?_
  | with_reducible refine g_po1 ?_
  | with_reducible refine g_gsub ?_
  | with_reducible refine g_par ?_
  | with_reducible refine g_par2 ?_
  | with_reducible refine g_rfl ?_
  | with_reducible refine g_meth ?_
  | with_reducible refine g_gcons ?_
  | with_reducible refine g_gnil ?_
  | with_reducible refine g_gfld ?_
  | with_reducible refine g_sfld ?_
  | with_reducible refine g_drop ?_
  | with_reducible refine g_next ?_
  | with_reducible refine iteT ?_
  | with_reducible refine iteF ?_)
local macro_rules | `(tactic| walk_at "go") => `(tactic| (repeat walk_at "u"))

section
variable {P : Program} {w : World} {K : PySem.W.Frag} {mg : Str → Option Value} {base : Heap} {C : Addr}
/-! _law_finite -/
theorem sc_Lfinite : FnScope ["_law_well_here", "_law_sign", "_law_way", "_law_some"] ["_law_well_here"] (defScope s_Lfinite) := ⟨rfl, rfl, rfl, by decide +kernel, rfl, by decide +kernel, by decide +kernel⟩
def FinD (s t p : Int) : Prop := (s = 1 ∨ s = -1) ∧ 0 ≤ t ∧ t < 2 ^ 53 ∧ -1074 ≤ p ∧ p ≤ 971
def sp_Lfinite : Sp := fun vs H Q _ => ∃ (a : Addr), vs = [.ref a] ∧ Well H a ∧ ∀ b H' s t p, H b = none → Stp a H H' → Well H' a → H' b = some (.tup [.int s, .int t, .int p]) → FinD s t p → Q (.ref b) H'
theorem pow53 {k : Int} {n : Nat} (h : k < 2 ^ n) (hn : n ≤ 53) : k < 2 ^ 53 := by
  have : (2 : Int) ^ n ≤ 2 ^ 53 := by exact_mod_cast Nat.pow_le_pow_right (show 0 < 2 by decide) hn
  omega
theorem ok_Lfinite {f : Addr} {fd : FuncData} (F : FunD K "_law_finite" "_law_finite" (defArgs s_Lfinite) (defBody s_Lfinite) (defScope s_Lfinite) [] [] f fd) (B : Blt mg) (c_Ldraw : Fn P w K mg base CX0 1 "_law_draw" ["_law_well_here", "_law_many"] [] sp_Ldraw) (c_Lone : Fn P w K mg base CX0 2 "_law_one" ["_law_well_here", "_law_some"] [] sp_Lone)
    (c_Lgreat : Fn P w K mg base CX0 2 "_law_great" ["_law_well_here", "_law_bits"] [] sp_Lgreat) : FnOk P w K mg base CX0 3 f fd ["_law_well_here"] sp_Lfinite := by
  refine F.ok sc_Lfinite (fun vs H Q E h => ?_) (fun cdv A outer s H vs Q E hr h => ?_)
  · obtain ⟨a, rfl, _⟩ := h; rfl
  · obtain ⟨a, rfl, hw, q⟩ := h
    refine ⟨_, PSs.nox (pss_cons (ps_par (i := 1) (j := 2) rfl sc_Lfinite.nd rfl rfl (by decide) rfl rfl (pa_cons (pe_fn c_Lone (hr.mono (by first | decide | omega)) pass0 (pa_cons (pv 0) (pa_cons (pe_lstN (pa_cons pe_int (pa_cons (pe_un un_neg pe_int) pa_nil))) pa_nil))) (pa_cons (pe_fn c_Ldraw (hr.mono (by first | decide | omega)) pass0 (pa_cons (pv 0) (pa_cons pe_int pa_nil))) pa_nil)) (by rfl))
  (pss_cons (ps_if (pt_cmpR (op_oEq hr.units) (pv 2) pe_int (nomark _)) (pss_one (ps_ret (pe_tupN (pa_cons (pv 1) (pa_cons pe_int (pa_cons pe_int pa_nil)))))) pss_nil)
  (pss_cons (ps_if (pt_cmpR op_oLt (pv 2) pe_int (nomark _)) (pss_one (ps_ret (pe_tupN (pa_cons (pv 1) (pa_cons (pe_fn c_Ldraw (hr.mono (by first | decide | omega)) pass0 (pa_cons (pv 0) (pa_cons pe_int pa_nil))) (pa_cons (pe_fn c_Lone (hr.mono (by first | decide | omega)) pass0 (pa_cons (pv 0) (pa_cons (pe_lstN (pa_cons pe_int (pa_cons pe_int (pa_cons (pe_un un_neg pe_int) (pa_cons (pe_un un_neg pe_int) pa_nil))))) pa_nil))) pa_nil)))))) pss_nil)
  (pss_cons (ps_set (i := 3) sc_Lfinite.nd rfl (Or.inl rfl) (pe_lstN (pa_cons (pe_op op_oSub (pe_fn c_Ldraw (hr.mono (by first | decide | omega)) pass0 (pa_cons (pv 0) (pa_cons pe_int pa_nil))) pe_int) (pa_cons (pe_op op_oSub pe_int (pe_fn c_Ldraw (hr.mono (by first | decide | omega)) pass0 (pa_cons (pv 0) (pa_cons pe_int pa_nil)))) (pa_cons (pe_fn c_Ldraw (hr.mono (by first | decide | omega)) pass0 (pa_cons (pv 0) (pa_cons pe_int pa_nil))) (pa_cons (pe_op op_oSub pe_int (pe_fn c_Ldraw (hr.mono (by first | decide | omega)) pass0 (pa_cons (pv 0) (pa_cons pe_int pa_nil)))) pa_nil))))))
  (pss_cons (ps_set (i := 3) sc_Lfinite.nd rfl (Or.inl rfl) (pe_op op_oAdd (pv 3) (pe_lstN (pa_cons (pe_op op_oSub (pe_un un_neg pe_int) (pe_fn c_Ldraw (hr.mono (by first | decide | omega)) pass0 (pa_cons (pv 0) (pa_cons pe_int pa_nil)))) (pa_cons (pe_op op_oSub (pe_fn c_Ldraw (hr.mono (by first | decide | omega)) pass0 (pa_cons (pv 0) (pa_cons pe_int pa_nil))) pe_int) pa_nil)))))
  (pss_one (ps_ret (pe_tupN (pa_cons (pv 1) (pa_cons (pe_fn c_Lgreat (hr.mono (by first | decide | omega)) pass0 (pa_cons (pv 0) (pa_cons (pe_fn c_Lone (hr.mono (by first | decide | omega)) pass0 (pa_cons (pv 0) (pa_cons (pe_lstN (pa_cons pe_int (pa_cons pe_int (pa_cons pe_int (pa_cons pe_int pa_nil))))) pa_nil))) pa_nil))) (pa_cons (pe_callB (call_min2 rfl) (by rfl) B.min (by decide +kernel) (pa_cons pe_int (pa_cons (pe_fn c_Lone (hr.mono (by first | decide | omega)) pass0 (pa_cons (pv 0) (pa_cons (pv 3) pa_nil))) pa_nil))) pa_nil))))))))))), ?_⟩
    walk_at "go"
    refine g_new (sz rfl) fun l1 H1 n1 s1 h1 _ => ?_
    refine ⟨a, l1, _, rfl, hw.same s1, h1, hw.ne_none n1, by decide, by decide, fun v H2 hv s2 hw2 => ?_⟩
    have S2 := (Stp.of (w := a) s1).trans s2
    obtain ⟨sg, rfl, hs⟩ : ∃ sg, v = .int sg ∧ (sg = 1 ∨ sg = -1) := by
      simp only [List.mem_cons, List.not_mem_nil, or_false] at hv
      rcases hv with rfl | rfl
      · exact ⟨_, rfl, .inl rfl⟩
      · exact ⟨_, rfl, .inr rfl⟩
    walk_at "go"
    refine ⟨a, _, rfl, by decide, by decide, hw2, fun k H3 k0 k1 s3 hw3 => ?_⟩
    have S3 := S2.trans s3
    walk_at "go"
    refine g_ite (fun hk => ?_) fun hk => ?_
    · walk_at "go"
      refine g_new (sz rfl) fun b H4 n4 s4 h4 _ => ?_
      exact q b H4 _ _ _ (S3.free hw3 n4) (S3.trans (Stp.of s4)) (hw3.same s4) h4 ⟨hs, by decide, by decide, by decide, by decide⟩
    · walk_at "go"
      refine g_ite (fun hk4 => ?_) fun hk4 => ?_
      · walk_at "go"
        refine ⟨a, _, rfl, by decide, by decide, hw3, fun t H4 t0 t1 s4 hw4 => ?_⟩
        have S4 := S3.trans s4
        walk_at "go"
        refine g_new (sz rfl) fun l5 H5 n5 s5 h5 _ => ?_
        refine ⟨a, l5, _, rfl, hw4.same s5, h5, hw4.ne_none n5, by decide, by decide, fun v H6 hv s6 hw6 => ?_⟩
        have S6 := (S4.trans (Stp.of s5)).trans s6
        obtain ⟨p, rfl, hp⟩ : ∃ p, v = .int p ∧ -1074 ≤ p ∧ p ≤ 971 := by
          simp only [List.mem_cons, List.not_mem_nil, or_false] at hv
          rcases hv with rfl | rfl | rfl | rfl <;> exact ⟨_, rfl, by decide, by decide⟩
        walk_at "go"
        refine g_new (sz rfl) fun b H7 n7 s7 h7 _ => ?_
        exact q b H7 _ _ _ (S6.free hw6 n7) (S6.trans (Stp.of s7)) (hw6.same s7) h7 ⟨hs, t0, by omega, hp.1, hp.2⟩
      · walk_at "go"
        refine ⟨a, _, rfl, by decide, by decide, hw3, fun d1 H4 a1 b1 s4 hw4 => ?_⟩
        walk_at "go"
        refine ⟨a, _, rfl, by decide, by decide, hw4, fun d2 H5 a2 b2 s5 hw5 => ?_⟩
        walk_at "go"
        refine ⟨a, _, rfl, by decide, by decide, hw5, fun d3 H6 a3 b3 s6 hw6 => ?_⟩
        walk_at "go"
        refine ⟨a, _, rfl, by decide, by decide, hw6, fun d4 H7 a4 b4 s7 hw7 => ?_⟩
        have S7 := (((S3.trans s4).trans s5).trans s6).trans s7
        walk_at "go"
        refine g_new (sz rfl) fun l8 H8 n8 s8 h8 _ => ?_
        have S8 := S7.trans (Stp.of s8)
        have hw8 := hw7.same s8
        have l8a := hw7.ne_none n8
        walk_at "go"
        refine ⟨a, _, rfl, by decide, by decide, hw8, fun d5 H9 a5 b5 s9 hw9 => ?_⟩
        walk_at "go"
        refine ⟨a, _, rfl, by decide, by decide, hw9, fun d6 H10 a6 b6 s10 hw10 => ?_⟩
        have S10 := (S8.trans s9).trans s10
        have h8b := s10 _ _ l8a (s9 _ _ l8a h8)
        walk_at "go"
        refine g_new (sz rfl) fun l11 H11 n11 s11 h11 _ => ?_
        refine .inl ⟨l8, l11, _, _, rfl, rfl, SqL.of (s11 _ _ h8b), SqL.of h11, sz rfl, fun l12 H12 n12 s12 h12 _ => ?_⟩
        have S12 := (S10.trans (Stp.of s11)).trans (Stp.of s12)
        have hw12 := (hw10.same s11).same s12
        have l12a := (hw10.same s11).ne_none n12
        walk_at "go"
        refine g_new (sz rfl) fun l13 H13 n13 s13 h13 _ => ?_
        refine ⟨a, l13, _, rfl, hw12.same s13, h13, hw12.ne_none n13, by decide, by decide, fun v H14 hv s14 hw14 => ?_⟩
        have S14 := (S12.trans (Stp.of s13)).trans s14
        obtain ⟨p, rfl, hp⟩ : ∃ p, v = .int p ∧ 0 ≤ p ∧ p ≤ 53 := by
          simp only [List.mem_cons, List.not_mem_nil, or_false] at hv
          rcases hv with rfl | rfl | rfl | rfl <;> exact ⟨_, rfl, by decide, by decide⟩
        walk_at "go"
        refine ⟨a, p, rfl, hp.1, by omega, hw14, fun t H15 t0 t1 s15 hw15 => ?_⟩
        have S15 := S14.trans s15
        have h12b := s15 _ _ l12a (s14 _ _ l12a (s13 _ _ h12))
        walk_at "go"
        refine ⟨a, l12, _, rfl, hw15, h12b, l12a, Nat.lt_of_lt_of_le (by decide : 0 < 6) (Nat.le_refl _), Nat.lt_of_le_of_lt (Nat.le_refl 6) (by decide), fun v H16 hv s16 hw16 => ?_⟩
        have S16 := S15.trans s16
        obtain ⟨u, rfl, hu⟩ : ∃ u, v = .int u ∧ -1074 ≤ u ∧ u ≤ 971 := by
          simp only [List.mem_append, List.mem_cons, List.not_mem_nil, or_false] at hv
          rcases hv with (rfl | rfl | rfl | rfl) | (rfl | rfl) <;> exact ⟨_, rfl, by omega, by omega⟩
        walk_at "go"
        refine g_new (sz rfl) fun b H17 n17 s17 h17 _ => ?_
        refine q b H17 _ _ _ (S16.free hw16 n17) (S16.trans (Stp.of s17)) (hw16.same s17) h17 ⟨hs, t0, pow53 t1 (by omega), ?_, ?_⟩
        · split <;> omega
        · split <;> omega
/-! _law_float -/
theorem FlAt.stp {a b : Addr} {H H' : Hp} {s : Int} {t : V} {p : Int} (h : FlAt C H b s t p) (hw : Well H a) (e : Stp a H H') : FlAt C H' b s t p := by
  obtain ⟨dx, h⟩ := h
  exact ⟨dx, e.ins hw h⟩
theorem NumAt.stp {a : Addr} {H H' : Hp} {v : V} (hw : Well H a) (e : Stp a H H') : ∀ {n : Nm}, NumAt C H v n → NumAt C H' v n
  | .i _, h => h
  | .f _ _ _, ⟨b, z, h, k⟩ => ⟨b, z, h.stp hw e, k⟩
theorem mk_nan : MkOk 1 (.str "nan") 0 := ⟨.inl rfl, .inl ⟨rfl, rfl, rfl⟩⟩
theorem FinD.mk {s t p : Int} (h : FinD s t p) : MkOk s (.int t) p := by
  obtain ⟨hs, t0, t1, p0, p1⟩ := h
  obtain ⟨n, rfl⟩ := Int.eq_ofNat_of_zero_le t0
  have hb : bitsN n ≤ 53 := bits_le (by omega)
  exact mk_of_flok hs (by omega) p0 (by omega)
end
end Up

set_option Elab.async false
set_option linter.all false
set_option pp.maxSteps 600
set_option maxRecDepth 100000
set_option maxHeartbeats 4000000
namespace Up
open PySem PySem.Spec PyProof.Rows L2 LamX
/-! ### lambdas without parameters that are handed to a def -/
section
variable {P : Program} {w : World} {K : PySem.W.Frag} {mg : Str → Option Value} {base : Heap} {x qual : Str} {params : Arguments} {body : List Stmt} {scope : Scope} {dvs : List V} {kws : List (Str × V)} {f : Addr} {fd : FuncData}
/-- F.ok for a def whose code object is known -/
theorem FunD_okC {CX : CXT} {N ps : List Str} {k : Nat} {sp : Sp} {c : Addr} (F : FunD K x qual params body scope dvs kws f fd) (hc : fd.code = .ref c) (S : FnScope N ps scope) (len : ∀ vs H Q E, sp vs H Q E → vs.length = ps.length)
    (hbody : ∀ (A : Around) (outer : List Env) (s : Shared) (H : Hp) (vs : List V) (Q : VK) (E : XK), Room k (A.deeper (envOfC qual scope s.heap.objs.size f (.ref c))) → sp vs H Q E →
      ∃ t, PSs (cxOf CX P w K mg base N qual scope f (.ref c) A outer s H E) body t ∧ t { nx := fun _ H' => Q .non H', rt := Q } (start N vs) H) : FnOk P w K mg base CX (k + 1) f fd ps sp := by
  obtain ⟨oc, od, dV, kV, doc, pm, an, cdv, ct, osl, rfl, lk, hcd, _, _⟩ := F.ex
  have e : cdv = .ref c := hc
  subst e
  exact fn_of lk hcd S len fun A outer s H vs Q E hr hsp => hbody A outer s H vs Q E hr hsp
/-- the code object of a def, as the head tells it -/
theorem code_of {p : Str × Option Str} (F : FunD K x qual params body scope dvs kws (He.fAd K p) fd) : fd.code = .ref (He.codeOf K p) := by
  obtain ⟨oc, od, dV, kV, doc, pm, an, cdv, ct, osl, rfl, lk, hcd, _, _⟩ := F.ex
  obtain ⟨c, rfl⟩ := He.codeIn_ref hcd
  rw [He.codeOf_eq (c := c) lk rfl]
end
/-- what a lambda lets out -/
theorem lam_pass {X : Cx} {A : Around} {outer : List Env} {s : Shared} {H : Hp} {E : XK} {scope : Scope} {f c' : Addr} : Passes (L2.CX X.prog X.w) (lamCx X A outer s H E scope f c') E :=
  passes_call (takes_of rfl rfl rfl rfl) fun _ _ _ _ h => h
theorem Takes.len {X : Cx} {W : WX} (t : Takes X W) : Takes X (fun cls d σ H => σ.length = X.N.length → W cls d σ H) := fun u s' ⟨a, B, sI, pins, σ, H, cls, d, e, I, nb, up, sky, na, os, ag, w⟩ =>
  t u s' ⟨a, B, sI, pins, σ, H, cls, d, e, I, nb, up, sky, na, os, ag, w I.len⟩
/-- x(lambda: body) -/
theorem pe_lam {X : Cx} {T : List (Addr × Str)} {TT : (XK → Hp → VK → Prop) → Hp → VK → Prop} {x a : Str} {g c P : Addr} {k : Nat} {pg : Arguments} {bg : List Stmt} {sg : Scope} {Ng : List Str} {fdg : FuncData}
    {params : Arguments} {body : Expr} {scope : Scope} {t : XK → TE} {p lpos pos : Pos} (Fg : FunD X.K x x pg bg sg [] [] g fdg) (hm : X.mg x = some (.ref g)) (hb : L2.Binds X.K fdg [a] []) (Sg : FnScope Ng [a] sg) (hNg : Ng[0]? = some a) (hva : Vis sg a)
    (hG : ∀ cdg, GivesTo X Ng x sg g cdg bg a (X.env.qual ++ "<lambda>") TT) (TB : TabB X.base X.mg c P) (hcode : X.env.code = .ref c) (hmT : (P, X.env.qual ++ "<lambda>") ∈ T) (hu : ∀ p ∈ T, p.1 = P → p.2 = X.env.qual ++ "<lambda>") (hr : Room (k + 2) X.A)
    (L : LamS X.env.scope scope) (hbody : ∀ (A : Around) (outer : List Env) (s : Shared) (H : Hp) (E : XK) (f c' : Addr), Room k (A.deeper (lamEnv X scope s.heap.objs.size f c')) → PE (lamCx X A outer s H E scope f c') body (t E))
    (hg : Gl X x := by rfl) (hdef : defaultsOf params X.env = ([], []) := by rfl) (hbind : ∀ (q : Str) (cl : List (Str × Addr)) (pm cv ctv : Value), bindArgs (PySem.W.kla_fn "<lambda>" q params body scope cl pm cv ctv) ⟨[], []⟩ = pure [] := by intros; rfl)
    (hdb : (x == ("__debug__" : Str)) = false := by decide) (hd : (a == ("__debug__" : Str)) = false := by decide) (hcd : (a == ("__classdict__" : Str)) = false := by decide) :
    PE X (.Call (.Name x p) [.Lambda params body scope lpos] [] pos) (tLam T TT t) := by
  obtain ⟨oc, od, dV, kV, doc, pm, an, cdv, ct, osl, rfl, lk, hcd2, _, _⟩ := Fg.ex
  exact pe_lamcall hg hm Fg.kp lk hcd2 hb Sg hNg hva (hG cdv) TB hcode hmT hu hr L hdef hbind hbody hdb hd hcd
theorem g_lam {T : List (Addr × Str)} {TT : (XK → Hp → VK → Prop) → Hp → VK → Prop} {t : XK → TE} {σ : L2.St} {H : Hp} {Q : VK} (hT : Tabs T H) (h : ∀ H1, ExtN H H1 → Tabs T H1 → TT (fun E H' Q' => t E σ H' Q') H1 Q) : tLam T TT t σ H Q := ⟨hT, h⟩
end Up

set_option Elab.async false
set_option linter.all false
set_option pp.maxSteps 900
set_option maxRecDepth 100000
set_option maxHeartbeats 4000000
namespace Up
open PySem PySem.Spec PyProof.Rows L2
local macro_rules | `(tactic| walk_at "u") => `(tactic| first
  | with_reducible refine g_seq ?_
  | with_reducible refine g_asg ?_
  | with_reducible refine g_op ?_
  | ((with_reducible show tVar _ _ _ _); apply g_var; exact rfl)
  | with_reducible refine g_c ?_
  | with_reducible refine g_name ?_
  | with_reducible refine g_ifs ?_
  | with_reducible refine g_tt ?_
  | with_reducible refine g_tB ?_
  | with_reducible refine g_bl ?_
  | with_reducible refine g_ret ?_
  | with_reducible refine g_cb ?_
  | with_reducible refine g_cons ?_
  | with_reducible refine g_nil ?_
  | with_reducible refine g_call ?_
  | with_reducible refine g_and ?_
  | with_reducible refine g_or ?_
  | with_reducible refine g_not ?_
  | with_reducible refine g_andV ?_
  | with_reducible refine g_orV ?_
  | with_reducible refine g_notV ?_
  | with_reducible refine g_if ?_
  | with_reducible refine g_un ?_
  | with_reducible refine g_neg ?_
  | with_reducible refine g_addI ?_
  | with_reducible refine g_subI ?_
  | with_reducible refine g_subB ?_
  | with_reducible refine g_I0 ?_
  | with_reducible refine g_cmpI ?_
  | with_reducible refine g_eqI ?_
  | with_reducible refine g_neI ?_
  | with_reducible refine g_eqS ?_
  | with_reducible refine g_neS ?_
  | with_reducible refine g_eqB ?_
  | with_reducible refine g_neB ?_
  | with_reducible refine g_bits ?_
  | with_reducible refine g_bitsI ?_
  | with_reducible refine g_fld ?_
  | with_reducible refine g_tup ?_
  | with_reducible refine g_lst ?_
  | with_reducible refine g_gtup ?_
  | with_reducible refine g_make ?_
  | with_reducible refine g_lc ?_
  | with_reducible refine g_yesT ?_
  | with_reducible refine g_intI ?_
  | with_reducible refine g_intB ?_
  | with_reducible refine g_max2 ?_
  | with_reducible refine g_abs1 ?_
  | with_reducible refine g_for ?_
  | with_reducible refine g_iList ?_
  | with_reducible refine g_iTup ?_
  | with_reducible refine g_iRng1 ?_
  | with_reducible refine g_iEnum ?_
  | with_reducible refine g_slice ?_
  | with_reducible refine g_po0 ?_
  | with_reducible refine g_po1 ?_
  | with_reducible refine g_gsub ?_
  | with_reducible refine g_par ?_
  | with_reducible refine g_par2 ?_
  | with_reducible refine g_rfl ?_
  | with_reducible refine g_meth ?_
  | with_reducible refine g_gcons ?_
  | with_reducible refine g_gnil ?_
  | with_reducible refine g_gfld ?_
  | with_reducible refine g_sfld ?_
  | with_reducible refine g_drop ?_
  | with_reducible refine g_next ?_
  | with_reducible refine iteT ?_
  | with_reducible refine iteF ?_)
local macro_rules | `(tactic| walk_at "go") => `(tactic| (repeat walk_at "u"))

section
variable {P : Program} {w : World} {K : PySem.W.Frag} {mg : Str → Option Value} {base : Heap} {C CI L : Addr}
/-! ### C(..) that may raise, within try -/
theorem pe_cnX {X : Cx} {W : WX} {k : Nat} {x : Str} {C : Addr} {ps : List Str} {dvs : List V} {sp : Sp} {e : Expr} {es : List Expr} {t : TA} {p pos : Pos} (F : Cn X.prog X.w X.K X.mg X.base (L2.CX X.prog X.w) k x C ps dvs sp) (hr : Room (k + 1) X.A) (tk : Takes X W) (ha : PA X (e :: es) t) (hg : Gl X x := by rfl)
    (hdb : (x == ("__debug__" : Str)) = false := by decide) (he : starEach (e :: es) X.env = (false, eval e X.env) :: starEach es X.env := by rfl) (hpl : (backTo pos (starEach es X.env)).any (·.1) = false := by rfl) :
    PE X (.Call (.Name x p) (e :: es) [] pos) (fun σ H Q => ∃ Ech : XK, (∀ cls d σ' H', Ech cls d H' → σ'.length = X.N.length → W cls d σ' H') ∧ tMakeN C sp dvs Ech t σ H Q) :=
  ⟨fun pins s σ H Q I ⟨Ech, hW, h⟩ => (pe_cn F hr (passes_call (Takes.len tk) hW) ha hg hdb he hpl).run pins s σ H Q I h⟩
theorem sc_Lsaid : FnScope ["_law_sign", "_law_top", "_law_power", "e"] ["_law_sign", "_law_top", "_law_power"] (defScope s_Lsaid) := ⟨rfl, rfl, rfl, by decide +kernel, rfl, by decide +kernel, by decide +kernel⟩
def tMkX (n : Nat) (C : Addr) (sp : Sp) (dvs : List V) (t : TA) (W : WX) : TE := fun σ H Q => ∃ Ech : XK, (∀ cls d σ' H', Ech cls d H' → σ'.length = n → W cls d σ' H') ∧ tMakeN C sp dvs Ech t σ H Q
def SaidR (C : Addr) (s t p : V) (H : Hp) (Q : VK) : Prop := match outF s t p with
  | some z => ∀ H', Same H H' → Q (.str z) H'
  | none => ∀ i k H' a, s = .int i → p = .int k → Same H H' → FlAt C H' a i (redV t k).1 (redV t k).2 → Q (.ref a) H'
def sp_Lsaid (K : PySem.W.Frag) (C : Addr) : Sp := fun vs H Q _ => ∃ s t p ts tt tp, vs = [s, t, p] ∧ Kn K H s ts ∧ Kn K H t tt ∧ Kn K H p tp ∧ SaidR C s t p H Q
theorem ok_Lsaid {f : Addr} {fd : FuncData} (F : FunD K "_law_said" "_law_said" (defArgs s_Lsaid) (defBody s_Lsaid) (defScope s_Lsaid) [] [] f fd) (B : Blt mg) (T : IaK K mg CI L) (c_FloatX : Cn P w K mg base (L2.CX P w) 3 "Float" C ["self", "sign", "top", "power"] [] (sp_FinitX (K := K) C CI)) :
    FnOk P w K mg base CX0 5 f fd ["_law_sign", "_law_top", "_law_power"] (sp_Lsaid K C) := by
  refine F.ok sc_Lsaid (fun vs H Q E h => ?_) (fun cdv A outer s H vs Q E hr h => ?_)
  · obtain ⟨_, _, _, _, _, _, rfl, _⟩ := h; rfl
  · obtain ⟨sg, t, p, ts, tt, tp, rfl, ks, kt, kp, q⟩ := h
    have g_InvalidArgument : mg "InvalidArgument" = some (.ref CI) := T.mg
    refine ⟨_, PSs.nox (pss_one (ps_try_as (i := 3) (tb := fun W => tRet (tMkX 4 C (sp_FinitX (K := K) C CI) [] (tCons (tVar 0) (tCons (tVar 1) (tCons (tVar 2) tNil))) W)) (Wout := fun _ _ _ _ => False) rfl rfl sc_Lsaid.nd rfl rfl ⟨rfl, by decide, Or.inl T.lu.mg⟩ L2.takes0
      (fun W pn xe tk _ => pss_one (ps_ret (by exact (pe_cnX c_FloatX (hr.mono (by decide)) tk (pa_cons (pv 0) (pa_cons (pv 1) (pa_cons (pv 2) pa_nil)))))))
      (fun a oe cls d pn hz hf => pss_one (ps_ret (by exact (pe_ifExp (pt_val (pe_callB (call_isO (D := CI) hz hf (by cases d <;> simp)) (by rfl) B.isinstance (by decide +kernel) (pa_cons (pv 3) (pa_cons (pe_gref g_InvalidArgument) pa_nil)))) (pe_xf T.xf T.nP hz hf (pv 3)) pe_str)))))), ?_⟩
    refine ⟨fun cls d H' => ∃ dd z, cls = .ref CI ∧ d = some dd ∧ H' dd = some (.xd (iaF (.str z))) ∧ outF sg t p = some z ∧ Same H H', fun cls d σ' H' z hl => ?_, ?_⟩
    · obtain ⟨dd, z, rfl, rfl, hd, e, s1⟩ := z
      unfold SaidR at q
      rw [e] at q
      refine ⟨true, T.te, fun _ b nb => ?_, fun z => by cases z⟩
      show tRet (tIf (tB (tCB _ (tCons (tVar 3) (tCons (tC (V.ref CI)) tNil)))) (tXf b (Value.ref CI) (some dd) CI "part" (tVar 3)) (tC (V.str "other"))) _ _ _
      refine ⟨_, List.getElem?_set_self (by omega), ?_⟩
      refine ⟨fun dd' e' => ⟨_, by cases e'; exact hd⟩, rfl, rfl, ?_⟩
      refine ⟨_, rfl, ?_⟩
      refine iteT ?_
      refine ⟨_, List.getElem?_set_self (by omega), rfl, rfl, dd, _, _, rfl, hd, ia_part _, ?_⟩
      exact q _ s1
    · walk_at "go"
      intro x dx H1 nx ndx ne s1 hx keep
      refine ⟨x, dx, sg, t, p, ts, tt, tp, rfl, hx, ks.same s1, kt.same s1, kp.same s1, ?_⟩
      unfold SaidR at q
      unfold OutR
      cases e : outF sg t p with
      | some z =>
        rw [e] at q
        intro d H2 k2 hd
        exact ⟨d, z, rfl, rfl, hd, rfl, fun b o eb => k2 b o (ne_of_none eb nx) (s1 _ _ eb)⟩
      | none =>
        rw [e] at q
        intro i k H2 e1 e2 k2 h2
        exact ⟨rfl, q i k H2 x e1 e2 (fun b o eb => k2 b o (ne_of_none eb nx) (s1 _ _ eb)) ⟨dx, h2⟩⟩
end
end Up

set_option Elab.async false
set_option linter.all false
set_option maxRecDepth 100000
set_option maxHeartbeats 4000000
set_option exponentiation.threshold 200000
namespace Up
open PySem PySem.Spec PyProof.Rows L2
local macro_rules | `(tactic| walk_at "u") => `(tactic| first
  | with_reducible refine g_seq ?_
  | with_reducible refine g_asg ?_
  | with_reducible refine g_op ?_
  | ((with_reducible show tVar _ _ _ _); apply g_var; exact rfl)
  | with_reducible refine g_c ?_
  | with_reducible refine g_name ?_
  | with_reducible refine g_ifs ?_
  | with_reducible refine g_tt ?_
  | with_reducible refine g_tB ?_
  | with_reducible refine g_bl ?_
  | with_reducible refine g_ret ?_
  | with_reducible refine g_cb ?_
  | with_reducible refine g_cons ?_
  | with_reducible refine g_nil ?_
  | with_reducible refine g_call ?_
  | with_reducible refine g_and ?_
  | with_reducible refine g_or ?_
  | with_reducible refine g_not ?_
  | with_reducible refine g_andV ?_
  | with_reducible refine g_orV ?_
  | with_reducible refine g_notV ?_
  | with_reducible refine g_if ?_
  | with_reducible refine g_un ?_
  | with_reducible refine g_neg ?_
  | with_reducible refine g_addI ?_
  | with_reducible refine g_subI ?_
  | with_reducible refine g_subB ?_
  | with_reducible refine g_I0 ?_
  | with_reducible refine g_cmpI ?_
  | with_reducible refine g_eqI ?_
  | with_reducible refine g_neI ?_
  | with_reducible refine g_eqS ?_
  | with_reducible refine g_neS ?_
  | with_reducible refine g_eqB ?_
  | with_reducible refine g_neB ?_
  | with_reducible refine g_bits ?_
  | with_reducible refine g_bitsI ?_
  | with_reducible refine g_fld ?_
  | with_reducible refine g_tup ?_
  | with_reducible refine g_lst ?_
  | with_reducible refine g_gtup ?_
  | with_reducible refine g_make ?_
  | with_reducible refine g_lc ?_
  | with_reducible refine g_yesT ?_
  | with_reducible refine g_intI ?_
  | with_reducible refine g_intB ?_
  | with_reducible refine g_max2 ?_
  | with_reducible refine g_abs1 ?_
  | with_reducible refine g_for ?_
  | with_reducible refine g_iList ?_
  | with_reducible refine g_iTup ?_
  | with_reducible refine g_iRng1 ?_
  | with_reducible refine g_iEnum ?_
  | with_reducible refine g_slice ?_
  | with_reducible refine g_po0 ?_
  | with_reducible refine g_po1 ?_
  | with_reducible refine g_gsub ?_
  | with_reducible refine g_par ?_
  | with_reducible refine g_par2 ?_
  | with_reducible refine g_rfl ?_
  | with_reducible refine g_meth ?_
  | with_reducible refine g_gcons ?_
  | with_reducible refine g_gnil ?_
  | with_reducible refine g_gfld ?_
  | with_reducible refine g_sfld ?_
  | with_reducible refine g_drop ?_
  | with_reducible refine g_next ?_
  | with_reducible refine iteT ?_
  | with_reducible refine iteF ?_)
local macro_rules | `(tactic| walk_at "go") => `(tactic| (repeat walk_at "u"))

/-! ### floats by their parts -/
structure FL where
  s : Int
  t : V
  p : Int
def FL.ok (x : FL) : Prop := FlOk x.s x.t x.p
def FA (C : Addr) (H : Hp) (v : V) (x : FL) : Prop := ∃ a, v = .ref a ∧ FlAt C H a x.s x.t x.p
theorem FA.same {C : Addr} {H H' : Hp} {v : V} {x : FL} (h : FA C H v x) (e : Same H H') : FA C H' v x := by
  obtain ⟨a, rfl, h⟩ := h
  exact ⟨a, rfl, h.same e⟩
def RetN (C : Addr) (H : Hp) (x : FL) (Q : VK) : Prop := ∀ H' v, Same H H' → FA C H' v x → Q v H'
theorem RetN.later {C : Addr} {H H1 : Hp} {x : FL} {Q : VK} (q : RetN C H x Q) (s : Same H H1) : RetN C H1 x Q := fun H' v s' h => q H' v (s.trans s') h
theorem RetN.to {C : Addr} {H : Hp} {x : FL} {Q : VK} (q : RetN C H x Q) : RetF C H x.s x.t x.p Q := fun H' a _ s h => q H' _ s ⟨a, rfl, h⟩
def mkL (s : Int) (v : V × Int) : FL := ⟨s, (redV v.1 v.2).1, (redV v.1 v.2).2⟩
def nanL : FL := ⟨1, .str "nan", 0⟩
def infL (s : Int) : FL := ⟨s, .str "inf", 0⟩
def zeroL (s : Int) : FL := ⟨s, .int 0, 0⟩
def nearL (s : Int) (t b : Nat) : FL := mkL s (nearV t b)
theorem near_zero (s : Int) (b : Nat) : nearL s 0 b = zeroL s := rfl
theorem mkL_ok {s : Int} {v : V × Int} (h : MkOk s v.1 v.2) : (mkL s v).ok := mk_flok h
theorem near_ok {s : Int} {t b : Nat} (hs : s = 1 ∨ s = -1) (hb : 0 < b) : (nearL s t b).ok := mkL_ok (near_mk hs hb)
theorem nan_ok : nanL.ok := ⟨.inl rfl, .inl ⟨rfl, rfl, rfl⟩⟩
theorem inf_ok {s : Int} (hs : s = 1 ∨ s = -1) : (infL s).ok := ⟨hs, .inr (.inl ⟨rfl, rfl⟩)⟩
theorem zero_mk {s : Int} (hs : s = 1 ∨ s = -1) : MkOk s (.int 0) 0 := mk_of_flok (n := 0) hs (by decide) (by decide) (by decide)
theorem zero_ok {s : Int} (hs : s = 1 ∨ s = -1) : (zeroL s).ok := mkL_ok (v := (.int 0, 0)) (zero_mk hs)
theorem FL.ok.is {x : FL} (h : x.ok) : IS x.t := by
  rcases h.2 with ⟨e, _⟩ | ⟨e, _⟩ | ⟨n, e, _⟩
  · exact .inr ⟨_, e⟩
  · exact .inr ⟨_, e⟩
  · exact .inl ⟨_, e⟩
theorem FL.ok.fin {x : FL} (h : x.ok) (h1 : x.t ≠ .str "nan") (h2 : x.t ≠ .str "inf") : ∃ n, x.t = .int n ∧ FinOk n x.p := by
  rcases h.2 with ⟨e, _⟩ | ⟨e, _⟩ | h
  · exact absurd e h1
  · exact absurd e h2
  · exact h
/-- made again of its own parts it is the same -/
theorem red_again {s : Int} {t : V} {p : Int} (h : FlOk s t p) : redV t p = (t, p) := by
  rcases h.2 with ⟨rfl, _, rfl⟩ | ⟨rfl, rfl⟩ | ⟨n, rfl, f1, f2, f3, f4, f5, f6⟩
  · rfl
  · rfl
  · by_cases h0 : n = 0
    · subst h0
      rw [f5 rfl]; rfl
    · obtain ⟨k, rfl⟩ := Int.eq_ofNat_of_zero_le f1
      have ho : k % 2 = 1 := by have := f6 h0; omega
      rw [red_nat (by omega), tz_odd ho]
      simp
def nI : V → Int
  | .int n => n
  | _ => 0
def nx (x : FL) : Int := ratN x.s (nI x.t) x.p
def dx (x : FL) : Int := ratD x.p
theorem rat_small {s n p : Int} (h : FlOk s (.int n) p) : (ratN s n p).natAbs < 2 ^ 1100 ∧ (ratD p).natAbs < 2 ^ 1100 ∧ 0 < ratD p := by
  have hf := fin_of h
  have hs := h.1
  have hhi := hf.hi
  obtain ⟨f1, f2, f3, f4, f5⟩ := hf
  have hm : n.natAbs < 2 ^ 53 := by omega
  unfold ratN ratD
  by_cases hp : p < 0
  · rw [if_pos hp, if_pos hp, sgn_abs hs]
    refine ⟨lt_pow_mono hm (by decide), ?_, Int.pow_pos (by decide)⟩
    rw [Int.natAbs_pow]
    exact Nat.pow_lt_pow_right (by decide) (by omega)
  · rw [if_neg hp, if_neg hp, sgn_abs hs]
    refine ⟨?_, lt_pow_mono (a := 1) (by decide) (by decide), by decide⟩
    rw [Int.natAbs_mul, Int.natAbs_pow]
    have h1 : n.natAbs * Int.natAbs 2 ^ p.toNat < 2 ^ 53 * 2 ^ p.toNat := Nat.mul_lt_mul_of_pos_right hm (Nat.two_pow_pos _)
    rw [← Nat.pow_add] at h1
    exact lt_pow_mono h1 (by omega)
theorem FL.ok.small {x : FL} (h : x.ok) {n : Int} (e : x.t = .int n) : (nx x).natAbs < 2 ^ 1100 ∧ (dx x).natAbs < 2 ^ 1100 ∧ 0 < dx x := by
  have h : FlOk x.s x.t x.p := h
  unfold nx dx
  rw [e] at h ⊢
  exact rat_small h
def maxI (i j : Int) : Int := if j > i then j else i
theorem maxI_sgn {i j : Int} (hi : i = 1 ∨ i = -1) (hj : j = 1 ∨ j = -1) : maxI i j = 1 ∨ maxI i j = -1 := by
  unfold maxI; split
  · exact hj
  · exact hi
theorem tfS_sgn (k : Int) : tfS k = 1 ∨ tfS k = -1 := by unfold tfS; split <;> simp
theorem mul_sgn {i j : Int} (hi : i = 1 ∨ i = -1) (hj : j = 1 ∨ j = -1) : i * j = 1 ∨ i * j = -1 := by
  rcases hi with rfl | rfl <;> rcases hj with rfl | rfl <;> simp
/-! what is reckoned -/
def addL (x y : FL) : FL :=
  if x.t = .str "inf" ∨ y.t = .str "inf" then (if x.t = y.t ∧ x.s ≠ y.s then nanL else if x.t = .str "inf" then x else y)
  else if x.t = .int 0 ∧ y.t = .int 0 then zeroL (maxI x.s y.s)
  else nearL (tfS (nx x * dx y + nx y * dx x)) (nx x * dx y + nx y * dx x).natAbs (dx x * dx y).natAbs
def mulL (x y : FL) : FL :=
  if x.t = .str "inf" ∨ y.t = .str "inf" then (if x.t = .int 0 ∨ y.t = .int 0 then nanL else infL (x.s * y.s))
  else nearL (x.s * y.s) (nx x * nx y).natAbs (dx x * dx y).natAbs
def divL (x y : FL) : FL :=
  if x.t = .str "inf" then (if y.t = .str "inf" then nanL else infL (x.s * y.s))
  else if y.t = .str "inf" then zeroL (x.s * y.s)
  else if y.t = .int 0 then (if x.t = .int 0 then nanL else infL (x.s * y.s))
  else nearL (x.s * y.s) (nx x * dx y).natAbs (dx x * nx y).natAbs
def negL (x : FL) : FL := ⟨0 - x.s, x.t, x.p⟩
def byL (c : Str) (x y : FL) : FL :=
  if x.t = .str "nan" ∨ y.t = .str "nan" then nanL
  else if c = "add" then addL x y else if c = "sub" then addL x (negL y) else if c = "mul" then mulL x y else divL x y
section
variable {P : Program} {w : World} {K : PySem.W.Frag} {mg : Str → Option Value} {base : Heap} {C : Addr}
section
variable {H : Hp} {a : Addr} {s : Int} {t : V} {p : Int} {T : V → Prop}
theorem show_ex {p : Addr → Prop} (h : ∃ a, p a) : ∃ a, p a := h
theorem fS (O : FlC K mg C) (h : FlAt C H a s t p) (q : T (.int s)) : ∃ a' C' dx fs v, V.ref a = .ref a' ∧ H a' = some (.ins C' dx fs) ∧ Cls K C' ∧ NoAttr K C' "sign" ∧ fs.lookup ("sign" : Str) = some v ∧ T v := by
  obtain ⟨dx, h⟩ := h
  exact ⟨a, C, dx, _, _, rfl, h, O.own.cl, O.nS, fl_sign _ _ _, q⟩
theorem fT (O : FlC K mg C) (h : FlAt C H a s t p) (q : T t) : ∃ a' C' dx fs v, V.ref a = .ref a' ∧ H a' = some (.ins C' dx fs) ∧ Cls K C' ∧ NoAttr K C' "top" ∧ fs.lookup ("top" : Str) = some v ∧ T v := by
  obtain ⟨dx, h⟩ := h
  exact ⟨a, C, dx, _, _, rfl, h, O.own.cl, O.nT, fl_top _ _ _, q⟩
theorem fP (O : FlC K mg C) (h : FlAt C H a s t p) (q : T (.int p)) : ∃ a' C' dx fs v, V.ref a = .ref a' ∧ H a' = some (.ins C' dx fs) ∧ Cls K C' ∧ NoAttr K C' "power" ∧ fs.lookup ("power" : Str) = some v ∧ T v := by
  obtain ⟨dx, h⟩ := h
  exact ⟨a, C, dx, _, _, rfl, h, O.own.cl, O.nP, fl_power _ _ _, q⟩
theorem g_rat {Q : VK} {E : XK} {n : Int} (h : FlAt C H a s (.int n) p) (o : FlOk s (.int n) p) (q : RetT H [.int (ratN s n p), .int (ratD p)] Q) :
    ∃ a' dx fs, V.ref a = .ref a' ∧ H a' = some (.ins C dx fs) ∧ fs.lookup ("ratio" : Str) = none ∧ tNil [] H fun vs H2 => sp_ratio C (V.ref a :: (vs ++ [])) H2 Q E := by
  obtain ⟨d, h'⟩ := id h
  exact ⟨a, d, _, rfl, h', rfl, a, s, n, p, rfl, h, o, q⟩
end
/-- Float(..) -/
theorem mkN {H : Hp} {Q : VK} {E : XK} {s : Int} {top : V} {p : Int} (hk : MkOk s top p) (q : RetN C H (mkL s (top, p)) Q) : MakeR C (sp_Finit C) ([.int s, top, .int p] ++ []) H Q E := mkF hk q.to
end
end Up

set_option Elab.async false
set_option linter.all false
set_option maxRecDepth 100000
set_option maxHeartbeats 4000000
set_option exponentiation.threshold 200000
namespace Up
open PySem PySem.Spec PyProof.Rows L2
local macro_rules | `(tactic| walk_at "u") => `(tactic| first
  | with_reducible refine g_seq ?_
  | with_reducible refine g_asg ?_
  | with_reducible refine g_op ?_
  | ((with_reducible show tVar _ _ _ _); apply g_var; exact rfl)
  | with_reducible refine g_c ?_
  | with_reducible refine g_name ?_
  | with_reducible refine g_ifs ?_
  | with_reducible refine g_tt ?_
  | with_reducible refine g_tB ?_
  | with_reducible refine g_bl ?_
  | with_reducible refine g_ret ?_
  | with_reducible refine g_cb ?_
  | with_reducible refine g_cons ?_
  | with_reducible refine g_nil ?_
  | with_reducible refine g_call ?_
  | with_reducible refine g_and ?_
  | with_reducible refine g_or ?_
  | with_reducible refine g_not ?_
  | with_reducible refine g_andV ?_
  | with_reducible refine g_orV ?_
  | with_reducible refine g_notV ?_
  | with_reducible refine g_if ?_
  | with_reducible refine g_un ?_
  | with_reducible refine g_neg ?_
  | with_reducible refine g_addI ?_
  | with_reducible refine g_subI ?_
  | with_reducible refine g_subB ?_
  | with_reducible refine g_I0 ?_
  | with_reducible refine g_cmpI ?_
  | with_reducible refine g_eqI ?_
  | with_reducible refine g_neI ?_
  | with_reducible refine g_eqS ?_
  | with_reducible refine g_neS ?_
  | with_reducible refine g_eqB ?_
  | with_reducible refine g_neB ?_
  | with_reducible refine g_bits ?_
  | with_reducible refine g_bitsI ?_
  | with_reducible refine g_fld ?_
  | with_reducible refine g_tup ?_
  | with_reducible refine g_lst ?_
  | with_reducible refine g_gtup ?_
  | with_reducible refine g_make ?_
  | with_reducible refine g_lc ?_
  | with_reducible refine g_yesT ?_
  | with_reducible refine g_intI ?_
  | with_reducible refine g_intB ?_
  | with_reducible refine g_max2 ?_
  | with_reducible refine g_abs1 ?_
  | with_reducible refine g_for ?_
  | with_reducible refine g_iList ?_
  | with_reducible refine g_iTup ?_
  | with_reducible refine g_iRng1 ?_
  | with_reducible refine g_iEnum ?_
  | with_reducible refine g_slice ?_
  | with_reducible refine g_po0 ?_
  | with_reducible refine g_po1 ?_
  | with_reducible refine g_gsub ?_
  | with_reducible refine g_par ?_
  | with_reducible refine g_par2 ?_
  | with_reducible refine g_rfl ?_
  | with_reducible refine g_meth ?_
  | with_reducible refine g_gcons ?_
  | with_reducible refine g_gnil ?_
  | with_reducible refine g_gfld ?_
  | with_reducible refine g_sfld ?_
  | with_reducible refine g_drop ?_
  | with_reducible refine g_next ?_
  | with_reducible refine iteT ?_
  | with_reducible refine iteF ?_)
local macro_rules | `(tactic| walk_at "go") => `(tactic| (repeat walk_at "u"))
local macro_rules | `(tactic| walk_at "f") => `(tactic| (repeat (first
  | walk_at "u"
  | with_reducible refine g_chain ?_
  | with_reducible refine g_par3 ?_
  | with_reducible refine g_par3' ?_
  | ((with_reducible refine show_ex ?_); first
    | refine fT (by assumption) (by assumption) ?_
    | refine fS (by assumption) (by assumption) ?_
    | refine fP (by assumption) (by assumption) ?_))))

section
variable {P : Program} {w : World} {K : PySem.W.Frag} {mg : Str → Option Value} {base : Heap} {C : Addr}
/-! Float.__eq__ -/
theorem sc_Float_eq : FnScope ["self", "other"] ["self", "other"] (defScope s_Float_eq) := ⟨rfl, rfl, rfl, by decide +kernel, rfl, by decide +kernel, by decide +kernel⟩
def eqL (x y : FL) : Bool := decide (x.s = y.s) && (decide (x.t = y.t) && decide (x.p = y.p))
theorem eqL_refl (x : FL) : eqL x x = true := by unfold eqL; simp
def tpD (x : FL) : PyData := .tuple [.int x.s, dV x.t, .int x.p]
theorem tp_shape {x : FL} (h : x.ok) : SeqAt.shaped (tpD x) = true := by
  have h : FlOk x.s x.t x.p := h
  unfold tpD
  rcases h.2 with ⟨e, _⟩ | ⟨e, _⟩ | ⟨n, e, _⟩
  · rw [e]; show SeqAt.shaped (.tuple [.int x.s, .str "nan", .int x.p]) = true; unfold SeqAt.shaped; simp only [PyData.canLay0, PyData.canLayAll0, Bool.true_and, Bool.and_true, Bool.and_eq_true, decide_eq_true_eq]; exact ⟨by decide +kernel, by simp [PyData.depth, PyData.depthAll]⟩
  · rw [e]; show SeqAt.shaped (.tuple [.int x.s, .str "inf", .int x.p]) = true; unfold SeqAt.shaped; simp only [PyData.canLay0, PyData.canLayAll0, Bool.true_and, Bool.and_true, Bool.and_eq_true, decide_eq_true_eq]; exact ⟨by decide +kernel, by simp [PyData.depth, PyData.depthAll]⟩
  · rw [e]; rfl
theorem tp_eqv {x y : FL} (hx : x.ok) (hy : y.ok) : PyData.eqv (tpD x) (tpD y) = eqL x y := by
  unfold tpD eqL
  simp only [PyData.eqv, PyData.eqvAll, hx.is.eqv hy.is, Bool.and_true]
  have e : ∀ i j : Int, (i == j) = decide (i = j) := fun i j => by by_cases h : i = j <;> simp [h]
  rw [e, e]
def sp_Feq (C : Addr) : Sp := fun vs H Q _ => ∃ v u x y, vs = [v, u] ∧ FA C H v x ∧ FA C H u y ∧ x.ok ∧ y.ok ∧ ∀ H', Same H H' → Q (.bl (eqL x y)) H'
theorem ok_Feq {f : Addr} {fd : FuncData} (F : FunD K "__eq__" "Float.__eq__" (defArgs s_Float_eq) (defBody s_Float_eq) (defScope s_Float_eq) [] [] f fd) (B : Blt mg) (T : FlC K mg C) : FnOk P w K mg base CX0 1 f fd ["self", "other"] (sp_Feq C) := by
  have g_Float : mg "Float" = some (.ref C) := T.mg
  refine F.ok sc_Float_eq (fun vs H Q E h => ?_) (fun cdv A outer s H vs Q E hr h => ?_)
  · obtain ⟨_, _, _, _, rfl, _⟩ := h; rfl
  · obtain ⟨_, _, x, y, rfl, ⟨a, rfl, ha⟩, ⟨b, rfl, hb⟩, ox, oy, q⟩ := h
    refine ⟨_, PSs.nox (pss_cons (ps_if (pt_not (pt_val (pe_callB call_isi (by rfl) B.isinstance (by decide +kernel) (pa_cons (pv 1) (pa_cons (pe_gref g_Float) pa_nil))))) (pss_one ps_never) pss_nil)
  (pss_one (ps_ret (pe_cmpR (op_oEq hr.units) (pe_tupN (pa_cons (pe_fld (pv 0) rfl) (pa_cons (pe_fld (pv 0) rfl) (pa_cons (pe_fld (pv 0) rfl) pa_nil)))) (pe_tupN (pa_cons (pe_fld (pv 1) rfl) (pa_cons (pe_fld (pv 1) rfl) (pa_cons (pe_fld (pv 1) rfl) pa_nil)))) (nomark _))))), ?_⟩
    walk_at "f"
    refine g_isiF (kf_fl T hb) ?_
    walk_at "f"
    refine iteF ?_
    walk_at "f"
    refine g_new (sz rfl) fun c H1 n1 s1 h1 _ => ?_
    have ha := ha.same s1
    have hb := hb.same s1
    walk_at "f"
    refine g_new (sz rfl) fun d H2 n2 s2 h2 _ => ?_
    refine .inr ⟨tpD x, tpD y, .tup (SqT.of (s2 _ _ h1)) (.cons (.int _) (.cons ox.is.dp (.cons (.int _) .nil))), .tup (SqT.of h2) (.cons (.int _) (.cons oy.is.dp (.cons (.int _) .nil))), tp_shape ox, tp_shape oy, ?_⟩
    rw [tp_eqv ox oy]
    exact q _ (s1.trans s2)
end
end Up

set_option Elab.async false
set_option linter.all false
set_option pp.maxSteps 600
set_option maxRecDepth 100000
set_option maxHeartbeats 4000000
set_option exponentiation.threshold 200000
namespace Up
open PySem PySem.Spec PyProof.Rows L2
local macro_rules | `(tactic| walk_at "u") => `(tactic| first
  | with_reducible refine g_seq ?_
  | with_reducible refine g_asg ?_
  | with_reducible refine g_op ?_
  | ((with_reducible show tVar _ _ _ _); apply g_var; exact rfl)
  | with_reducible refine g_c ?_
  | with_reducible refine g_name ?_
  | with_reducible refine g_ifs ?_
  | with_reducible refine g_tt ?_
  | with_reducible refine g_tB ?_
  | with_reducible refine g_bl ?_
  | with_reducible refine g_ret ?_
  | with_reducible refine g_cb ?_
  | with_reducible refine g_cons ?_
  | with_reducible refine g_nil ?_
  | with_reducible refine g_call ?_
  | with_reducible refine g_and ?_
  | with_reducible refine g_or ?_
  | with_reducible refine g_not ?_
  | with_reducible refine g_andV ?_
  | with_reducible refine g_orV ?_
  | with_reducible refine g_notV ?_
  | with_reducible refine g_if ?_
  | with_reducible refine g_un ?_
  | with_reducible refine g_neg ?_
  | with_reducible refine g_addI ?_
  | with_reducible refine g_subI ?_
  | with_reducible refine g_subB ?_
  | with_reducible refine g_I0 ?_
  | with_reducible refine g_cmpI ?_
  | with_reducible refine g_eqI ?_
  | with_reducible refine g_neI ?_
  | with_reducible refine g_eqS ?_
  | with_reducible refine g_neS ?_
  | with_reducible refine g_eqB ?_
  | with_reducible refine g_neB ?_
  | with_reducible refine g_bits ?_
  | with_reducible refine g_bitsI ?_
  | with_reducible refine g_fld ?_
  | with_reducible refine g_tup ?_
  | with_reducible refine g_lst ?_
  | with_reducible refine g_gtup ?_
  | with_reducible refine g_make ?_
  | with_reducible refine g_lc ?_
  | with_reducible refine g_yesT ?_
  | with_reducible refine g_intI ?_
  | with_reducible refine g_intB ?_
  | with_reducible refine g_max2 ?_
  | with_reducible refine g_abs1 ?_
  | with_reducible refine g_for ?_
  | with_reducible refine g_iList ?_
  | with_reducible refine g_iTup ?_
  | with_reducible refine g_iRng1 ?_
  | with_reducible refine g_iEnum ?_
  | with_reducible refine g_slice ?_
  | with_reducible refine g_po0 ?_
  | with_reducible refine g_po1 ?_
  | with_reducible refine g_gsub ?_
  | with_reducible refine g_par ?_
  | with_reducible refine g_par2 ?_
  | with_reducible refine g_rfl ?_
  | with_reducible refine g_meth ?_
  | with_reducible refine g_gcons ?_
  | with_reducible refine g_gnil ?_
  | with_reducible refine g_gfld ?_
  | with_reducible refine g_sfld ?_
  | with_reducible refine g_drop ?_
  | with_reducible refine g_next ?_
  | with_reducible refine iteT ?_
  | with_reducible refine iteF ?_)
local macro_rules | `(tactic| walk_at "go") => `(tactic| (repeat walk_at "u"))
local macro_rules | `(tactic| walk_at "f") => `(tactic| (repeat (first
  | walk_at "u"
  | with_reducible refine g_chain ?_
  | with_reducible refine g_par3 ?_
  | with_reducible refine g_par3' ?_
  | ((with_reducible refine show_ex ?_); first
    | refine fT (by assumption) (by assumption) ?_
    | refine fS (by assumption) (by assumption) ?_
    | refine fP (by assumption) (by assumption) ?_))))

section
variable {P : Program} {w : World} {K : PySem.W.Frag} {mg : Str → Option Value} {base : Heap} {C CT : Addr}
def oV : Option Int → V
  | some i => .int i
  | none => .non
/-! whole_of -/
def wholeF (s : Int) : V → Int → Option Int
  | .int m, p => if p < 0 ∨ 64 < ((Builtin.Int.intBits m : Nat) : Int) + p then none else if -9223372036854775808 ≤ s * (m * 2 ^ p.toNat) ∧ s * (m * 2 ^ p.toNat) ≤ 9223372036854775807 then some (s * (m * 2 ^ p.toNat)) else none
  | _, _ => none
def wholeN : Nm → Option Int
  | .i n => some n
  | .f s t p => wholeF s t p
theorem sc_wholeof : FnScope ["number", "whole"] ["number"] (defScope s_wholeof) := ⟨rfl, rfl, rfl, by decide +kernel, rfl, by decide +kernel, by decide +kernel⟩
def sp_wholeof (C : Addr) : Sp := fun vs H Q _ => ∃ v n, vs = [v] ∧ NumAt C H v n ∧ ∀ H', Same H H' → Q (oV (wholeN n)) H'
theorem ok_wholeof {f : Addr} {fd : FuncData} (F : FunD K "whole_of" "whole_of" (defArgs s_wholeof) (defBody s_wholeof) (defScope s_wholeof) [] [] f fd) (B : Blt mg) (T : FlC K mg C) (i_LEAST : ∃ t, mg "LEAST" = some (.int (-9223372036854775808) t)) (i_MOST : ∃ t, mg "MOST" = some (.int 9223372036854775807 t))
    (c_isfinite : Mt P w K mg base CX0 1 C "is_finite" ["self"] (sp_isfinite C)) (c_ratio : Mt P w K mg base CX0 1 C "ratio" ["self"] (sp_ratio C)) : FnOk P w K mg base CX0 2 f fd ["number"] (sp_wholeof C) := by
  have g_Float : mg "Float" = some (.ref C) := T.mg
  refine F.ok sc_wholeof (fun vs H Q E h => ?_) (fun cdv A outer s H vs Q E hr h => ?_)
  · obtain ⟨x, t, rfl, _⟩ := h; rfl
  · obtain ⟨v, n, rfl, hn, q⟩ := h
    obtain ⟨t, hk, _, _⟩ := hn.kf T
    refine ⟨_, PSs.nox (pss_cons (ps_if (pt_not (pt_val (pe_callB call_isi (by rfl) B.isinstance (by decide +kernel) (pa_cons (pv 0) (pa_cons (pe_gref g_Float) pa_nil))))) (pss_one (ps_ret (pv 0))) pss_nil)
  (pss_cons (ps_if (PW.pt (pw_or (pt_not (pt_val (pe_mt0 c_isfinite (hr.mono (by first | decide | omega)) pass0 (pv 0)))) (pw_or (pt_cmpR op_oLt (pe_fld (pv 0) rfl) pe_int (nomark _)) (pw_or1 (pt_cmpR op_oGt (pe_op op_oAdd (pe_bits (pe_fld (pv 0) rfl)) (pe_fld (pv 0) rfl)) pe_int (nomark _)))))) (pss_one (ps_ret pe_non)) pss_nil)
  (pss_cons (ps_set (i := 1) sc_wholeof.nd rfl (Or.inl rfl) (pe_ix ix_seq (pe_mt0 c_ratio (hr.mono (by first | decide | omega)) pass0 (pv 0)) pe_int (fun _ _ => rfl)))
  (pss_one (ps_ret (pe_ifExp (pt_chain op_oLe op_oLe (pe_gint i_LEAST) (pv 1) (pe_gint i_MOST)) (pv 1) pe_non)))))), ?_⟩
    walk_at "f"
    refine g_isiF hk ?_
    walk_at "f"
    cases n with
    | i k =>
      have hn : v = .int k := hn
      subst hn
      refine iteT ?_
      walk_at "f"
      exact q H (Same.refl _)
    | f sg tp p =>
      obtain ⟨a, rfl, hf, ho⟩ := hn
      obtain ⟨dx, hd⟩ := id hf
      refine iteF ?_
      walk_at "f"
      refine ⟨a, dx, _, rfl, hd, rfl, ?_⟩
      walk_at "f"
      refine ⟨a, sg, tp, p, rfl, hf, ho, ?_⟩
      walk_at "f"
      rcases id ho.2 with ⟨rfl, _, _⟩ | ⟨rfl, _⟩ | ⟨m, rfl, hfin⟩
      · refine iteT ?_
        refine iteT ?_
        walk_at "f"
        exact q H (Same.refl _)
      · refine iteT ?_
        refine iteT ?_
        walk_at "f"
        exact q H (Same.refl _)
      · refine iteF ?_
        walk_at "f"
        refine g_ite (fun h1 => ?_) fun h1 => ?_
        · refine iteT ?_
          walk_at "f"
          have e : wholeN (.f sg (.int m) p) = none := if_pos (.inl h1)
          rw [e] at q
          exact q H (Same.refl _)
        · walk_at "f"
          refine g_ite (fun h2 => ?_) fun h2 => ?_
          · have e : wholeN (.f sg (.int m) p) = none := if_pos (.inr h2)
            rw [e] at q
            walk_at "f"
            exact q H (Same.refl _)
          · walk_at "f"
            refine ⟨a, dx, _, rfl, hd, rfl, ?_⟩
            walk_at "f"
            refine ⟨a, sg, m, p, rfl, hf, ho, fun H1 b nb s1 hb => ?_⟩
            walk_at "f"
            refine g_ixT hb rfl ?_
            have er : ratN sg m p = sg * (m * 2 ^ p.toNat) := if_neg h1
            rw [er]
            have e : wholeN (.f sg (.int m) p) = if -9223372036854775808 ≤ sg * (m * 2 ^ p.toNat) ∧ sg * (m * 2 ^ p.toNat) ≤ 9223372036854775807 then some (sg * (m * 2 ^ p.toNat)) else none := if_neg (fun z => z.elim h1 h2)
            rw [e] at q
            generalize sg * (m * 2 ^ p.toNat) = y at q ⊢
            walk_at "f"
            refine g_ite (fun h3 => ?_) fun h3 => ?_
            · walk_at "f"
              refine g_ite (fun h4 => ?_) fun h4 => ?_
              · rw [if_pos ⟨h3, h4⟩] at q
                walk_at "f"
                exact q _ s1
              · rw [if_neg (fun z => h4 z.2)] at q
                walk_at "f"
                exact q _ s1
            · rw [if_neg (fun z => h3 z.1)] at q
              walk_at "f"
              exact q _ s1
end
end Up

set_option Elab.async false
set_option linter.all false
set_option maxRecDepth 100000
set_option maxHeartbeats 4000000
set_option exponentiation.threshold 200000
namespace Up
open PySem PySem.Spec PyProof.Rows L2
local macro_rules | `(tactic| walk_at "u") => `(tactic| first
  | with_reducible refine g_seq ?_
  | with_reducible refine g_asg ?_
  | with_reducible refine g_op ?_
  | ((with_reducible show tVar _ _ _ _); apply g_var; exact rfl)
  | with_reducible refine g_c ?_
  | with_reducible refine g_name ?_
  | with_reducible refine g_ifs ?_
  | with_reducible refine g_tt ?_
  | with_reducible refine g_tB ?_
  | with_reducible refine g_bl ?_
  | with_reducible refine g_ret ?_
  | with_reducible refine g_cb ?_
  | with_reducible refine g_cons ?_
  | with_reducible refine g_nil ?_
  | with_reducible refine g_call ?_
  | with_reducible refine g_and ?_
  | with_reducible refine g_or ?_
  | with_reducible refine g_not ?_
  | with_reducible refine g_andV ?_
  | with_reducible refine g_orV ?_
  | with_reducible refine g_notV ?_
  | with_reducible refine g_if ?_
  | with_reducible refine g_un ?_
  | with_reducible refine g_neg ?_
  | with_reducible refine g_addI ?_
  | with_reducible refine g_subI ?_
  | with_reducible refine g_subB ?_
  | with_reducible refine g_I0 ?_
  | with_reducible refine g_cmpI ?_
  | with_reducible refine g_eqI ?_
  | with_reducible refine g_neI ?_
  | with_reducible refine g_eqS ?_
  | with_reducible refine g_neS ?_
  | with_reducible refine g_eqB ?_
  | with_reducible refine g_neB ?_
  | with_reducible refine g_bits ?_
  | with_reducible refine g_bitsI ?_
  | with_reducible refine g_fld ?_
  | with_reducible refine g_tup ?_
  | with_reducible refine g_lst ?_
  | with_reducible refine g_gtup ?_
  | with_reducible refine g_make ?_
  | with_reducible refine g_lc ?_
  | with_reducible refine g_yesT ?_
  | with_reducible refine g_intI ?_
  | with_reducible refine g_intB ?_
  | with_reducible refine g_max2 ?_
  | with_reducible refine g_abs1 ?_
  | with_reducible refine g_for ?_
  | with_reducible refine g_iList ?_
  | with_reducible refine g_iTup ?_
  | with_reducible refine g_iRng1 ?_
  | with_reducible refine g_iEnum ?_
  | with_reducible refine g_slice ?_
  | with_reducible refine g_po0 ?_
  | with_reducible refine g_po1 ?_
  | with_reducible refine g_gsub ?_
  | with_reducible refine g_par ?_
  | with_reducible refine g_par2 ?_
  | with_reducible refine g_rfl ?_
  | with_reducible refine g_meth ?_
  | with_reducible refine g_gcons ?_
  | with_reducible refine g_gnil ?_
  | with_reducible refine g_gfld ?_
  | with_reducible refine g_sfld ?_
  | with_reducible refine g_drop ?_
  | with_reducible refine g_next ?_
  | with_reducible refine iteT ?_
  | with_reducible refine iteF ?_)
local macro_rules | `(tactic| walk_at "go") => `(tactic| (repeat walk_at "u"))

section
variable {P : Program} {w : World} {K : PySem.W.Frag} {mg : Str → Option Value} {base : Heap} {C : Addr}
/-! is_number -/
theorem sc_isnumber : FnScope ["thing"] ["thing"] (defScope s_isnumber) := ⟨rfl, rfl, rfl, by decide +kernel, rfl, by decide +kernel, by decide +kernel⟩
def sp_isnumber (K : PySem.W.Frag) (C : Addr) : Sp := fun vs H Q _ => ∃ x t b, vs = [x] ∧ KnF K C H x t b ∧ Q (.bl (b || isI x)) H
theorem ok_isnumber {f : Addr} {fd : FuncData} (F : FunD K "is_number" "is_number" (defArgs s_isnumber) (defBody s_isnumber) (defScope s_isnumber) [] [] f fd) (B : Blt mg) (T : FlC K mg C) (c_isplain : Fn P w K mg base CX0 1 "is_plain" ["number"] [] (sp_isplain K)) : FnOk P w K mg base CX0 2 f fd ["thing"] (sp_isnumber K C) := by
  have g_Float : mg "Float" = some (.ref C) := T.mg
  refine F.ok sc_isnumber (fun vs H Q E h => ?_) (fun cdv A outer s H vs Q E hr h => ?_)
  · obtain ⟨x, t, b, rfl, _⟩ := h; rfl
  · obtain ⟨x, t, b, rfl, hk, q⟩ := h
    refine ⟨_, PSs.nox (pss_one (ps_ret (pe_or (pe_callB call_isi (by rfl) B.isinstance (by decide +kernel) (pa_cons (pv 0) (pa_cons (pe_gref g_Float) pa_nil))) (pe_one (pe_fn c_isplain (hr.mono (by first | decide | omega)) pass0 (pa_cons (pv 0) pa_nil)))))), ?_⟩
    walk_at "go"
    refine g_isiF hk ?_
    walk_at "go"
    cases b
    · refine iteF ?_
      walk_at "go"
      exact ⟨x, t, rfl, hk.kn, q⟩
    · refine iteT ?_
      exact q
end
end Up

set_option Elab.async false
set_option linter.all false
set_option pp.maxSteps 900
set_option maxRecDepth 100000
set_option maxHeartbeats 4000000
set_option exponentiation.threshold 200000
namespace Up
open PySem PySem.Spec PyProof.Rows L2
local macro_rules | `(tactic| walk_at "u") => `(tactic| first
  | with_reducible refine g_seq ?_
  | with_reducible refine g_asg ?_
  | with_reducible refine g_op ?_
  | ((with_reducible show tVar _ _ _ _); apply g_var; exact rfl)
  | with_reducible refine g_c ?_
  | with_reducible refine g_name ?_
  | with_reducible refine g_ifs ?_
  | with_reducible refine g_tt ?_
  | with_reducible refine g_tB ?_
  | with_reducible refine g_bl ?_
  | with_reducible refine g_ret ?_
  | with_reducible refine g_cb ?_
  | with_reducible refine g_cons ?_
  | with_reducible refine g_nil ?_
  | with_reducible refine g_call ?_
  | with_reducible refine g_and ?_
  | with_reducible refine g_or ?_
  | with_reducible refine g_not ?_
  | with_reducible refine g_andV ?_
  | with_reducible refine g_orV ?_
  | with_reducible refine g_notV ?_
  | with_reducible refine g_if ?_
  | with_reducible refine g_un ?_
  | with_reducible refine g_neg ?_
  | with_reducible refine g_addI ?_
  | with_reducible refine g_subI ?_
  | with_reducible refine g_subB ?_
  | with_reducible refine g_I0 ?_
  | with_reducible refine g_cmpI ?_
  | with_reducible refine g_eqI ?_
  | with_reducible refine g_neI ?_
  | with_reducible refine g_eqS ?_
  | with_reducible refine g_neS ?_
  | with_reducible refine g_eqB ?_
  | with_reducible refine g_neB ?_
  | with_reducible refine g_bits ?_
  | with_reducible refine g_bitsI ?_
  | with_reducible refine g_fld ?_
  | with_reducible refine g_tup ?_
  | with_reducible refine g_lst ?_
  | with_reducible refine g_gtup ?_
  | with_reducible refine g_make ?_
  | with_reducible refine g_lc ?_
  | with_reducible refine g_yesT ?_
  | with_reducible refine g_intI ?_
  | with_reducible refine g_intB ?_
  | with_reducible refine g_max2 ?_
  | with_reducible refine g_abs1 ?_
  | with_reducible refine g_for ?_
  | with_reducible refine g_iList ?_
  | with_reducible refine g_iTup ?_
  | with_reducible refine g_iRng1 ?_
  | with_reducible refine g_iEnum ?_
  | with_reducible refine g_slice ?_
  | with_reducible refine g_po0 ?_
  | with_reducible refine g_po1 ?_
  | with_reducible refine g_gsub ?_
  | with_reducible refine g_par ?_
  | with_reducible refine g_par2 ?_
  | with_reducible refine g_rfl ?_
  | with_reducible refine g_meth ?_
  | with_reducible refine g_gcons ?_
  | with_reducible refine g_gnil ?_
  | with_reducible refine g_gfld ?_
  | with_reducible refine g_sfld ?_
  | with_reducible refine g_drop ?_
  | with_reducible refine g_next ?_
  | with_reducible refine iteT ?_
  | with_reducible refine iteF ?_)
local macro_rules | `(tactic| walk_at "go") => `(tactic| (repeat walk_at "u"))
local macro_rules | `(tactic| walk_at "f") => `(tactic| (repeat (first
  | walk_at "u"
  | with_reducible refine g_chain ?_
  | with_reducible refine g_par3 ?_
  | with_reducible refine g_par3' ?_
  | ((with_reducible refine show_ex ?_); first
    | refine fT (by assumption) (by assumption) ?_
    | refine fS (by assumption) (by assumption) ?_
    | refine fP (by assumption) (by assumption) ?_))))

section
variable {P : Program} {w : World} {K : PySem.W.Frag} {mg : Str → Option Value} {base : Heap} {C CI L : Addr} {H : Hp} {Q : VK}
theorem red_half {m : Nat} (h0 : m ≠ 0) (h : m % 2 = 0) (k : Int) : redV (.int ((m / 2 : Nat) : Int)) (k + 1) = redV (.int (m : Nat)) k := by
  rw [red_nat h0, red_nat (show m / 2 ≠ 0 by omega), tz_even h0 h, Nat.div_div_eq_div_mul, Nat.pow_succ, Nat.mul_comm 2]
  congr 1
  omega
theorem red_odd {m : Nat} (h : m % 2 = 1) (k : Int) : redV (.int (m : Nat)) k = (.int (m : Nat), k) := by
  rw [red_nat (by omega), tz_odd h]
  simp
theorem sc_Lodd : FnScope ["_law_top", "_law_power"] ["_law_top", "_law_power"] (defScope s_Lodd) := ⟨rfl, rfl, rfl, by decide +kernel, rfl, by decide +kernel, by decide +kernel⟩
def sp_Lodd : Sp := fun vs H Q _ => ∃ (n : Nat) (p : Int), vs = [.int n, .int p] ∧ n < 2 ^ 200 ∧ RetT H [(redV (.int n) p).1, .int (redV (.int n) p).2] Q
theorem ok_Lodd {f : Addr} {fd : FuncData} (F : FunD K "_law_odd" "_law_odd" (defArgs s_Lodd) (defBody s_Lodd) (defScope s_Lodd) [] [] f fd) (B : Blt mg) : FnOk P w K mg base CX0 1 f fd ["_law_top", "_law_power"] sp_Lodd := by
  refine F.ok sc_Lodd (fun vs H Q E h => ?_) (fun cdv A outer s H vs Q E hr h => ?_)
  · obtain ⟨_, _, rfl, _⟩ := h; rfl
  · obtain ⟨n, p, rfl, hn, q⟩ := h
    refine ⟨_, PSs.nox (pss_cons (ps_if (pt_cmpR (op_oEq hr.units) (pv 0) pe_int (nomark _)) (pss_one (ps_ret (pe_tupN (pa_cons pe_int (pa_cons pe_int pa_nil))))) pss_nil)
  (pss_cons (ps_while PassesOwn.never (pt_cmpR (op_oEq hr.units) (pe_op op_oMod (pe_callTy call_int1 (by rfl) B.int (by decide +kernel) (pa_cons (pv 0) pa_nil)) pe_int) pe_int (nomark _))
    (pss_one (ps_par (i := 0) (j := 1) rfl sc_Lodd.nd rfl rfl (by decide) rfl rfl (pa_cons (pe_op op_oDiv (pv 0) pe_int) (pa_cons (pe_op op_oAdd (pv 1) pe_int) pa_nil)) (by rfl))))
  (pss_one (ps_ret (pe_tupN (pa_cons (pv 0) (pa_cons (pv 1) pa_nil))))))), ?_⟩
    walk_at "f"
    refine g_ite (fun h1 => ?_) fun h1 => ?_
    · walk_at "f"
      refine g_new (sz rfl) fun a H1 na s1 ha _ => ?_
      have e : n = 0 := by omega
      subst e
      exact q _ _ na s1 ha
    · walk_at "f"
      refine g_while (fun m σ' H' => ∃ k, m ≠ 0 ∧ m ≤ n ∧ redV (.int (m : Nat)) k = redV (.int (n : Nat)) p ∧ H' = H ∧ σ' = [some (.int (m : Nat)), some (.int k)]) n ⟨p, by omega, Nat.le_refl _, rfl, rfl, rfl⟩ ?_
      rintro m _ _ ⟨k, m0, mn, e, rfl, rfl⟩
      walk_at "f"
      refine g_modI (by decide) ?_
      walk_at "f"
      rw [Int.fmod_eq_emod_of_nonneg _ (by decide)]
      refine g_ite (fun h2 => ?_) fun h2 => ?_
      · refine g_wbody ?_
        walk_at "f"
        refine g_divI (by decide) (by decide) ?_
        walk_at "f"
        rw [show (2 : Int) = ((2 : Nat) : Int) from rfl, fdiv_nat]
        walk_at "f"
        have e2 : m % 2 = 0 := by omega
        exact ⟨m / 2, by omega, k + 1, by omega, by omega, (red_half m0 e2 k).trans e, rfl, rfl⟩
      · walk_at "f"
        refine g_new (sz rfl) fun a H1 na s1 ha _ => ?_
        rw [← e, red_odd (by omega)] at q
        exact q _ _ na s1 ha
theorem sc_Lisfloat : FnScope ["_law_top", "_law_power", "_law_bits"] ["_law_top", "_law_power"] (defScope s_Lisfloat) := ⟨rfl, rfl, rfl, by decide +kernel, rfl, by decide +kernel, by decide +kernel⟩
def sp_Lisfloat : Sp := fun vs H Q _ => ∃ (m : Nat) (p : Int), vs = [.int m, .int p] ∧ Q (.bl (fitsB m p)) H
theorem ok_Lisfloat {f : Addr} {fd : FuncData} (F : FunD K "_law_is_float" "_law_is_float" (defArgs s_Lisfloat) (defBody s_Lisfloat) (defScope s_Lisfloat) [] [] f fd) (B : Blt mg) : FnOk P w K mg base CX0 1 f fd ["_law_top", "_law_power"] sp_Lisfloat := by
  refine F.ok sc_Lisfloat (fun vs H Q E h => ?_) (fun cdv A outer s H vs Q E hr h => ?_)
  · obtain ⟨_, _, rfl, _⟩ := h; rfl
  · obtain ⟨m, p, rfl, q⟩ := h
    refine ⟨_, PSs.nox (pss_cons (ps_set (i := 2) sc_Lisfloat.nd rfl (Or.inl rfl) (pe_bits (pv 0)))
  (pss_one (ps_ret (pe_or (pe_cmpR (op_oEq hr.units) (pv 0) pe_int (nomark _)) (pe_one (pe_and (pe_cmpR op_oGe (pv 1) (pe_un un_neg pe_int) (nomark _)) (pe_and (pe_cmpR op_oLe (pv 2) pe_int (nomark _)) (pe_one (pe_cmpR op_oLe (pe_op op_oAdd (pv 2) (pv 1)) pe_int (nomark _)))))))))), ?_⟩
    walk_at "f"
    have eb : ((Builtin.Int.intBits (m : Nat) : Nat) : Int) = (bitsN m : Nat) := by rw [intBits_nat]
    have b53 : (bitsN m : Int) ≤ 53 ↔ (m : Int) < 9007199254740992 := by
      constructor
      · intro h
        have := bits_lt m
        have : (2 : Nat) ^ bitsN m ≤ 2 ^ 53 := Nat.pow_le_pow_right (by decide) (by omega)
        omega
      · intro h
        have := bits_le (n := m) (k := 53) (by omega)
        omega
    unfold fitsB at q
    rw [eb] at q ⊢
    refine g_ite (fun h1 => ?_) fun h1 => ?_
    · rw [decide_eq_true h1, Bool.or_true] at q
      exact q
    · rw [decide_eq_false h1, Bool.or_false] at q
      walk_at "f"
      refine g_ite (fun h2 => ?_) fun h2 => ?_
      · rw [decide_eq_true (show -1074 ≤ p from h2), Bool.true_and] at q
        walk_at "f"
        refine g_ite (fun h3 => ?_) fun h3 => ?_
        · rw [decide_eq_true (b53.mp h3), Bool.true_and] at q
          walk_at "f"
          exact q
        · rw [decide_eq_false (fun z => h3 (b53.mpr z)), Bool.false_and] at q
          exact q
      · rw [decide_eq_false (show ¬ -1074 ≤ p from h2), Bool.false_and, Bool.and_false] at q
        exact q
end
end Up

set_option Elab.async false
set_option linter.all false
set_option pp.maxSteps 900
set_option maxRecDepth 100000
set_option maxHeartbeats 4000000
set_option exponentiation.threshold 200000
namespace Up
open PySem PySem.Spec PyProof.Rows L2
local macro_rules | `(tactic| walk_at "u") => `(tactic| first
  | with_reducible refine g_seq ?_
  | with_reducible refine g_asg ?_
  | with_reducible refine g_op ?_
  | ((with_reducible show tVar _ _ _ _); apply g_var; exact rfl)
  | with_reducible refine g_c ?_
  | with_reducible refine g_name ?_
  | with_reducible refine g_ifs ?_
  | with_reducible refine g_tt ?_
  | with_reducible refine g_tB ?_
  | with_reducible refine g_bl ?_
  | with_reducible refine g_ret ?_
  | with_reducible refine g_cb ?_
  | with_reducible refine g_cons ?_
  | with_reducible refine g_nil ?_
  | with_reducible refine g_call ?_
  | with_reducible refine g_and ?_
  | with_reducible refine g_or ?_
  | with_reducible refine g_not ?_
  | with_reducible refine g_andV ?_
  | with_reducible refine g_orV ?_
  | with_reducible refine g_notV ?_
  | with_reducible refine g_if ?_
  | with_reducible refine g_un ?_
  | with_reducible refine g_neg ?_
  | with_reducible refine g_addI ?_
  | with_reducible refine g_subI ?_
  | with_reducible refine g_subB ?_
  | with_reducible refine g_I0 ?_
  | with_reducible refine g_cmpI ?_
  | with_reducible refine g_eqI ?_
  | with_reducible refine g_neI ?_
  | with_reducible refine g_eqS ?_
  | with_reducible refine g_neS ?_
  | with_reducible refine g_eqB ?_
  | with_reducible refine g_neB ?_
  | with_reducible refine g_bits ?_
  | with_reducible refine g_bitsI ?_
  | with_reducible refine g_fld ?_
  | with_reducible refine g_tup ?_
  | with_reducible refine g_lst ?_
  | with_reducible refine g_gtup ?_
  | with_reducible refine g_make ?_
  | with_reducible refine g_lc ?_
  | with_reducible refine g_yesT ?_
  | with_reducible refine g_intI ?_
  | with_reducible refine g_intB ?_
  | with_reducible refine g_max2 ?_
  | with_reducible refine g_abs1 ?_
  | with_reducible refine g_for ?_
  | with_reducible refine g_iList ?_
  | with_reducible refine g_iTup ?_
  | with_reducible refine g_iRng1 ?_
  | with_reducible refine g_iEnum ?_
  | with_reducible refine g_slice ?_
  | with_reducible refine g_po0 ?_
  | with_reducible refine g_po1 ?_
  | with_reducible refine g_gsub ?_
  | with_reducible refine g_par ?_
  | with_reducible refine g_par2 ?_
  | with_reducible refine g_rfl ?_
  | with_reducible refine g_meth ?_
  | with_reducible refine g_gcons ?_
  | with_reducible refine g_gnil ?_
  | with_reducible refine g_gfld ?_
  | with_reducible refine g_sfld ?_
  | with_reducible refine g_drop ?_
  | with_reducible refine g_next ?_
  | with_reducible refine iteT ?_
  | with_reducible refine iteF ?_)
local macro_rules | `(tactic| walk_at "go") => `(tactic| (repeat walk_at "u"))
local macro_rules | `(tactic| walk_at "f") => `(tactic| (repeat (first
  | walk_at "u"
  | with_reducible refine g_chain ?_
  | with_reducible refine g_par3 ?_
  | with_reducible refine g_par3' ?_
  | ((with_reducible refine show_ex ?_); first
    | refine fT (by assumption) (by assumption) ?_
    | refine fS (by assumption) (by assumption) ?_
    | refine fP (by assumption) (by assumption) ?_))))

section
variable {P : Program} {w : World} {K : PySem.W.Frag} {mg : Str → Option Value} {base : Heap} {C CI L : Addr} {H : Hp} {Q : VK}
def RowQ (H : Hp) (v : V) : Prop := ∃ (b : Addr) (n : Nat) (k : Int), v = .ref b ∧ H b = some (.tup [.int (n : Nat), .int k]) ∧ n < 2 ^ 70
def AllQ (H : Hp) (xs : List V) : Prop := ∀ v ∈ xs, RowQ H v
theorem RowQ.same {H H' : Hp} {v : V} (h : RowQ H v) (s : Same H H') : RowQ H' v := by
  obtain ⟨b, n, k, e, hb, hn⟩ := h
  exact ⟨b, n, k, e, s _ _ hb, hn⟩
theorem AllQ.same {H H' : Hp} {xs : List V} (h : AllQ H xs) (s : Same H H') : AllQ H' xs := fun v m => (h v m).same s
theorem AllQ.snoc {H : Hp} {xs : List V} {v : V} (h : AllQ H xs) (r : RowQ H v) : AllQ H (xs ++ [v]) := fun u m => by
  rcases List.mem_append.mp m with m | m
  · exact h u m
  · rw [List.mem_singleton.mp m]; exact r
theorem AllQ.app {H : Hp} {xs ys : List V} (h : AllQ H xs) (g : AllQ H ys) : AllQ H (xs ++ ys) := fun u m => (List.mem_append.mp m).elim (h u) (g u)
theorem g_neTp {a b : Addr} {x : FL} (ha : H a = some (.tup [.int x.s, x.t, .int x.p])) (hb : H b = some (.tup [.int x.s, x.t, .int x.p])) (ox : x.ok) (q : Q (.bl false) H) : oNe K (.ref a) (.ref b) H Q := by
  refine .inr ⟨tpD x, tpD x, .tup (SqT.of ha) (.cons (.int _) (.cons ox.is.dp (.cons (.int _) .nil))), .tup (SqT.of hb) (.cons (.int _) (.cons ox.is.dp (.cons (.int _) .nil))), tp_shape ox, tp_shape ox, ?_⟩
  rw [tp_eqv ox ox, eqL_refl]
  exact q
theorem g_new9 {o : HO} (h : ∀ a H', H a = none → Same H H' → H' a = some o → Q (.ref a) H') : NewAt H o Q := fun a H' n s e _ => h a H' n s e
theorem sc_Ledgesright : FnScope ["_law_well_here", "_law_sign", "_law_top", "_law_power", "_law_rows", "_law_some", "_law_far", "_law_kept", "_law_told"] ["_law_well_here"] (defScope s_Ledgesright) := ⟨rfl, rfl, rfl, by decide +kernel, rfl, by decide +kernel, by decide +kernel⟩
def sp_Ledges : Sp := fun vs H Q _ => ∃ a, vs = [.ref a] ∧ Well H a ∧ ∀ H', Stp a H H' → Well H' a → Q (.bl true) H'
theorem ok_Ledges {f : Addr} {fd : FuncData} (F : FunD K "_law_edges_right" "_law_edges_right" (defArgs s_Ledgesright) (defBody s_Ledgesright) (defScope s_Ledgesright) [] [] f fd) (B : Blt mg) (T : FlC K mg C) (c_Ldraw : Fn P w K mg base CX0 1 "_law_draw" ["_law_well_here", "_law_many"] [] sp_Ldraw) (c_Lone : Fn P w K mg base CX0 2 "_law_one" ["_law_well_here", "_law_some"] [] sp_Lone)
    (c_Lgreat : Fn P w K mg base CX0 2 "_law_great" ["_law_well_here", "_law_bits"] [] sp_Lgreat) (c_Lodd : Fn P w K mg base CX0 1 "_law_odd" ["_law_top", "_law_power"] [] sp_Lodd) (c_Lisfloat : Fn P w K mg base CX0 1 "_law_is_float" ["_law_top", "_law_power"] [] sp_Lisfloat)
    (c_Lsaid : Fn P w K mg base CX0 5 "_law_said" ["_law_sign", "_law_top", "_law_power"] [] (sp_Lsaid K C)) (c_isnumber : Fn P w K mg base CX0 2 "is_number" ["thing"] [] (sp_isnumber K C)) : FnOk P w K mg base CX0 6 f fd ["_law_well_here"] sp_Ledges := by
  refine F.ok sc_Ledgesright (fun vs H Q E h => ?_) (fun cdv A outer s H vs Q E hr h => ?_)
  · obtain ⟨_, rfl, _⟩ := h; rfl
  · obtain ⟨wl, rfl, hw, q⟩ := h
    refine ⟨_, PSs.nox (pss_cons (ps_par (i := 1) (j := 2) rfl sc_Ledgesright.nd rfl rfl (by decide) rfl rfl (pa_cons (pe_fn c_Lone (hr.mono (by first | decide | omega)) pass0 (pa_cons (pv 0) (pa_cons (pe_lstN (pa_cons pe_int (pa_cons (pe_un un_neg pe_int) pa_nil))) pa_nil))) (pa_cons (pe_fn c_Lgreat (hr.mono (by first | decide | omega)) pass0 (pa_cons (pv 0) (pa_cons pe_int pa_nil))) pa_nil)) (by rfl))
  (pss_cons (ps_set (i := 3) sc_Ledgesright.nd rfl (Or.inl rfl) (pe_op op_oSub (pe_fn c_Ldraw (hr.mono (by first | decide | omega)) pass0 (pa_cons (pv 0) (pa_cons pe_int pa_nil))) pe_int))
  (pss_cons (ps_set (i := 4) sc_Ledgesright.nd rfl (Or.inl rfl) (pe_lstN (pa_cons (pe_tupN (pa_cons (pv 2) (pa_cons (pv 3) pa_nil))) (pa_cons (pe_tupN (pa_cons (pv 2) (pa_cons (pe_un un_neg pe_int) pa_nil))) (pa_cons (pe_tupN (pa_cons (pe_op op_oAdd (pe_op op_oMul (pv 2) pe_int) pe_int) (pa_cons (pe_un un_neg pe_int) pa_nil))) pa_nil)))))
  (pss_cons (ps_set (i := 4) sc_Ledgesright.nd rfl (Or.inl rfl) (pe_op op_oAdd (pv 4) (pe_lstN (pa_cons (pe_tupN (pa_cons pe_int (pa_cons (pe_un un_neg pe_int) pa_nil))) (pa_cons (pe_tupN (pa_cons pe_int (pa_cons (pe_un un_neg pe_int) pa_nil))) (pa_cons (pe_tupN (pa_cons pe_int (pa_cons (pe_un un_neg pe_int) pa_nil))) pa_nil))))))
  (pss_cons (ps_set (i := 4) sc_Ledgesright.nd rfl (Or.inl rfl) (pe_op op_oAdd (pv 4) (pe_lstN (pa_cons (pe_tupN (pa_cons (pe_op op_oSub (pe_op op_oShl pe_int pe_int) pe_int) (pa_cons pe_int pa_nil))) (pa_cons (pe_tupN (pa_cons (pe_op op_oShl pe_int pe_int) (pa_cons pe_int pa_nil))) (pa_cons (pe_tupN (pa_cons (pe_op op_oAdd (pe_op op_oShl pe_int pe_int) pe_int) (pa_cons pe_int pa_nil))) (pa_cons (pe_tupN (pa_cons pe_int (pa_cons pe_int pa_nil))) (pa_cons (pe_tupN (pa_cons pe_int (pa_cons pe_int pa_nil))) pa_nil))))))))
  (pss_cons (ps_set (i := 4) sc_Ledgesright.nd rfl (Or.inl rfl) (pe_op op_oAdd (pv 4) (pe_lstN (pa_cons (pe_tupN (pa_cons (pe_op op_oSub (pe_op op_oShl pe_int pe_int) pe_int) (pa_cons (pe_un un_neg pe_int) pa_nil))) (pa_cons (pe_tupN (pa_cons pe_int (pa_cons (pe_op op_oPow pe_int pe_int) pa_nil))) (pa_cons (pe_tupN (pa_cons pe_int (pa_cons (pe_un un_neg pe_int) pa_nil))) pa_nil))))))
  (pss_cons (ps_for PassesOwn.never rfl (pi_list (pv 4)) (pg_tup rfl (pgs_cons (pg_name (i := 5) sc_Ledgesright.nd rfl (Or.inl rfl)) (pgs_cons (pg_name (i := 6) sc_Ledgesright.nd rfl (Or.inl rfl)) pgs_nil)))
    (pss_cons (ps_set (i := 7) sc_Ledgesright.nd rfl (Or.inl rfl) (pe_fn c_Lodd (hr.mono (by first | decide | omega)) pass0 (pa_cons (pv 5) (pa_cons (pv 6) pa_nil))))
  (pss_cons (ps_set (i := 8) sc_Ledgesright.nd rfl (Or.inl rfl) (pe_fn c_Lsaid (hr.mono (by first | decide | omega)) pass0 (pa_cons (pv 1) (pa_cons (pv 5) (pa_cons (pv 6) pa_nil)))))
  (pss_one (ps_if (pt_not (pt_val (pe_fn c_Lisfloat (hr.mono (by first | decide | omega)) pass0 (pa_cons (pe_ix ix_seq (pv 7) pe_int (fun _ _ => rfl)) (pa_cons (pe_ix ix_seq (pv 7) pe_int (fun _ _ => rfl)) pa_nil))))) (pss_one (ps_if (pt_cmpR (op_oNe hr.units) (pv 8) pe_str (nomark _)) (pss_one (ps_ret pe_bl)) pss_nil)) (pss_one (ps_if (PW.pt (pw_or (pt_not (pt_val (pe_fn c_isnumber (hr.mono (by first | decide | omega)) pass0 (pa_cons (pv 8) pa_nil)))) (pw_or1 (pt_cmpR (op_oNe hr.units) (pe_tupN (pa_cons (pe_fld (pv 8) rfl) (pa_cons (pe_fld (pv 8) rfl) (pa_cons (pe_fld (pv 8) rfl) pa_nil)))) (pe_op op_oAdd (pe_tupN (pa_cons (pv 1) pa_nil)) (pv 7)) (nomark _))))) (pss_one (ps_ret pe_bl)) pss_nil)))))))
  (pss_one (ps_ret pe_bl))))))))), ?_⟩
    walk_at "f"
    refine g_new (sz rfl) fun l1 H1 n1 s1 h1 _ => ?_
    refine ⟨wl, l1, _, rfl, hw.same s1, h1, hw.ne_none n1, by decide, by decide, fun v H2 hv s2 hw2 => ?_⟩
    have S0 := (Stp.of (w := wl) s1).trans s2
    obtain ⟨sg, rfl, hs⟩ : ∃ sg, v = .int sg ∧ (sg = 1 ∨ sg = -1) := by
      simp only [List.mem_cons, List.not_mem_nil, or_false] at hv
      rcases hv with rfl | rfl
      · exact ⟨_, rfl, .inl rfl⟩
      · exact ⟨_, rfl, .inr rfl⟩
    walk_at "f"
    refine ⟨wl, 60, rfl, by decide, by decide, hw2, fun tn H3 t0 t1 s3 hw3 => ?_⟩
    replace S0 := S0.trans s3
    have t1 : tn < 1152921504606846976 := t1
    obtain ⟨tn, rfl⟩ := Int.eq_ofNat_of_zero_le t0
    walk_at "f"
    refine ⟨wl, _, rfl, by decide, by decide, hw3, fun pw H0 p0 p1 s4 hw0 => ?_⟩
    replace S0 := S0.trans s4
    have S : Same H0 H0 := Same.refl _
    have hq : AllQ H0 [] := fun _ m => nomatch m
    have xq : AllQ H0 [] := fun _ m => nomatch m
    walk_at "f"
    walk_at "f"
    refine g_new (sz rfl) fun b1 H1 n1 s1 h1 _ => ?_
    replace S := S.trans s1
    replace hq := hq.same s1
    replace xq := xq.same s1
    replace xq := xq.snoc (v := .ref b1) ⟨b1, tn, (pw - 1200), rfl, h1, by omega⟩
    walk_at "f"
    walk_at "f"
    refine g_new (sz rfl) fun b2 H2 n2 s2 h2 _ => ?_
    replace S := S.trans s2
    replace hq := hq.same s2
    replace xq := xq.same s2
    replace xq := xq.snoc (v := .ref b2) ⟨b2, tn, (-1074), rfl, h2, by omega⟩
    walk_at "f"
    refine g_mulI (.of_right (by decide)) ?_
    walk_at "f"
    rw [show ((tn : Nat) : Int) * 2 + 1 = ((tn * 2 + 1 : Nat) : Int) by omega]
    walk_at "f"
    refine g_new (sz rfl) fun b3 H3 n3 s3 h3 _ => ?_
    replace S := S.trans s3
    replace hq := hq.same s3
    replace xq := xq.same s3
    replace xq := xq.snoc (v := .ref b3) ⟨b3, (tn * 2 + 1), (-1074), rfl, h3, by omega⟩
    walk_at "f"
    refine g_new (sz rfl) fun l4 H4 n4 s4 h4 _ => ?_
    replace S := S.trans s4
    replace hq := hq.same s4
    replace xq := xq.same s4
    have hl := h4
    replace hq : AllQ H4 _ := xq
    replace xq : AllQ H4 [] := fun _ m => nomatch m
    have Tt : Same H4 H4 := Same.refl _
    walk_at "f"
    walk_at "f"
    refine g_new (sz rfl) fun b5 H5 n5 s5 h5 _ => ?_
    replace S := S.trans s5
    replace hq := hq.same s5
    replace xq := xq.same s5
    replace Tt := Tt.trans s5
    replace xq := xq.snoc (v := .ref b5) ⟨b5, 1, (-1074), rfl, h5, by decide⟩
    walk_at "f"
    walk_at "f"
    refine g_new (sz rfl) fun b6 H6 n6 s6 h6 _ => ?_
    replace S := S.trans s6
    replace hq := hq.same s6
    replace xq := xq.same s6
    replace Tt := Tt.trans s6
    replace xq := xq.snoc (v := .ref b6) ⟨b6, 1, (-1075), rfl, h6, by decide⟩
    walk_at "f"
    walk_at "f"
    refine g_new (sz rfl) fun b7 H7 n7 s7 h7 _ => ?_
    replace S := S.trans s7
    replace hq := hq.same s7
    replace xq := xq.same s7
    replace Tt := Tt.trans s7
    replace xq := xq.snoc (v := .ref b7) ⟨b7, 2, (-1075), rfl, h7, by decide⟩
    walk_at "f"
    refine g_new (sz rfl) fun l8 H8 n8 s8 h8 _ => ?_
    replace S := S.trans s8
    replace hq := hq.same s8
    replace xq := xq.same s8
    replace Tt := Tt.trans s8
    refine .inl ⟨l4, l8, _, _, rfl, rfl, SqL.of (Tt _ _ hl), SqL.of h8, sz rfl, fun l9 H9 n9 s9 h9 _ => ?_⟩
    replace S := S.trans s9
    replace hq := hq.same s9
    replace xq := xq.same s9
    replace Tt := Tt.trans s9
    replace hl := h9
    replace hq := hq.app xq
    replace xq : AllQ H9 [] := fun _ m => nomatch m
    replace Tt : Same H9 H9 := Same.refl _
    walk_at "f"
    refine g_II (shl_small (by decide) (by decide) (lt_pow_mono (a := 1) (by decide) (by decide))) ?_
    walk_at "f"
    rw [show (1 : Int) * 2 ^ Int.toNat 53 - 1 = ((9007199254740991 : Nat) : Int) by decide]
    walk_at "f"
    refine g_new (sz rfl) fun b10 H10 n10 s10 h10 _ => ?_
    replace S := S.trans s10
    replace hq := hq.same s10
    replace xq := xq.same s10
    replace Tt := Tt.trans s10
    replace xq := xq.snoc (v := .ref b10) ⟨b10, 9007199254740991, (971), rfl, h10, by decide⟩
    walk_at "f"
    refine g_II (shl_small (by decide) (by decide) (lt_pow_mono (a := 1) (by decide) (by decide))) ?_
    walk_at "f"
    rw [show (1 : Int) * 2 ^ Int.toNat 53 = ((9007199254740992 : Nat) : Int) by decide]
    walk_at "f"
    refine g_new (sz rfl) fun b11 H11 n11 s11 h11 _ => ?_
    replace S := S.trans s11
    replace hq := hq.same s11
    replace xq := xq.same s11
    replace Tt := Tt.trans s11
    replace xq := xq.snoc (v := .ref b11) ⟨b11, 9007199254740992, (971), rfl, h11, by decide⟩
    walk_at "f"
    refine g_II (shl_small (by decide) (by decide) (lt_pow_mono (a := 1) (by decide) (by decide))) ?_
    walk_at "f"
    rw [show (1 : Int) * 2 ^ Int.toNat 53 + 1 = ((9007199254740993 : Nat) : Int) by decide]
    walk_at "f"
    refine g_new (sz rfl) fun b12 H12 n12 s12 h12 _ => ?_
    replace S := S.trans s12
    replace hq := hq.same s12
    replace xq := xq.same s12
    replace Tt := Tt.trans s12
    replace xq := xq.snoc (v := .ref b12) ⟨b12, 9007199254740993, (0), rfl, h12, by decide⟩
    walk_at "f"
    walk_at "f"
    refine g_new (sz rfl) fun b13 H13 n13 s13 h13 _ => ?_
    replace S := S.trans s13
    replace hq := hq.same s13
    replace xq := xq.same s13
    replace Tt := Tt.trans s13
    replace xq := xq.snoc (v := .ref b13) ⟨b13, 1, (1023), rfl, h13, by decide⟩
    walk_at "f"
    walk_at "f"
    refine g_new (sz rfl) fun b14 H14 n14 s14 h14 _ => ?_
    replace S := S.trans s14
    replace hq := hq.same s14
    replace xq := xq.same s14
    replace Tt := Tt.trans s14
    replace xq := xq.snoc (v := .ref b14) ⟨b14, 1, (1024), rfl, h14, by decide⟩
    walk_at "f"
    refine g_new (sz rfl) fun l15 H15 n15 s15 h15 _ => ?_
    replace S := S.trans s15
    replace hq := hq.same s15
    replace xq := xq.same s15
    replace Tt := Tt.trans s15
    refine .inl ⟨l9, l15, _, _, rfl, rfl, SqL.of (Tt _ _ hl), SqL.of h15, sz rfl, fun l16 H16 n16 s16 h16 _ => ?_⟩
    replace S := S.trans s16
    replace hq := hq.same s16
    replace xq := xq.same s16
    replace Tt := Tt.trans s16
    replace hl := h16
    replace hq := hq.app xq
    replace xq : AllQ H16 [] := fun _ m => nomatch m
    replace Tt : Same H16 H16 := Same.refl _
    walk_at "f"
    refine g_II (shl_small (by decide) (by decide) (lt_pow_mono (a := 1) (by decide) (by decide))) ?_
    walk_at "f"
    rw [show (1 : Int) * 2 ^ Int.toNat 54 - 1 = ((18014398509481983 : Nat) : Int) by decide]
    walk_at "f"
    refine g_new (sz rfl) fun b17 H17 n17 s17 h17 _ => ?_
    replace S := S.trans s17
    replace hq := hq.same s17
    replace xq := xq.same s17
    replace Tt := Tt.trans s17
    replace xq := xq.snoc (v := .ref b17) ⟨b17, 18014398509481983, (-3), rfl, h17, by decide⟩
    walk_at "f"
    refine g_II ⟨by decide, by decide, by decide⟩ ?_
    walk_at "f"
    rw [show (10 : Int) ^ Int.toNat 9 = 1000000000 by decide]
    walk_at "f"
    refine g_new (sz rfl) fun b18 H18 n18 s18 h18 _ => ?_
    replace S := S.trans s18
    replace hq := hq.same s18
    replace xq := xq.same s18
    replace Tt := Tt.trans s18
    replace xq := xq.snoc (v := .ref b18) ⟨b18, 0, (1000000000), rfl, h18, by decide⟩
    walk_at "f"
    walk_at "f"
    refine g_new (sz rfl) fun b19 H19 n19 s19 h19 _ => ?_
    replace S := S.trans s19
    replace hq := hq.same s19
    replace xq := xq.same s19
    replace Tt := Tt.trans s19
    replace xq := xq.snoc (v := .ref b19) ⟨b19, 3, (-1075), rfl, h19, by decide⟩
    walk_at "f"
    refine g_new (sz rfl) fun l20 H20 n20 s20 h20 _ => ?_
    replace S := S.trans s20
    replace hq := hq.same s20
    replace xq := xq.same s20
    replace Tt := Tt.trans s20
    refine .inl ⟨l16, l20, _, _, rfl, rfl, SqL.of (Tt _ _ hl), SqL.of h20, sz rfl, fun l21 H21 n21 s21 h21 _ => ?_⟩
    replace S := S.trans s21
    replace hq := hq.same s21
    replace xq := xq.same s21
    replace Tt := Tt.trans s21
    replace hl := h21
    replace hq := hq.app xq
    replace xq : AllQ H21 [] := fun _ m => nomatch m
    replace Tt : Same H21 H21 := Same.refl _
    obtain ⟨xs, hl, hq, hlen⟩ : ∃ xs, H21 l21 = some (.lst xs) ∧ AllQ H21 xs ∧ xs.length ≤ 100 := ⟨_, hl, hq, by simp⟩
    walk_at "f"
    refine ⟨l21, rfl, ⟨_, SqL.of hl⟩, ?_⟩
    refine for_list (K := K) (a := l21) (xs := xs) (fun i σ' H' => ∃ e5 e6 e7 e8, σ' = [some (.ref wl), some (.int sg), some (.int tn), some (.int (pw - 1200)), some (.ref l21), e5, e6, e7, e8] ∧ Same H21 H') ⟨_, _, _, _, rfl, Same.refl _⟩ ?_ ?_ ?_
    · rintro i _ H' _ ⟨_, _, _, _, _, sH⟩
      exact SqL.of (sH _ _ hl)
    · rintro i z _ H4 hz ⟨e5, e6, e7, e8, rfl, u4⟩
      obtain ⟨b, n, k, rfl, hb, hn⟩ := (hq z (List.mem_of_getElem? hz)).same u4
      refine ⟨b, _, rfl, SqT.of hb, rfl, ?_⟩
      walk_at "f"
      refine ⟨n, k, rfl, Nat.lt_of_lt_of_le hn (Nat.pow_le_pow_right (by decide) (by decide)), fun H5 a5 n5 u5 h5 => ?_⟩
      have S5 := u4.trans u5
      obtain ⟨m, hm⟩ : ∃ m : Nat, (redV (.int (n : Nat)) k).1 = .int (m : Nat) := by
        by_cases n0 : n = 0
        · subst n0; exact ⟨0, rfl⟩
        · rw [red_nat n0]; exact ⟨_, rfl⟩
      rw [hm] at h5
      have hfit : fitR n k = fitsB m (redV (.int (n : Nat)) k).2 := by
        unfold fitR
        rw [hm]
      walk_at "f"
      refine ⟨.int sg, .int (n : Nat), .int k, _, _, _, rfl, kn_int, kn_int, kn_int, ?_⟩
      have hs2 : V.int sg = .int 1 ∨ V.int sg = .int (-1) := hs.imp (fun z => by rw [z]) fun z => by rw [z]
      have ho : outF (.int sg) (.int (n : Nat)) (.int k) = (if fitR n k = true then none else some ("top" : Str)) := (out_go hs2).trans (if_neg (by omega))
      unfold SaidR
      cases hf : fitR n k with
      | false =>
        rw [hf] at ho hfit
        rw [ho]
        intro H6 u6
        walk_at "f"
        refine g_ixT (u6 _ _ h5) (atI_of (by decide) rfl) ?_
        walk_at "f"
        refine g_ixT (u6 _ _ h5) (atI_of (by decide) rfl) ?_
        walk_at "f"
        refine ⟨m, _, rfl, ?_⟩
        rw [← hfit]
        walk_at "f"
        refine g_nf ?_
        walk_at "f"
        rw [decide_eq_true rfl]
        refine g_nt ?_
        walk_at "f"
        exact ⟨_, _, _, _, rfl, S5.trans u6⟩
      | true =>
        rw [hf] at ho hfit
        rw [ho]
        intro i' k' H6 a6 e1 e2 u6 f6
        cases e1
        cases e2
        rw [hm] at f6
        walk_at "f"
        refine g_ixT (u6 _ _ h5) (atI_of (by decide) rfl) ?_
        walk_at "f"
        refine g_ixT (u6 _ _ h5) (atI_of (by decide) rfl) ?_
        walk_at "f"
        refine ⟨m, _, rfl, ?_⟩
        rw [← hfit]
        walk_at "f"
        refine g_nt ?_
        walk_at "f"
        have ok : FlOk sg (.int (m : Nat)) (redV (.int (n : Nat)) k).2 := by
          have mk : MkOk sg (.int (n : Nat)) k := ⟨hs, .inr (.inr ⟨n, rfl, m, hm, hfit.symm⟩)⟩
          have := mk_flok mk
          rw [hm] at this
          exact this
        refine ⟨_, _, true, rfl, kf_fl T f6, ?_⟩
        walk_at "f"
        refine g_nt ?_
        walk_at "f"
        refine g_new (sz rfl) fun a7 H7 n7 u7 h7 _ => ?_
        walk_at "f"
        refine g_new (sz rfl) fun a8 H8 n8 u8 h8 _ => ?_
        walk_at "f"
        refine .inr ⟨a8, a5, _, _, rfl, rfl, SqT.of h8, SqT.of (u8 _ _ (u7 _ _ (u6 _ _ h5))), sz rfl, by simp, by simp, ?_⟩
        refine g_new9 fun a9 H9 n9 u9 h9 => ?_
        refine g_neTp (x := ⟨sg, .int (m : Nat), (redV (.int (n : Nat)) k).2⟩) (u9 _ _ (u8 _ _ h7)) h9 ok ?_
        walk_at "f"
        exact ⟨_, _, _, _, rfl, ((((S5.trans u6).trans u7).trans u8).trans u9)⟩
    · rintro _ H4 ⟨e5, e6, e7, e8, rfl, u4⟩
      walk_at "f"
      exact q _ (S0.trans (Stp.of (S.trans u4))) (hw0.same (S.trans u4))
end
end Up

set_option Elab.async false
set_option linter.all false
set_option pp.maxSteps 600
set_option maxRecDepth 100000
set_option maxHeartbeats 4000000
namespace Up
open PySem PySem.Spec PyProof.Rows L2 PySem.SeqAt HN
/-! ### == and != of instances of classes without an own __eq__, beside anything -/
structure IdCs (K : PySem.W.Frag) (Cs : List Addr) : Prop where
  id : ∀ C ∈ Cs, IdC K C
  ne : ∀ C ∈ Cs, PySem.W.findIn K (.ref C) "__ne__" = some (some (.builtin "object.__ne__"))
  sub : ∀ C ∈ Cs, ∀ C' ∈ Cs, C ≠ C' → PySem.W.subIn K (.ref C) (.ref C') = some false
  subT : ∀ C ∈ Cs, ∀ t ∈ (["NoneType", "bool", "int", "str"] : List String), PySem.W.subIn K (.ref C) (.type t) = some false
/-- None, a truth, an int, a text -/
inductive ScV : V → Value → String → Prop where
  | non : ScV .non .none "NoneType"
  | bl (b : Bool) : ScV (.bl b) (.bool b) "bool"
  | int (i : Int) (t : Tok) : ScV (.int i) (.int i t) "int"
  | str (z : Str) (t : Tok) : ScV (.str z) (.str z t) "str"
def isSc : V → Bool
  | .non => true
  | .bl _ => true
  | .int _ => true
  | .str _ => true
  | _ => false
theorem sc_of {x : V} {v : Value} (h : isSc x = true) (r : RelV x v) : ∃ t, ScV x v t := by
  cases x with
  | non => cases r; exact ⟨_, .non⟩
  | bl b => cases r; exact ⟨_, .bl b⟩
  | int i => obtain ⟨t, rfl⟩ := r; exact ⟨_, .int i t⟩
  | str z => obtain ⟨t, rfl⟩ := r; exact ⟨_, .str z t⟩
  | _ => cases h
theorem ScV.mem {x : V} {v : Value} {t : String} (h : ScV x v t) : t ∈ (["NoneType", "bool", "int", "str"] : List String) := by cases h <;> simp
theorem ScV.ty {x : V} {v : Value} {t : String} (h : ScV x v t) (s : Shared) : s.TypeIs v t := by
  cases h with
  | non => rfl
  | bl b => rfl
  | int i tk => exact typeIs_int s i tk
  | str i tk => exact typeIs_str s i tk
theorem bool_ne_ins (b : Bool) (l : Addr) (c : Value) (dd : Option Addr) (sl : Array (Option Value)) :
    Meets (Builtin.«int.__ne__» ⟨[.bool b, .ref l], []⟩) (fun _ R s => s.heap.get? l = some { cls := c, dict := dd, data := .plain, slots := sl } ∧ R (.ok (.ret .notImplemented)) s) :=
  .of_wp fun prog w A R s h => by obtain ⟨hp, g, d, tk, os⟩ := s; obtain ⟨hl, h⟩ := h; wp_walk using wpAny_loadPart' hl, wpAny_load hl; exact ⟨_, rfl, h⟩
theorem str_ne_ins (b : Str) (u : Tok) (l : Addr) (c : Value) (dd : Option Addr) (sl : Array (Option Value)) :
    Meets (Builtin.«str.__ne__» ⟨[.str b u, .ref l], []⟩) (fun _ R s => s.heap.get? l = some { cls := c, dict := dd, data := .plain, slots := sl } ∧ R (.ok (.ret .notImplemented)) s) :=
  .of_wp fun prog w A R s h => by obtain ⟨hp, g, d, tk, os⟩ := s; obtain ⟨hl, h⟩ := h; wp_walk using wpAny_loadPart' hl, wpAny_load hl; exact ⟨_, rfl, h⟩
theorem bool_eq_ins (b : Bool) (l : Addr) (c : Value) (dd : Option Addr) (sl : Array (Option Value)) :
    Meets (Builtin.«int.__eq__» ⟨[.bool b, .ref l], []⟩) (fun _ R s => s.heap.get? l = some { cls := c, dict := dd, data := .plain, slots := sl } ∧ R (.ok (.ret .notImplemented)) s) :=
  .of_wp fun prog w A R s h => by obtain ⟨hp, g, d, tk, os⟩ := s; obtain ⟨hl, h⟩ := h; wp_walk using wpAny_loadPart' hl, wpAny_load hl; exact ⟨_, rfl, h⟩
theorem str_eq_ins (b : Str) (u : Tok) (l : Addr) (c : Value) (dd : Option Addr) (sl : Array (Option Value)) :
    Meets (Builtin.«str.__eq__» ⟨[.str b u, .ref l], []⟩) (fun _ R s => s.heap.get? l = some { cls := c, dict := dd, data := .plain, slots := sl } ∧ R (.ok (.ret .notImplemented)) s) :=
  .of_wp fun prog w A R s h => by obtain ⟨hp, g, d, tk, os⟩ := s; obtain ⟨hl, h⟩ := h; wp_walk using wpAny_loadPart' hl, wpAny_load hl; exact ⟨_, rfl, h⟩
section
variable {prog : Program} {w : World} {A : Around} {E : Value → Shared → Prop} {s : Shared} {K : PySem.W.Frag} {a b C C' : Addr} {ox oy : Obj} {od oe : Option Obj} {x : V} {v : Value} {t : String} {dx : Addr}
/-- the scalar's own method declines -/
theorem sc_ne {Q : Option Value → Shared → Prop} (h : ScV x v t) (ho : s.heap.get? b = some (PySem.W.instObj C dx)) (q : Q none s) : wpAny (model prog w) A (tryCompare v "__ne__" (.ref b)) Q E s := by
  cases h with
  | non => exact wpAny_tryCompare_declines (show s.TypeIs .none "NoneType" from rfl) PySem.F.slot_NoneType_ne_refl (call_gives PySem.F.slot_NoneType_ne_refl rfl PySem.F.entry_NoneType_ne (PySem.F.args_NoneType_ne_2 _ _) (NoneType___ne___none_ref_0 b) ⟨rfl, q⟩)
  | bl k => exact wpAny_tryCompare_declines (show s.TypeIs (.bool k) "bool" from rfl) PySem.F.slot_bool_ne_refl (call_meets PySem.F.slot_bool_ne_refl (show s.TypeIs (.bool k) "bool" from rfl) PySem.F.entry_int_ne (PySem.F.args_int_ne_2 _ _) (bool_ne_ins _ _ _ _ _) ⟨ho, rfl, q⟩)
  | int i tk => exact wpAny_tryCompare_declines (typeIs_int s i tk) PySem.F.slot_int_ne_refl (call_meets PySem.F.slot_int_ne_refl (typeIs_int s i tk) PySem.F.entry_int_ne (PySem.F.args_int_ne_2 _ _) (int_ne_ins _ _ _ _ _ _) ⟨ho, rfl, q⟩)
  | str i tk => exact wpAny_tryCompare_declines (typeIs_str s i tk) PySem.F.slot_str_ne_refl (call_meets PySem.F.slot_str_ne_refl (typeIs_str s i tk) PySem.F.entry_str_ne (PySem.F.args_str_ne_2 _ _) (str_ne_ins _ _ _ _ _ _) ⟨ho, rfl, q⟩)
theorem sc_eq {Q : Option Value → Shared → Prop} (h : ScV x v t) (ho : s.heap.get? b = some (PySem.W.instObj C dx)) (q : Q none s) : wpAny (model prog w) A (tryCompare v "__eq__" (.ref b)) Q E s := by
  cases h with
  | non => exact wpAny_tryCompare_declines (show s.TypeIs .none "NoneType" from rfl) PySem.F.slot_NoneType_eq_refl (call_gives PySem.F.slot_NoneType_eq_refl rfl PySem.F.entry_NoneType_eq (PySem.F.args_NoneType_eq_2 _ _) (NoneType___eq___none_ref_0 b) ⟨rfl, q⟩)
  | bl k => exact wpAny_tryCompare_declines (show s.TypeIs (.bool k) "bool" from rfl) PySem.F.slot_bool_eq_refl (call_meets PySem.F.slot_bool_eq_refl (show s.TypeIs (.bool k) "bool" from rfl) PySem.F.entry_int_eq (PySem.F.args_int_eq_2 _ _) (bool_eq_ins _ _ _ _ _) ⟨ho, rfl, q⟩)
  | int i tk => exact wpAny_tryCompare_declines (typeIs_int s i tk) PySem.F.slot_int_eq_refl (call_meets PySem.F.slot_int_eq_refl (typeIs_int s i tk) PySem.F.entry_int_eq (PySem.F.args_int_eq_2 _ _) (int_eq_ins _ _ _ _ _ _) ⟨ho, rfl, q⟩)
  | str i tk => exact wpAny_tryCompare_declines (typeIs_str s i tk) PySem.F.slot_str_eq_refl (call_meets PySem.F.slot_str_eq_refl (typeIs_str s i tk) PySem.F.entry_str_eq (PySem.F.args_str_eq_2 _ _) (str_eq_ins _ _ _ _ _ _) ⟨ho, rfl, q⟩)
theorem entry_sc {Q : Fin → Shared → Prop} (h : ScV x v t) (hq : Q (.done (.ret .notImplemented)) s) : wpAny (model prog w) A (Builtin.«object.__eq__» ⟨[.ref a, v], []⟩) Q E s := by
  have h1 : isSame (.ref a) v = pure false := by cases h <;> rfl
  unfold Builtin.«object.__eq__»
  repeat (first | with_reducible refine wpAny_of_eq h1 ?_ | wp_step)
  exact hq
/-- object.__eq__ of an instance -/
theorem ob_sc {Q : Value → Shared → Prop} (X : K.In s.heap) (I : PySem.W.InstAt s.heap a ox C od) (T : IdC K C) (h : ScV x v t) (hq : Q .notImplemented s) :
    wpAny (model prog w) A (call (.builtin "object.__eq__") [.ref a, v]) Q E s :=
  wpAny_call (codeAny_call_builtin PySem.F.cmp_object.eq.plain PySem.F.cmpEntry_eq (PySem.W.check_slot PySem.F.cmpKind_eq PySem.F.cmpSplit_eq (I.type.andThen (PySem.W.looks_mroIn X T.hm)) (PySem.F.cmpArgs_eq _ _) (entry_sc h hq)))
theorem ob_in {Q : Value → Shared → Prop} (X : K.In s.heap) (I : PySem.W.InstAt s.heap a ox C od) (J : PySem.W.InstAt s.heap b oy C' oe) (T : IdC K C) (hab : a ≠ b) (hq : Q .notImplemented s) :
    wpAny (model prog w) A (call (.builtin "object.__eq__") [.ref a, .ref b]) Q E s :=
  wpAny_call (codeAny_call_builtin PySem.F.cmp_object.eq.plain PySem.F.cmpEntry_eq (PySem.W.check_slot PySem.F.cmpKind_eq PySem.F.cmpSplit_eq (I.type.andThen (PySem.W.looks_mroIn X T.hm)) (PySem.F.cmpArgs_eq _ _) (objEq_entry_other hab I.1 J.1 (inst_nt I) hq)))
theorem in_eq_sc {Q : Option Value → Shared → Prop} (X : K.In s.heap) (I : PySem.W.InstAt s.heap a ox C od) (T : IdC K C) (h : ScV x v t) (hq : Q none s) : wpAny (model prog w) A (tryCompare (.ref a) "__eq__" v) Q E s := by
  unfold tryCompare
  exact wpAny_bind (ifBound_objEq X I T.he (ob_sc X I T h (wpAny_pure hq)))
theorem in_eq_in {Q : Option Value → Shared → Prop} (X : K.In s.heap) (I : PySem.W.InstAt s.heap a ox C od) (J : PySem.W.InstAt s.heap b oy C' oe) (T : IdC K C) (hab : a ≠ b) (hq : Q none s) : wpAny (model prog w) A (tryCompare (.ref a) "__eq__" (.ref b)) Q E s := by
  unfold tryCompare
  exact wpAny_bind (ifBound_objEq X I T.he (ob_in X I J T hab (wpAny_pure hq)))
/-- object.__ne__ asks __eq__ -/
theorem in_ne {u : Value} {Q : Option Value → Shared → Prop} (hu : A.units + 1 < cLine) (X : K.In s.heap) (I : PySem.W.InstAt s.heap a ox C od) (T : IdC K C) (hne : PySem.W.findIn K (.ref C) "__ne__" = some (some (.builtin "object.__ne__")))
    (he : ∀ (A' : Around) (R : Value → Shared → Prop) (E' : Value → Shared → Prop), R .notImplemented s → wpAny (model prog w) A' (call (.builtin "object.__eq__") [.ref a, u]) R E' s) (hq : Q none s) : wpAny (model prog w) A (tryCompare (.ref a) "__ne__" u) Q E s := by
  unfold tryCompare
  refine wpAny_bind (ifBound_objNe X I hne ?_)
  refine wpAny_call (codeAny_call_builtin PySem.F.cmp_object.ne.plain PySem.F.cmpEntry_ne (PySem.W.check_slot PySem.F.cmpKind_ne PySem.F.cmpSplit_ne (I.type.andThen (PySem.W.looks_mroIn X T.hm)) (PySem.F.cmpArgs_ne _ _) ?_))
  unfold Builtin.«object.__ne__»
  refine wpAny_bind (wpAny_of_eq (a := ((Value.ref a : Value), [u])) (by first | rfl | (simp only [slotArgs]; rfl)) ?_)
  refine wpAny_bind (wpAny_cRoomFor (by show A.units + 1 < cLine; omega) ?_)
  refine wpAny_bind (ifBound_objEq X I T.he ?_)
  exact he _ _ _ (wpAny_pure (wpAny_pure hq))
theorem in_ne_same {Q : Option Value → Shared → Prop} (hu : A.units + 1 < cLine) (X : K.In s.heap) (I : PySem.W.InstAt s.heap a ox C od) (T : IdC K C) (hne : PySem.W.findIn K (.ref C) "__ne__" = some (some (.builtin "object.__ne__"))) (hq : Q (some (.bool false)) s) : wpAny (model prog w) A (tryCompare (.ref a) "__ne__" (.ref a)) Q E s := by
  unfold tryCompare
  refine wpAny_bind (ifBound_objNe X I hne ?_)
  refine wpAny_call (codeAny_call_builtin PySem.F.cmp_object.ne.plain PySem.F.cmpEntry_ne (PySem.W.check_slot PySem.F.cmpKind_ne PySem.F.cmpSplit_ne (I.type.andThen (PySem.W.looks_mroIn X T.hm)) (PySem.F.cmpArgs_ne _ _) ?_))
  unfold Builtin.«object.__ne__»
  refine wpAny_bind (wpAny_of_eq (a := ((Value.ref a : Value), [Value.ref a])) (by first | rfl | (simp only [slotArgs]; rfl)) ?_)
  refine wpAny_bind (wpAny_cRoomFor (by show A.units + 1 < cLine; omega) ?_)
  refine wpAny_bind (ifBound_objEq X I T.he ?_)
  refine obj_same X I T ?_
  refine wpAny_bind (wpAny_of_eq (a := true) (by first | rfl | (simp only [truthy]; rfl)) ?_)
  exact wpAny_pure (wpAny_pure hq)
/-! the whole comparison -/
theorem rcne_sc_in {Q : Value → Shared → Prop} (hu : A.units + 1 < cLine) (X : K.In s.heap) (J : PySem.W.InstAt s.heap b (PySem.W.instObj C dx) C oe) (T : IdC K C) (hne : PySem.W.findIn K (.ref C) "__ne__" = some (some (.builtin "object.__ne__"))) (hsub : PySem.W.subIn K (.ref C) (.type t) = some false) (h : ScV x v t) (hq : Q (.bool true) s) : wpAny (model prog w) A (richCompare .NotEq v (.ref b)) Q E s := by
  have h0 : oneThing? .NotEq v (.ref b) = none := by cases h <;> rfl
  simp only [richCompare, cmpInfo_NotEq, h0]
  refine wpAny_holding (wpAny_bind (wpAny_cRoomFor (by omega) ?_))
  refine wpAny_bind (wpAny_typeOf (h.ty s) (wpAny_bind (J.type.here ?_)))
  split
  · refine wpAny_bind ((PySem.W.looks_subIn X hsub).here ?_)
    simp only [Bool.false_eq_true, if_false, Bool.not_false, if_true]
    refine wpAny_bind (m := tryCompare v _ (.ref b)) (sc_ne h J.1 ?_)
    refine wpAny_bind (m := tryCompare (.ref b) _ v) (in_ne hu X J T hne (fun A' R E' q => ob_sc X J T h q) ?_)
    exact wpAny_bind (wpAny_rule (wpAny_bind (wpAny_of_eq (a := false) (by cases h <;> rfl) (wpAny_pure hq))))
  · rename_i q
    exact absurd (by cases h <;> simp) q
theorem rcne_in_sc {Q : Value → Shared → Prop} (hu : A.units + 1 < cLine) (X : K.In s.heap) (J : PySem.W.InstAt s.heap b (PySem.W.instObj C dx) C oe) (T : IdC K C) (hne : PySem.W.findIn K (.ref C) "__ne__" = some (some (.builtin "object.__ne__"))) (h : ScV x v t) (hq : Q (.bool true) s) : wpAny (model prog w) A (richCompare .NotEq (.ref b) v) Q E s := by
  have h0 : oneThing? .NotEq (.ref b) v = none := by cases h <;> rfl
  simp only [richCompare, cmpInfo_NotEq, h0]
  refine wpAny_holding (wpAny_bind (wpAny_cRoomFor (by omega) ?_))
  refine wpAny_bind (J.type.here (wpAny_bind (wpAny_typeOf (h.ty s) ?_)))
  split
  · refine wpAny_bind ((PySem.W.looks_subIn X (by cases h <;> rfl : PySem.W.subIn K (.type t) (.ref C) = some false)).here ?_)
    simp only [Bool.false_eq_true, if_false, Bool.not_false, if_true]
    refine wpAny_bind (m := tryCompare (.ref b) _ v) (in_ne hu X J T hne (fun A' R E' q => ob_sc X J T h q) ?_)
    refine wpAny_bind (m := tryCompare v _ (.ref b)) (sc_ne h J.1 ?_)
    exact wpAny_bind (wpAny_rule (wpAny_bind (wpAny_of_eq (a := false) (by cases h <;> rfl) (wpAny_pure hq))))
  · rename_i q
    exact absurd (by cases h <;> simp) q
theorem rcne_in_in {Q : Value → Shared → Prop} (hu : A.units + 1 < cLine) (X : K.In s.heap) (I : PySem.W.InstAt s.heap a ox C od) (J : PySem.W.InstAt s.heap b oy C' oe) (T : IdC K C) (hne : PySem.W.findIn K (.ref C) "__ne__" = some (some (.builtin "object.__ne__"))) (T' : IdC K C') (hne' : PySem.W.findIn K (.ref C') "__ne__" = some (some (.builtin "object.__ne__")))
    (hsub : C ≠ C' → PySem.W.subIn K (.ref C') (.ref C) = some false) (hab : a ≠ b) (hq : Q (.bool true) s) : wpAny (model prog w) A (richCompare .NotEq (.ref a) (.ref b)) Q E s := by
  simp only [richCompare, cmpInfo_NotEq, oneThing_ref]
  refine wpAny_holding (wpAny_bind (wpAny_cRoomFor (by omega) ?_))
  refine wpAny_bind (I.type.here (wpAny_bind (J.type.here ?_)))
  have last : wpAny (model prog w) A (tryCompare (.ref a) "__ne__" (.ref b)) (fun r s' => r = none ∧ s' = s) E s := in_ne hu X I T hne (fun A' R E' q => ob_in X I J T hab q) ⟨rfl, rfl⟩
  have last2 : wpAny (model prog w) A (tryCompare (.ref b) "__ne__" (.ref a)) (fun r s' => r = none ∧ s' = s) E s := in_ne hu X J T' hne' (fun A' R E' q => ob_in X J I T' hab.symm q) ⟨rfl, rfl⟩
  by_cases hC : C = C'
  · subst hC
    simp only [bne_self_eq_false, Bool.false_eq_true, if_false]
    refine wpAny_bind (wpAny_pure (wpAny_bind (m := tryCompare (.ref a) _ (.ref b)) (wpAny_mono last (fun r s' z => ?_) fun _ _ z => z)))
    obtain ⟨rfl, rfl⟩ := z
    simp only [Bool.false_eq_true, if_false, Bool.not_false, if_true]
    refine wpAny_bind (m := tryCompare (.ref b) _ (.ref a)) (wpAny_mono last2 (fun r s' z => ?_) fun _ _ z => z)
    obtain ⟨rfl, rfl⟩ := z
    exact wpAny_bind (wpAny_rule (wpAny_bind (wpAny_isSame_ref_other hab I.1 J.1 (inst_nt I) (wpAny_pure hq))))
  · split
    · refine wpAny_bind ((PySem.W.looks_subIn X (hsub hC)).here ?_)
      simp only [Bool.false_eq_true, if_false, Bool.not_false, if_true]
      refine wpAny_bind (m := tryCompare (.ref a) _ (.ref b)) (wpAny_mono last (fun r s' z => ?_) fun _ _ z => z)
      obtain ⟨rfl, rfl⟩ := z
      refine wpAny_bind (m := tryCompare (.ref b) _ (.ref a)) (wpAny_mono last2 (fun r s' z => ?_) fun _ _ z => z)
      obtain ⟨rfl, rfl⟩ := z
      exact wpAny_bind (wpAny_rule (wpAny_bind (wpAny_isSame_ref_other hab I.1 J.1 (inst_nt I) (wpAny_pure hq))))
    · rename_i q
      exact absurd (by simpa using hC) q
theorem rcne_same {Q : Value → Shared → Prop} (hu : A.units + 1 < cLine) (X : K.In s.heap) (I : PySem.W.InstAt s.heap a ox C od) (T : IdC K C) (hne : PySem.W.findIn K (.ref C) "__ne__" = some (some (.builtin "object.__ne__"))) (hq : Q (.bool false) s) : wpAny (model prog w) A (richCompare .NotEq (.ref a) (.ref a)) Q E s := by
  simp only [richCompare, cmpInfo_NotEq, oneThing_ref]
  refine wpAny_holding (wpAny_bind (wpAny_cRoomFor (by omega) ?_))
  refine wpAny_bind (I.type.here (wpAny_bind (I.type.here ?_)))
  simp only [bne_self_eq_false, Bool.false_eq_true, if_false]
  refine wpAny_bind (wpAny_pure (wpAny_bind (m := tryCompare (.ref a) _ (.ref a)) (in_ne_same hu X I T hne ?_)))
  exact wpAny_pure hq
/-! == -/
theorem rceq_sc_in {Q : Value → Shared → Prop} (hu : A.units + 1 < cLine) (X : K.In s.heap) (J : PySem.W.InstAt s.heap b (PySem.W.instObj C dx) C oe) (T : IdC K C) (hsub : PySem.W.subIn K (.ref C) (.type t) = some false) (h : ScV x v t) (hq : Q (.bool false) s) : wpAny (model prog w) A (richCompare .Eq v (.ref b)) Q E s := by
  have h0 : oneThing? .Eq v (.ref b) = none := by cases h <;> rfl
  simp only [richCompare, cmpInfo_Eq, h0]
  refine wpAny_holding (wpAny_bind (wpAny_cRoomFor (by omega) ?_))
  refine wpAny_bind (wpAny_typeOf (h.ty s) (wpAny_bind (J.type.here ?_)))
  split
  · refine wpAny_bind ((PySem.W.looks_subIn X hsub).here ?_)
    simp only [Bool.false_eq_true, if_false, Bool.not_false, if_true]
    refine wpAny_bind (m := tryCompare v _ (.ref b)) (sc_eq h J.1 ?_)
    refine wpAny_bind (m := tryCompare (.ref b) _ v) (in_eq_sc X J T h ?_)
    exact wpAny_bind (wpAny_rule (wpAny_bind (wpAny_of_eq (a := false) (by cases h <;> rfl) (wpAny_pure hq))))
  · rename_i q
    exact absurd (by cases h <;> simp) q
theorem rceq_in_sc {Q : Value → Shared → Prop} (hu : A.units + 1 < cLine) (X : K.In s.heap) (J : PySem.W.InstAt s.heap b (PySem.W.instObj C dx) C oe) (T : IdC K C) (h : ScV x v t) (hq : Q (.bool false) s) : wpAny (model prog w) A (richCompare .Eq (.ref b) v) Q E s := by
  have h0 : oneThing? .Eq (.ref b) v = none := by cases h <;> rfl
  simp only [richCompare, cmpInfo_Eq, h0]
  refine wpAny_holding (wpAny_bind (wpAny_cRoomFor (by omega) ?_))
  refine wpAny_bind (J.type.here (wpAny_bind (wpAny_typeOf (h.ty s) ?_)))
  split
  · refine wpAny_bind ((PySem.W.looks_subIn X (by cases h <;> rfl : PySem.W.subIn K (.type t) (.ref C) = some false)).here ?_)
    simp only [Bool.false_eq_true, if_false, Bool.not_false, if_true]
    refine wpAny_bind (m := tryCompare (.ref b) _ v) (in_eq_sc X J T h ?_)
    refine wpAny_bind (m := tryCompare v _ (.ref b)) (sc_eq h J.1 ?_)
    exact wpAny_bind (wpAny_rule (wpAny_bind (wpAny_of_eq (a := false) (by cases h <;> rfl) (wpAny_pure hq))))
  · rename_i q
    exact absurd (by cases h <;> simp) q
theorem rceq_in_in {Q : Value → Shared → Prop} (hu : A.units + 1 < cLine) (X : K.In s.heap) (I : PySem.W.InstAt s.heap a ox C od) (J : PySem.W.InstAt s.heap b oy C' oe) (T : IdC K C) (T' : IdC K C')
    (hsub : C ≠ C' → PySem.W.subIn K (.ref C') (.ref C) = some false) (hab : a ≠ b) (hq : Q (.bool false) s) : wpAny (model prog w) A (richCompare .Eq (.ref a) (.ref b)) Q E s := by
  simp only [richCompare, cmpInfo_Eq, oneThing_ref]
  refine wpAny_holding (wpAny_bind (wpAny_cRoomFor (by omega) ?_))
  refine wpAny_bind (I.type.here (wpAny_bind (J.type.here ?_)))
  have last : wpAny (model prog w) A (tryCompare (.ref a) "__eq__" (.ref b)) (fun r s' => r = none ∧ s' = s) E s := in_eq_in X I J T hab ⟨rfl, rfl⟩
  have last2 : wpAny (model prog w) A (tryCompare (.ref b) "__eq__" (.ref a)) (fun r s' => r = none ∧ s' = s) E s := in_eq_in X J I T' hab.symm ⟨rfl, rfl⟩
  by_cases hC : C = C'
  · subst hC
    simp only [bne_self_eq_false, Bool.false_eq_true, if_false]
    refine wpAny_bind (wpAny_pure (wpAny_bind (m := tryCompare (.ref a) _ (.ref b)) (wpAny_mono last (fun r s' z => ?_) fun _ _ z => z)))
    obtain ⟨rfl, rfl⟩ := z
    simp only [Bool.false_eq_true, if_false, Bool.not_false, if_true]
    refine wpAny_bind (m := tryCompare (.ref b) _ (.ref a)) (wpAny_mono last2 (fun r s' z => ?_) fun _ _ z => z)
    obtain ⟨rfl, rfl⟩ := z
    exact wpAny_bind (wpAny_rule (wpAny_bind (wpAny_isSame_ref_other hab I.1 J.1 (inst_nt I) (wpAny_pure hq))))
  · split
    · refine wpAny_bind ((PySem.W.looks_subIn X (hsub hC)).here ?_)
      simp only [Bool.false_eq_true, if_false, Bool.not_false, if_true]
      refine wpAny_bind (m := tryCompare (.ref a) _ (.ref b)) (wpAny_mono last (fun r s' z => ?_) fun _ _ z => z)
      obtain ⟨rfl, rfl⟩ := z
      refine wpAny_bind (m := tryCompare (.ref b) _ (.ref a)) (wpAny_mono last2 (fun r s' z => ?_) fun _ _ z => z)
      obtain ⟨rfl, rfl⟩ := z
      exact wpAny_bind (wpAny_rule (wpAny_bind (wpAny_isSame_ref_other hab I.1 J.1 (inst_nt I) (wpAny_pure hq))))
    · rename_i q
      exact absurd (by simpa using hC) q
end
/-! ### as rules -/
/-- a value that is no sequence: a scalar, or an instance of one of these classes -/
inductive IsV (Cs : List Addr) (H : Hp) : V → Prop where
  | sc {x : V} : isSc x = true → IsV Cs H x
  | ins {C a dx : Addr} {fs : List (Str × V)} : C ∈ Cs → H a = some (.ins C dx fs) → IsV Cs H (.ref a)
/-- at least one is an instance -/
def rNeIS (Cs : List Addr) : R2 := fun x y H Q => IsV Cs H x ∧ IsV Cs H y ∧ (isSc x = true → isSc y = false) ∧ Q (.bl (!decide (x = y))) H
def rEqIS (Cs : List Addr) : R2 := fun x y H Q => IsV Cs H x ∧ IsV Cs H y ∧ (isSc x = true → isSc y = false) ∧ Q (.bl (decide (x = y))) H
theorem sc_ne_ref {x : V} {a : Addr} (h : isSc x = true) : x ≠ .ref a := fun z => by subst z; cases h
section
variable {X : Cx} {Cs : List Addr}
theorem op_neIS (T : IdCs X.K Cs) (hu : X.A.units + 64 < cLine) : OpR X (compareOp .NotEq) (rNeIS Cs) := by
  intro pins s σ H x y v u Q I rx ry ⟨hx, hy, hn, q⟩
  have hu0 : X.A.units + 1 < cLine := by omega
  show wpAny (model X.prog X.w) X.A (richCompare .NotEq v u) (EP X pins σ Q) X.xe s
  cases hx with
  | sc hx =>
    obtain ⟨t, sv⟩ := sc_of hx rx
    cases hy with
    | sc hy => rw [hn hx] at hy; cases hy
    | @ins C b dx fs hC hb =>
      cases ry
      obtain ⟨mB, O, _⟩ := ins_get I.hok hb
      obtain ⟨oe, J, _⟩ := O.look
      rw [decide_eq_false (sc_ne_ref hx)] at q
      exact rcne_sc_in hu0 I.kIn J (T.id C hC) (T.ne C hC) (T.subT C hC t sv.mem) sv ⟨.bl true, H, I, rfl, q⟩
  | @ins C a dx fs hC ha =>
    cases rx
    obtain ⟨mA, O, _⟩ := ins_get I.hok ha
    obtain ⟨od, J, _⟩ := O.look
    cases hy with
    | sc hy =>
      obtain ⟨t, sv⟩ := sc_of hy ry
      rw [decide_eq_false (fun z => sc_ne_ref hy z.symm)] at q
      exact rcne_in_sc hu0 I.kIn J (T.id C hC) (T.ne C hC) sv ⟨.bl true, H, I, rfl, q⟩
    | @ins C' b dy gs hC' hb =>
      cases ry
      obtain ⟨mB, O2, _⟩ := ins_get I.hok hb
      obtain ⟨oe, J2, _⟩ := O2.look
      by_cases hab : a = b
      · subst hab
        rw [decide_eq_true rfl] at q
        exact rcne_same hu0 I.kIn J (T.id C hC) (T.ne C hC) ⟨.bl false, H, I, rfl, q⟩
      · rw [decide_eq_false (fun z => hab (by injection z))] at q
        exact rcne_in_in hu0 I.kIn J J2 (T.id C hC) (T.ne C hC) (T.id C' hC') (T.ne C' hC') (fun z => T.sub C' hC' C hC (fun y => z y.symm)) hab ⟨.bl true, H, I, rfl, q⟩
theorem op_eqIS (T : IdCs X.K Cs) (hu : X.A.units + 64 < cLine) : OpR X (compareOp .Eq) (rEqIS Cs) := by
  intro pins s σ H x y v u Q I rx ry ⟨hx, hy, hn, q⟩
  have hu0 : X.A.units + 1 < cLine := by omega
  show wpAny (model X.prog X.w) X.A (richCompare .Eq v u) (EP X pins σ Q) X.xe s
  cases hx with
  | sc hx =>
    obtain ⟨t, sv⟩ := sc_of hx rx
    cases hy with
    | sc hy => rw [hn hx] at hy; cases hy
    | @ins C b dx fs hC hb =>
      cases ry
      obtain ⟨mB, O, _⟩ := ins_get I.hok hb
      obtain ⟨oe, J, _⟩ := O.look
      rw [decide_eq_false (sc_ne_ref hx)] at q
      exact rceq_sc_in hu0 I.kIn J (T.id C hC) (T.subT C hC t sv.mem) sv ⟨.bl false, H, I, rfl, q⟩
  | @ins C a dx fs hC ha =>
    cases rx
    obtain ⟨mA, O, _⟩ := ins_get I.hok ha
    obtain ⟨od, J, _⟩ := O.look
    cases hy with
    | sc hy =>
      obtain ⟨t, sv⟩ := sc_of hy ry
      rw [decide_eq_false (fun z => sc_ne_ref hy z.symm)] at q
      exact rceq_in_sc hu0 I.kIn J (T.id C hC) sv ⟨.bl false, H, I, rfl, q⟩
    | @ins C' b dy gs hC' hb =>
      cases ry
      obtain ⟨mB, O2, _⟩ := ins_get I.hok hb
      obtain ⟨oe, J2, _⟩ := O2.look
      by_cases hab : a = b
      · subst hab
        rw [decide_eq_true rfl] at q
        exact rc_same (by omega) I.kIn J (T.id C hC) ⟨.bl true, H, I, rfl, q⟩
      · rw [decide_eq_false (fun z => hab (by injection z))] at q
        exact rceq_in_in hu0 I.kIn J J2 (T.id C hC) (T.id C' hC') (fun z => T.sub C' hC' C hC (fun y => z y.symm)) hab ⟨.bl false, H, I, rfl, q⟩
end
end Up

set_option Elab.async false
set_option linter.all false
set_option pp.maxSteps 600
set_option maxRecDepth 100000
set_option maxHeartbeats 4000000
namespace Up
open PySem PySem.Spec PyProof.Rows L2 PySem.SeqAt HN
/-! ### == of an instance whose own __eq__ tells NotImplemented, beside what is none of its class -/
/-- a scalar, or an instance of one of the classes Cs, beside the class at C -/
inductive Oth (K : PySem.W.Frag) (C : Addr) (Cs : List Addr) (H : Hp) : V → Prop where
  | sc {x : V} : isSc x = true → Oth K C Cs H x
  | ins {D a dx : Addr} {fs : List (Str × V)} : D ∈ Cs → H a = some (.ins D dx fs) → Oth K C Cs H (.ref a)
structure NiF (K : PySem.W.Frag) (C : Addr) (Cs : List Addr) : Prop where
  ids : IdCs K Cs
  own : ∀ D ∈ Cs, OwnC K D
  kT : ∀ t ∈ (["NoneType", "bool", "int", "str"] : List String), PySem.W.kitOne K (.type t) (.ref C) = some false
  sT : ∀ t ∈ (["NoneType", "bool", "int", "str"] : List String), PySem.W.subIn K (.ref C) (.type t) = some false
  kC : ∀ D ∈ Cs, PySem.W.kitOne K (.ref D) (.ref C) = some false
  s1 : ∀ D ∈ Cs, PySem.W.subIn K (.ref D) (.ref C) = some false
  s2 : ∀ D ∈ Cs, PySem.W.subIn K (.ref C) (.ref D) = some false
  ne : ∀ D ∈ Cs, D ≠ C
section
variable {X : Cx} {C : Addr} {k : Nat} {Cs : List Addr}
theorem ScV.kn {x : V} {v : Value} {t : String} {K : PySem.W.Frag} {H : Hp} (h : ScV x v t) : Kn K H x (.type t) := by
  cases h with
  | non => exact kn_non
  | bl b => exact kn_bl
  | int i tk => exact kn_int
  | str i tk => exact kn_str
theorem ScV.rel {x : V} {v : Value} {t : String} (h : ScV x v t) : RelV x v := by
  cases h with
  | non => exact rfl
  | bl b => exact rfl
  | int i tk => exact ⟨tk, rfl⟩
  | str i tk => exact ⟨tk, rfl⟩
/-- its own __eq__, asked -/
theorem ni_try {pins : List (Addr × Obj)} {σ : L2.St} {H : Hp} {s : Shared} {a dx : Addr} {fs : List (Str × V)} {y : V} {u t : Value} {Q : Option Value → Shared → Prop} {E : Value → Shared → Prop} (T : NiC X.prog X.w X.K X.mg X.base k C) (hr : Room k X.A) (I : L2.Inv X pins σ H s) (ha : H a = some (.ins C dx fs)) (hk : Kn X.K H y t) (hf : PySem.W.kitOne X.K t (.ref C) = some false) (hu : RelV y u)
    (q : ∀ s', L2.Inv X pins σ H s' → Q none s') : wpAny (model X.prog X.w) X.A (tryCompare (.ref a) "__eq__" u) Q E s := by
  obtain ⟨f, hs, hfn, hne, hm, hN⟩ := T
  obtain ⟨mA, O, _⟩ := ins_get I.hok ha
  obtain ⟨od, J, _⟩ := O.look
  unfold tryCompare
  refine wpAny_bind (PySem.W.ifBound_K I.kIn J hs hfn ?_)
  refine ni_eq hN hr rfl I ha hk hf hu fun s' I' => ?_
  exact wpAny_pure (q s' I')
def rEqNI (K : PySem.W.Frag) (C : Addr) (Cs : List Addr) : R2 := fun x y H Q => ((∃ a dx fs, x = .ref a ∧ H a = some (.ins C dx fs) ∧ Oth K C Cs H y) ∨ (∃ a dx fs, y = .ref a ∧ H a = some (.ins C dx fs) ∧ Oth K C Cs H x)) ∧ Q (.bl false) H
theorem op_eqNI (T : NiC X.prog X.w X.K X.mg X.base k C) (F : NiF X.K C Cs) (hr : Room k X.A) (hu : X.A.units + 64 < cLine) : OpR X (compareOp .Eq) (rEqNI X.K C Cs) := by
  intro pins s σ H x y v u Q I rx ry ⟨h, q⟩
  show wpAny (model X.prog X.w) X.A (richCompare .Eq v u) (EP X pins σ Q) X.xe s
  rcases h with ⟨a, dx, fs, rfl, ha, ho⟩ | ⟨a, dx, fs, rfl, ha, ho⟩
  · cases rx
    obtain ⟨mA, O, _⟩ := ins_get I.hok ha
    obtain ⟨od, J, _⟩ := O.look
    cases ho with
    | sc hy =>
      obtain ⟨t, sv⟩ := sc_of hy ry
      have h0 : oneThing? .Eq (.ref a) u = none := by cases sv <;> rfl
      simp only [richCompare, cmpInfo_Eq, h0]
      refine wpAny_holding (wpAny_bind (wpAny_cRoomFor (by omega) ?_))
      refine wpAny_bind (J.type.here (wpAny_bind (wpAny_typeOf (sv.ty s) ?_)))
      split
      · refine wpAny_bind ((PySem.W.looks_subIn I.kIn (by cases sv <;> rfl : PySem.W.subIn X.K (.type t) (.ref C) = some false)).here ?_)
        simp only [Bool.false_eq_true, if_false, Bool.not_false, if_true]
        refine wpAny_bind (m := tryCompare (.ref a) _ u) (ni_try T hr I ha sv.kn (F.kT t sv.mem) ry fun s' I' => ?_)
        obtain ⟨mA', O', _⟩ := ins_get I'.hok ha
        refine wpAny_bind (m := tryCompare u _ (.ref a)) (sc_eq sv O'.obj ?_)
        exact wpAny_bind (wpAny_rule (wpAny_bind (wpAny_of_eq (a := false) (by cases sv <;> rfl) (wpAny_pure ⟨.bl false, H, I', rfl, q⟩))))
      · rename_i z
        exact absurd (by cases sv <;> simp) z
    | @ins D b dy gs hD hb =>
      cases ry
      obtain ⟨mB, O2, _⟩ := ins_get I.hok hb
      obtain ⟨oe, J2, _⟩ := O2.look
      have hab : a ≠ b := fun z => by
        rw [z, hb] at ha
        injection ha with ha
        injection ha with ha
        exact F.ne D hD ha
      simp only [richCompare, cmpInfo_Eq, oneThing_ref]
      refine wpAny_holding (wpAny_bind (wpAny_cRoomFor (by omega) ?_))
      refine wpAny_bind (J.type.here (wpAny_bind (J2.type.here ?_)))
      split
      · refine wpAny_bind ((PySem.W.looks_subIn I.kIn (F.s1 D hD)).here ?_)
        simp only [Bool.false_eq_true, if_false, Bool.not_false, if_true]
        refine wpAny_bind (m := tryCompare (.ref a) _ (.ref b)) (ni_try T hr I ha (kn_ins (F.own D hD) hb) (F.kC D hD) rfl fun s' I' => ?_)
        obtain ⟨mA', O', _⟩ := ins_get I'.hok ha
        obtain ⟨od', J', _⟩ := O'.look
        obtain ⟨mB', O2', _⟩ := ins_get I'.hok hb
        obtain ⟨oe', J2', _⟩ := O2'.look
        refine wpAny_bind (m := tryCompare (.ref b) _ (.ref a)) (in_eq_in I'.kIn J2' J' (F.ids.id D hD) hab.symm ?_)
        exact wpAny_bind (wpAny_rule (wpAny_bind (wpAny_isSame_ref_other hab J'.1 J2'.1 (inst_nt J') (wpAny_pure ⟨.bl false, H, I', rfl, q⟩))))
      · rename_i z
        exact absurd (by simpa using fun e => F.ne D hD e.symm) z
  · cases ry
    obtain ⟨mA, O, _⟩ := ins_get I.hok ha
    obtain ⟨od, J, _⟩ := O.look
    cases ho with
    | sc hy =>
      obtain ⟨t, sv⟩ := sc_of hy rx
      have h0 : oneThing? .Eq v (.ref a) = none := by cases sv <;> rfl
      simp only [richCompare, cmpInfo_Eq, h0]
      refine wpAny_holding (wpAny_bind (wpAny_cRoomFor (by omega) ?_))
      refine wpAny_bind (wpAny_typeOf (sv.ty s) (wpAny_bind (J.type.here ?_)))
      split
      · refine wpAny_bind ((PySem.W.looks_subIn I.kIn (F.sT t sv.mem)).here ?_)
        simp only [Bool.false_eq_true, if_false, Bool.not_false, if_true]
        refine wpAny_bind (m := tryCompare v _ (.ref a)) (sc_eq sv O.obj ?_)
        refine wpAny_bind (m := tryCompare (.ref a) _ v) (ni_try T hr I ha sv.kn (F.kT t sv.mem) rx fun s' I' => ?_)
        exact wpAny_bind (wpAny_rule (wpAny_bind (wpAny_of_eq (a := false) (by cases sv <;> rfl) (wpAny_pure ⟨.bl false, H, I', rfl, q⟩))))
      · rename_i z
        exact absurd (by cases sv <;> simp) z
    | @ins D b dy gs hD hb =>
      cases rx
      obtain ⟨mB, O2, _⟩ := ins_get I.hok hb
      obtain ⟨oe, J2, _⟩ := O2.look
      have hab : b ≠ a := fun z => by
        rw [← z, hb] at ha
        injection ha with ha
        injection ha with ha
        exact F.ne D hD ha
      simp only [richCompare, cmpInfo_Eq, oneThing_ref]
      refine wpAny_holding (wpAny_bind (wpAny_cRoomFor (by omega) ?_))
      refine wpAny_bind (J2.type.here (wpAny_bind (J.type.here ?_)))
      split
      · refine wpAny_bind ((PySem.W.looks_subIn I.kIn (F.s2 D hD)).here ?_)
        simp only [Bool.false_eq_true, if_false, Bool.not_false, if_true]
        refine wpAny_bind (m := tryCompare (.ref b) _ (.ref a)) (in_eq_in I.kIn J2 J (F.ids.id D hD) hab ?_)
        refine wpAny_bind (m := tryCompare (.ref a) _ (.ref b)) (ni_try T hr I ha (kn_ins (F.own D hD) hb) (F.kC D hD) rfl fun s' I' => ?_)
        obtain ⟨mA', O', _⟩ := ins_get I'.hok ha
        obtain ⟨od', J', _⟩ := O'.look
        obtain ⟨mB', O2', _⟩ := ins_get I'.hok hb
        obtain ⟨oe', J2', _⟩ := O2'.look
        exact wpAny_bind (wpAny_rule (wpAny_bind (wpAny_isSame_ref_other hab J2'.1 J'.1 (inst_nt J2') (wpAny_pure ⟨.bl false, H, I', rfl, q⟩))))
      · rename_i z
        exact absurd (by simpa using fun e => F.ne D hD e) z
/-! ### text * int -/
def mulStr (x : Str) (n : Nat) : Str := ⟨(List.replicate n x.cps).foldl (· ++ ·) #[]⟩
theorem op_mulS : OpR X (binaryOp .Mult) (fun x y H Q => ∃ (z : Str) (n : Int), x = .str z ∧ y = .int n ∧ 2 ≤ n ∧ n ≤ 1000 ∧ 1 ≤ z.length ∧ z.length ≤ 10 ∧ (mulStr z n.toNat).length ≤ sizeLine ∧ Q (.str (mulStr z n.toNat)) H) := by
  intro pins s σ H x y v u Q I rx ry h
  obtain ⟨z, n, rfl, rfl, h1, h2, h3, h4, h5, q⟩ := h
  obtain ⟨t, rfl⟩ := rx
  obtain ⟨tk, rfl⟩ := ry
  have e1 : (n == 1 || z.length == 0) = false := by
    rw [Bool.or_eq_false_iff]
    exact ⟨by simp; omega, by simp; omega⟩
  refine PySem.P.mul_str (by rw [decide_eq_false (by omega), decide_eq_false (by omega)]; rfl) (fun _ _ => ?_) (fun _ _ => ?_) ?_
  · have : (2 : Int) ^ 62 ≤ (2 ^ 63 - 1) / n ∨ (100 : Int) ≤ (2 ^ 63 - 1) / n := Or.inr ((Int.le_ediv_iff_mul_le (by omega)).mpr (by omega))
    omega
  · have hx : z.length * n.toNat ≤ 10 * 1000 := Nat.mul_le_mul h4 (by omega)
    exact decide_eq_false (by show ¬ z.length * n.toNat > sizeLine; have : (10 * 1000 : Nat) ≤ sizeLine := by decide
                              omega)
  · rw [if_neg (by omega), e1]
    exact ⟨h5, .str (mulStr z n.toNat), H, I.tok _, ⟨_, rfl⟩, q⟩
end
end Up

set_option Elab.async false
set_option linter.all false
set_option pp.maxSteps 600
set_option maxRecDepth 100000
set_option maxHeartbeats 4000000
namespace Up
open PySem PySem.Spec PyProof.Rows L2 PySem.SeqAt HN
/-! ### == and != of an instance beside lists and tuples -/
section
variable (l a C : Addr) (items : Array Value) (n : Nat) (dd ad : Option Addr) (sl asl : Array (Option Value))
theorem list_ne_ins : Meets (Builtin.«list.__ne__» ⟨[.ref l, .ref a], []⟩) (fun _ R s => s.heap.get? l = some { cls := .type "list", dict := dd, data := .seq items n, slots := sl } ∧ s.heap.get? a = some { cls := .ref C, dict := ad, data := .plain, slots := asl } ∧ (∀ M : Model, PySem.W.Looks M s.heap (isSubtype (.ref C) (.type "list")) false) ∧ R (.ok (.ret .notImplemented)) s) :=
  .of_wp fun prog w A R s h => by
    obtain ⟨hp, g, d, tk, os⟩ := s; obtain ⟨hl, ha, hi, h⟩ := h
    wp_walk using wpAny_loadPart' hl, wpAny_loadPart' ha
    refine (hi _).at ?_
    wp_walk
    exact ⟨_, rfl, h⟩
theorem list_eq_ins : Meets (Builtin.«list.__eq__» ⟨[.ref l, .ref a], []⟩) (fun _ R s => s.heap.get? l = some { cls := .type "list", dict := dd, data := .seq items n, slots := sl } ∧ s.heap.get? a = some { cls := .ref C, dict := ad, data := .plain, slots := asl } ∧ (∀ M : Model, PySem.W.Looks M s.heap (isSubtype (.ref C) (.type "list")) false) ∧ R (.ok (.ret .notImplemented)) s) :=
  .of_wp fun prog w A R s h => by
    obtain ⟨hp, g, d, tk, os⟩ := s; obtain ⟨hl, ha, hi, h⟩ := h
    wp_walk using wpAny_loadPart' hl, wpAny_loadPart' ha
    refine (hi _).at ?_
    wp_walk
    exact ⟨_, rfl, h⟩
theorem tuple_ne_ins : Meets (Builtin.«tuple.__ne__» ⟨[.ref l, .ref a], []⟩) (fun _ R s => s.heap.get? l = some { cls := .type "tuple", dict := dd, data := .seq items n, slots := sl } ∧ s.heap.get? a = some { cls := .ref C, dict := ad, data := .plain, slots := asl } ∧ (∀ M : Model, PySem.W.Looks M s.heap (isSubtype (.ref C) (.type "tuple")) false) ∧ R (.ok (.ret .notImplemented)) s) :=
  .of_wp fun prog w A R s h => by
    obtain ⟨hp, g, d, tk, os⟩ := s; obtain ⟨hl, ha, hi, h⟩ := h
    wp_walk using wpAny_loadPart' hl, wpAny_loadPart' ha
    refine (hi _).at ?_
    wp_walk
    exact ⟨_, rfl, h⟩
theorem tuple_eq_ins : Meets (Builtin.«tuple.__eq__» ⟨[.ref l, .ref a], []⟩) (fun _ R s => s.heap.get? l = some { cls := .type "tuple", dict := dd, data := .seq items n, slots := sl } ∧ s.heap.get? a = some { cls := .ref C, dict := ad, data := .plain, slots := asl } ∧ (∀ M : Model, PySem.W.Looks M s.heap (isSubtype (.ref C) (.type "tuple")) false) ∧ R (.ok (.ret .notImplemented)) s) :=
  .of_wp fun prog w A R s h => by
    obtain ⟨hp, g, d, tk, os⟩ := s; obtain ⟨hl, ha, hi, h⟩ := h
    wp_walk using wpAny_loadPart' hl, wpAny_loadPart' ha
    refine (hi _).at ?_
    wp_walk
    exact ⟨_, rfl, h⟩
end
structure NiX (K : PySem.W.Frag) (C : Addr) : Prop where
  kT : ∀ t ∈ (["NoneType", "bool", "int", "str"] : List String), PySem.W.kitOne K (.type t) (.ref C) = some false
  fl : PySem.W.kitOne K (.type "list") (.ref C) = some false
  ft : PySem.W.kitOne K (.type "tuple") (.ref C) = some false
  sl : PySem.W.subIn K (.ref C) (.type "list") = some false
  st : PySem.W.subIn K (.ref C) (.type "tuple") = some false
def NxV (H : Hp) (y : V) : Prop := isSc y = true ∨ ∃ b ys, y = .ref b ∧ (H b = some (.lst ys) ∨ H b = some (.tup ys))
def rEqNX (K : PySem.W.Frag) (C : Addr) : R2 := fun x y H Q => (∃ a dx fs, x = .ref a ∧ H a = some (.ins C dx fs) ∧ NxV H y) ∧ Q (.bl false) H
def rNotEqNX (K : PySem.W.Frag) (C : Addr) : R2 := fun x y H Q => (∃ a dx fs, x = .ref a ∧ H a = some (.ins C dx fs) ∧ NxV H y) ∧ Q (.bl true) H
section
variable {X : Cx} {C : Addr} {k : Nat}
theorem ni_tryE {pins : List (Addr × Obj)} {σ : L2.St} {H : Hp} {s : Shared} {a dx : Addr} {fs : List (Str × V)} {y : V} {u t : Value} {Q : Option Value → Shared → Prop} {E : Value → Shared → Prop} (T : NiC X.prog X.w X.K X.mg X.base k C) (hr : Room (k + 1) X.A) (I : L2.Inv X pins σ H s) (ha : H a = some (.ins C dx fs)) (hk : Kn X.K H y t) (hf : PySem.W.kitOne X.K t (.ref C) = some false) (hu : RelV y u)
    (q : ∀ s', L2.Inv X pins σ H s' → Q none s') : wpAny (model X.prog X.w) X.A (tryCompare (.ref a) "__eq__" u) Q E s := ni_try T (hr.mono (by omega)) I ha hk hf hu q
/-- its __ne__, that asks its own __eq__ -/
theorem ni_tryN {pins : List (Addr × Obj)} {σ : L2.St} {H : Hp} {s : Shared} {a dx : Addr} {fs : List (Str × V)} {y : V} {u t : Value} {Q : Option Value → Shared → Prop} {E : Value → Shared → Prop} (T : NiC X.prog X.w X.K X.mg X.base k C) (hr : Room (k + 1) X.A) (I : L2.Inv X pins σ H s) (ha : H a = some (.ins C dx fs)) (hk : Kn X.K H y t) (hf : PySem.W.kitOne X.K t (.ref C) = some false) (hu : RelV y u)
    (q : ∀ s', L2.Inv X pins σ H s' → Q none s') : wpAny (model X.prog X.w) X.A (tryCompare (.ref a) "__ne__" u) Q E s := by
  obtain ⟨f, hs, hfn, hne, hm, hN⟩ := T
  obtain ⟨mA, O, _⟩ := ins_get I.hok ha
  obtain ⟨od, J, _⟩ := O.look
  have hu0 := hr.un
  unfold tryCompare
  refine wpAny_bind (ifBound_objNe I.kIn J hne ?_)
  refine wpAny_call (codeAny_call_builtin PySem.F.cmp_object.ne.plain PySem.F.cmpEntry_ne (PySem.W.check_slot PySem.F.cmpKind_ne PySem.F.cmpSplit_ne (J.type.andThen (PySem.W.looks_mroIn I.kIn hm)) (PySem.F.cmpArgs_ne _ _) ?_))
  unfold Builtin.«object.__ne__»
  refine wpAny_bind (wpAny_of_eq (a := ((Value.ref a : Value), [u])) (by first | rfl | (simp only [slotArgs]; rfl)) ?_)
  refine wpAny_bind (wpAny_cRoomFor (by show X.A.units + 1 < cLine; omega) ?_)
  refine wpAny_bind (PySem.W.ifBound_K I.kIn J hs hfn ?_)
  refine ni_eq hN hr.in1 rfl I ha hk hf hu fun s' I' => ?_
  refine wpAny_pure ?_
  exact wpAny_pure (q s' I')
theorem op_eqNX (T : NiC X.prog X.w X.K X.mg X.base k C) (F : NiX X.K C) (hr : Room (k + 1) X.A) (hu : X.A.units + 64 < cLine) : OpR X (compareOp .Eq) (rEqNX X.K C) := by
  intro pins s σ H x y v u Q I rx ry ⟨h, q⟩
  obtain ⟨a, dx, fs, rfl, ha, ho⟩ := h
  show wpAny (model X.prog X.w) X.A (richCompare .Eq v u) (EP X pins σ Q) X.xe s
  cases rx
  obtain ⟨mA, O, _⟩ := ins_get I.hok ha
  obtain ⟨od, J, _⟩ := O.look
  rcases ho with hy | ⟨b, ys, rfl, hb⟩
  · obtain ⟨t, sv⟩ := sc_of hy ry
    have h0 : oneThing? .Eq (.ref a) u = none := by cases sv <;> rfl
    simp only [richCompare, cmpInfo_Eq, h0]
    refine wpAny_holding (wpAny_bind (wpAny_cRoomFor (by omega) ?_))
    refine wpAny_bind (J.type.here (wpAny_bind (wpAny_typeOf (sv.ty s) ?_)))
    split
    · refine wpAny_bind ((PySem.W.looks_subIn I.kIn (by cases sv <;> rfl : PySem.W.subIn X.K (.type t) (.ref C) = some false)).here ?_)
      simp only [Bool.false_eq_true, if_false, Bool.not_false, if_true]
      refine wpAny_bind (m := tryCompare (.ref a) _ u) (ni_tryE T hr I ha sv.kn (F.kT t sv.mem) ry fun s' I' => ?_)
      obtain ⟨mA', O', _⟩ := ins_get I'.hok ha
      refine wpAny_bind (m := tryCompare u _ (.ref a)) (sc_eq sv O'.obj ?_)
      exact wpAny_bind (wpAny_rule (wpAny_bind (wpAny_of_eq (a := false) (by cases sv <;> rfl) (wpAny_pure ⟨.bl false, H, I', rfl, q⟩))))
    · rename_i z
      exact absurd (by cases sv <;> simp) z
  · cases ry
    have hab : a ≠ b := fun z => by
      subst z
      rcases hb with hb | hb <;> rw [hb] at ha <;> cases ha
    rcases hb with hb | hb
    · obtain ⟨its, r, ⟨oB, nB, gB, cB, dB, eB⟩, hz⟩ := I.list (SqL.of hb)
      have tyB : s.TypeIs (.ref b) "list" := ⟨oB, gB, cB⟩
      simp only [richCompare, cmpInfo_Eq, oneThing_ref]
      refine wpAny_holding (wpAny_bind (wpAny_cRoomFor (by omega) ?_))
      refine wpAny_bind (J.type.here (wpAny_bind (wpAny_typeOf tyB ?_)))
      split
      · refine wpAny_bind ((PySem.W.looks_subIn I.kIn (by rfl : PySem.W.subIn X.K (.type "list") (.ref C) = some false)).here ?_)
        simp only [Bool.false_eq_true, if_false, Bool.not_false, if_true]
        refine wpAny_bind (m := tryCompare (.ref a) _ (.ref b)) (ni_tryE T hr I ha (kn_lst hb) F.fl rfl fun s' I' => ?_)
        obtain ⟨mA', O', _⟩ := ins_get I'.hok ha
        obtain ⟨od', J', _⟩ := O'.look
        obtain ⟨its', r', ⟨oB', nB', gB', cB', dB', eB'⟩, hz'⟩ := I'.list (SqL.of hb)
        obtain ⟨c1, c2, c3, c4⟩ := oB'
        dsimp only at cB' dB' eB'
        subst cB' dB' eB'
        have tyB' : s'.TypeIs (.ref b) "list" := ⟨_, gB', rfl⟩
        refine wpAny_bind (m := tryCompare (.ref b) _ (.ref a)) (wpAny_tryCompare_declines tyB' PySem.F.slot_list_eq_refl (call_meets PySem.F.slot_list_eq_refl tyB' PySem.F.entry_list_eq (PySem.F.args_list_eq_2 _ _) (list_eq_ins b a C _ _ _ _ _ _) ⟨gB', O'.obj, fun M => PySem.W.looks_subIn I'.kIn F.sl, ⟨rfl, ?_⟩⟩))
        exact wpAny_bind (wpAny_rule (wpAny_bind (wpAny_isSame_ref_other hab J'.1 gB' (inst_nt J') (wpAny_pure ⟨.bl false, H, I', rfl, q⟩))))
      · rename_i z
        exact absurd (by simp) z
    · obtain ⟨its, r, ⟨oB, gB, cB, nB, eB⟩, hz⟩ := I.tuple (SqT.of hb)
      have tyB : s.TypeIs (.ref b) "tuple" := ⟨oB, gB, cB⟩
      simp only [richCompare, cmpInfo_Eq, oneThing_ref]
      refine wpAny_holding (wpAny_bind (wpAny_cRoomFor (by omega) ?_))
      refine wpAny_bind (J.type.here (wpAny_bind (wpAny_typeOf tyB ?_)))
      split
      · refine wpAny_bind ((PySem.W.looks_subIn I.kIn (by rfl : PySem.W.subIn X.K (.type "tuple") (.ref C) = some false)).here ?_)
        simp only [Bool.false_eq_true, if_false, Bool.not_false, if_true]
        refine wpAny_bind (m := tryCompare (.ref a) _ (.ref b)) (ni_tryE T hr I ha (kn_tup hb) F.ft rfl fun s' I' => ?_)
        obtain ⟨mA', O', _⟩ := ins_get I'.hok ha
        obtain ⟨od', J', _⟩ := O'.look
        obtain ⟨its', r', ⟨oB', gB', cB', nB', eB'⟩, hz'⟩ := I'.tuple (SqT.of hb)
        obtain ⟨c1, c2, c3, c4⟩ := oB'
        dsimp only at cB' eB'
        subst cB' eB'
        have tyB' : s'.TypeIs (.ref b) "tuple" := ⟨_, gB', rfl⟩
        refine wpAny_bind (m := tryCompare (.ref b) _ (.ref a)) (wpAny_tryCompare_declines tyB' PySem.F.slot_tuple_eq_refl (call_meets PySem.F.slot_tuple_eq_refl tyB' PySem.F.entry_tuple_eq (PySem.F.args_tuple_eq_2 _ _) (tuple_eq_ins b a C _ _ _ _ _ _) ⟨gB', O'.obj, fun M => PySem.W.looks_subIn I'.kIn F.st, ⟨rfl, ?_⟩⟩))
        exact wpAny_bind (wpAny_rule (wpAny_bind (wpAny_isSame_ref_other hab J'.1 gB' (inst_nt J') (wpAny_pure ⟨.bl false, H, I', rfl, q⟩))))
      · rename_i z
        exact absurd (by simp) z
theorem op_neNX (T : NiC X.prog X.w X.K X.mg X.base k C) (F : NiX X.K C) (hr : Room (k + 1) X.A) (hu : X.A.units + 64 < cLine) : OpR X (compareOp .NotEq) (rNotEqNX X.K C) := by
  intro pins s σ H x y v u Q I rx ry ⟨h, q⟩
  obtain ⟨a, dx, fs, rfl, ha, ho⟩ := h
  show wpAny (model X.prog X.w) X.A (richCompare .NotEq v u) (EP X pins σ Q) X.xe s
  cases rx
  obtain ⟨mA, O, _⟩ := ins_get I.hok ha
  obtain ⟨od, J, _⟩ := O.look
  rcases ho with hy | ⟨b, ys, rfl, hb⟩
  · obtain ⟨t, sv⟩ := sc_of hy ry
    have h0 : oneThing? .NotEq (.ref a) u = none := by cases sv <;> rfl
    simp only [richCompare, cmpInfo_NotEq, h0]
    refine wpAny_holding (wpAny_bind (wpAny_cRoomFor (by omega) ?_))
    refine wpAny_bind (J.type.here (wpAny_bind (wpAny_typeOf (sv.ty s) ?_)))
    split
    · refine wpAny_bind ((PySem.W.looks_subIn I.kIn (by cases sv <;> rfl : PySem.W.subIn X.K (.type t) (.ref C) = some false)).here ?_)
      simp only [Bool.false_eq_true, if_false, Bool.not_false, if_true]
      refine wpAny_bind (m := tryCompare (.ref a) _ u) (ni_tryN T hr I ha sv.kn (F.kT t sv.mem) ry fun s' I' => ?_)
      obtain ⟨mA', O', _⟩ := ins_get I'.hok ha
      refine wpAny_bind (m := tryCompare u _ (.ref a)) (sc_ne sv O'.obj ?_)
      exact wpAny_bind (wpAny_rule (wpAny_bind (wpAny_of_eq (a := false) (by cases sv <;> rfl) (wpAny_pure ⟨.bl true, H, I', rfl, q⟩))))
    · rename_i z
      exact absurd (by cases sv <;> simp) z
  · cases ry
    have hab : a ≠ b := fun z => by
      subst z
      rcases hb with hb | hb <;> rw [hb] at ha <;> cases ha
    rcases hb with hb | hb
    · obtain ⟨its, r, ⟨oB, nB, gB, cB, dB, eB⟩, hz⟩ := I.list (SqL.of hb)
      have tyB : s.TypeIs (.ref b) "list" := ⟨oB, gB, cB⟩
      simp only [richCompare, cmpInfo_NotEq, oneThing_ref]
      refine wpAny_holding (wpAny_bind (wpAny_cRoomFor (by omega) ?_))
      refine wpAny_bind (J.type.here (wpAny_bind (wpAny_typeOf tyB ?_)))
      split
      · refine wpAny_bind ((PySem.W.looks_subIn I.kIn (by rfl : PySem.W.subIn X.K (.type "list") (.ref C) = some false)).here ?_)
        simp only [Bool.false_eq_true, if_false, Bool.not_false, if_true]
        refine wpAny_bind (m := tryCompare (.ref a) _ (.ref b)) (ni_tryN T hr I ha (kn_lst hb) F.fl rfl fun s' I' => ?_)
        obtain ⟨mA', O', _⟩ := ins_get I'.hok ha
        obtain ⟨od', J', _⟩ := O'.look
        obtain ⟨its', r', ⟨oB', nB', gB', cB', dB', eB'⟩, hz'⟩ := I'.list (SqL.of hb)
        obtain ⟨c1, c2, c3, c4⟩ := oB'
        dsimp only at cB' dB' eB'
        subst cB' dB' eB'
        have tyB' : s'.TypeIs (.ref b) "list" := ⟨_, gB', rfl⟩
        refine wpAny_bind (m := tryCompare (.ref b) _ (.ref a)) (wpAny_tryCompare_declines tyB' PySem.F.slot_list_ne_refl (call_meets PySem.F.slot_list_ne_refl tyB' PySem.F.entry_list_ne (PySem.F.args_list_ne_2 _ _) (list_ne_ins b a C _ _ _ _ _ _) ⟨gB', O'.obj, fun M => PySem.W.looks_subIn I'.kIn F.sl, ⟨rfl, ?_⟩⟩))
        exact wpAny_bind (wpAny_rule (wpAny_bind (wpAny_isSame_ref_other hab J'.1 gB' (inst_nt J') (wpAny_pure ⟨.bl true, H, I', rfl, q⟩))))
      · rename_i z
        exact absurd (by simp) z
    · obtain ⟨its, r, ⟨oB, gB, cB, nB, eB⟩, hz⟩ := I.tuple (SqT.of hb)
      have tyB : s.TypeIs (.ref b) "tuple" := ⟨oB, gB, cB⟩
      simp only [richCompare, cmpInfo_NotEq, oneThing_ref]
      refine wpAny_holding (wpAny_bind (wpAny_cRoomFor (by omega) ?_))
      refine wpAny_bind (J.type.here (wpAny_bind (wpAny_typeOf tyB ?_)))
      split
      · refine wpAny_bind ((PySem.W.looks_subIn I.kIn (by rfl : PySem.W.subIn X.K (.type "tuple") (.ref C) = some false)).here ?_)
        simp only [Bool.false_eq_true, if_false, Bool.not_false, if_true]
        refine wpAny_bind (m := tryCompare (.ref a) _ (.ref b)) (ni_tryN T hr I ha (kn_tup hb) F.ft rfl fun s' I' => ?_)
        obtain ⟨mA', O', _⟩ := ins_get I'.hok ha
        obtain ⟨od', J', _⟩ := O'.look
        obtain ⟨its', r', ⟨oB', gB', cB', nB', eB'⟩, hz'⟩ := I'.tuple (SqT.of hb)
        obtain ⟨c1, c2, c3, c4⟩ := oB'
        dsimp only at cB' eB'
        subst cB' eB'
        have tyB' : s'.TypeIs (.ref b) "tuple" := ⟨_, gB', rfl⟩
        refine wpAny_bind (m := tryCompare (.ref b) _ (.ref a)) (wpAny_tryCompare_declines tyB' PySem.F.slot_tuple_ne_refl (call_meets PySem.F.slot_tuple_ne_refl tyB' PySem.F.entry_tuple_ne (PySem.F.args_tuple_ne_2 _ _) (tuple_ne_ins b a C _ _ _ _ _ _) ⟨gB', O'.obj, fun M => PySem.W.looks_subIn I'.kIn F.st, ⟨rfl, ?_⟩⟩))
        exact wpAny_bind (wpAny_rule (wpAny_bind (wpAny_isSame_ref_other hab J'.1 gB' (inst_nt J') (wpAny_pure ⟨.bl true, H, I', rfl, q⟩))))
      · rename_i z
        exact absurd (by simp) z
end
end Up

set_option Elab.async false
set_option linter.all false
set_option pp.maxSteps 900
set_option maxRecDepth 100000
set_option maxHeartbeats 4000000
set_option exponentiation.threshold 200000
namespace Up
open PySem PySem.Spec PyProof.Rows L2
local macro_rules | `(tactic| walk_at "u") => `(tactic| first
  | with_reducible refine g_seq ?_
  | with_reducible refine g_asg ?_
  | with_reducible refine g_op ?_
  | ((with_reducible show tVar _ _ _ _); apply g_var; exact rfl)
  | with_reducible refine g_c ?_
  | with_reducible refine g_name ?_
  | with_reducible refine g_ifs ?_
  | with_reducible refine g_tt ?_
  | with_reducible refine g_tB ?_
  | with_reducible refine g_bl ?_
  | with_reducible refine g_ret ?_
  | with_reducible refine g_cb ?_
  | with_reducible refine g_cons ?_
  | with_reducible refine g_nil ?_
  | with_reducible refine g_call ?_
  | with_reducible refine g_and ?_
  | with_reducible refine g_or ?_
  | with_reducible refine g_not ?_
  | with_reducible refine g_andV ?_
  | with_reducible refine g_orV ?_
  | with_reducible refine g_notV ?_
  | with_reducible refine g_if ?_
  | with_reducible refine g_un ?_
  | with_reducible refine g_neg ?_
  | with_reducible refine g_addI ?_
  | with_reducible refine g_subI ?_
  | with_reducible refine g_subB ?_
  | with_reducible refine g_I0 ?_
  | with_reducible refine g_cmpI ?_
  | with_reducible refine g_eqI ?_
  | with_reducible refine g_neI ?_
  | with_reducible refine g_eqS ?_
  | with_reducible refine g_neS ?_
  | with_reducible refine g_eqB ?_
  | with_reducible refine g_neB ?_
  | with_reducible refine g_bits ?_
  | with_reducible refine g_bitsI ?_
  | with_reducible refine g_fld ?_
  | with_reducible refine g_tup ?_
  | with_reducible refine g_lst ?_
  | with_reducible refine g_gtup ?_
  | with_reducible refine g_make ?_
  | with_reducible refine g_lc ?_
  | with_reducible refine g_yesT ?_
  | with_reducible refine g_intI ?_
  | with_reducible refine g_intB ?_
  | with_reducible refine g_max2 ?_
  | with_reducible refine g_abs1 ?_
  | with_reducible refine g_for ?_
  | with_reducible refine g_iList ?_
  | with_reducible refine g_iTup ?_
  | with_reducible refine g_iRng1 ?_
  | with_reducible refine g_iEnum ?_
  | with_reducible refine g_slice ?_
  | with_reducible refine g_po0 ?_
  | with_reducible refine g_po1 ?_
  | with_reducible refine g_gsub ?_
  | with_reducible refine g_par ?_
  | with_reducible refine g_par2 ?_
  | with_reducible refine g_rfl ?_
  | with_reducible refine g_meth ?_
  | with_reducible refine g_gcons ?_
  | with_reducible refine g_gnil ?_
  | with_reducible refine g_gfld ?_
  | with_reducible refine g_sfld ?_
  | with_reducible refine g_drop ?_
  | with_reducible refine g_next ?_
  | with_reducible refine iteT ?_
  | with_reducible refine iteF ?_)
local macro_rules | `(tactic| walk_at "go") => `(tactic| (repeat walk_at "u"))
local macro_rules | `(tactic| walk_at "f") => `(tactic| (repeat (first
  | walk_at "u"
  | with_reducible refine g_chain ?_
  | with_reducible refine g_par3 ?_
  | with_reducible refine g_par3' ?_
  | ((with_reducible refine show_ex ?_); first
    | refine fT (by assumption) (by assumption) ?_
    | refine fS (by assumption) (by assumption) ?_
    | refine fP (by assumption) (by assumption) ?_))))

section
variable {P : Program} {w : World} {K : PySem.W.Frag} {mg : Str → Option Value} {base : Heap} {C CI L : Addr} {H : Hp} {Q : VK} {v u : V} {x y : FL}
theorem ni_float1 {f : Addr} {fd : FuncData} (F : FunD K "__eq__" "Float.__eq__" (defArgs s_Float_eq) (defBody s_Float_eq) (defScope s_Float_eq) [] [] f fd) (B : Blt mg) (T : FlC K mg C) (hm : mg "NotImplemented" = none) (h1 : PySem.W.findIn K (.ref C) "__eq__" = some (some (.ref f))) (h2 : PySem.W.isFn K (.ref f) = true) (h3 : PySem.W.findIn K (.ref C) "__ne__" = some (some (.builtin "object.__ne__"))) (h4 : PySem.W.mroIn K C (.type "object") = some true)
    (hb : Binds K fd ["self", "other"] []) : NiC P w K mg base 1 C := by
  refine ⟨f, h1, h2, h3, h4, fun A outer s H a dx fs y u t hr e0 ha hk hf ru => ?_⟩
  have g_Float : mg "Float" = some (.ref C) := T.mg
  refine ni_run (k := 0) (N := ["self", "other"]) (ps := ["self", "other"]) (vs := [.ref a, y]) (tc := tNot (tB (tCB (rIsi K) (tCons (tVar 1) (tCons (tC (.ref C)) tNil))))) F sc_Float_eq hb hm rfl hr e0 (.cons rfl (.cons ru .nil)) rfl (fun cdv => by exact (pt_not (pt_val (pe_callB call_isi (by rfl) B.isinstance (by decide +kernel) (pa_cons (pv 1) (pa_cons (pe_gref g_Float) pa_nil)))))) ?_
  walk_at "f"
  refine g_isi hk.ty (.own _) hf ?_
  walk_at "f"
  exact ⟨rfl, rfl⟩
theorem g_eqF (h1 : FA C H v x) (h2 : FA C H u y) (ox : x.ok) (oy : y.ok) (q : ∀ H', Same H H' → Q (.bl (eqL x y)) H') : rEqO C (sp_Feq C) v u H Q := by
  obtain ⟨a, rfl, dx, ha⟩ := id h1
  obtain ⟨b, rfl, dy, hb⟩ := id h2
  exact ⟨a, b, dx, dy, _, _, rfl, rfl, ha, hb, _, _, x, y, rfl, h1, h2, ox, oy, fun H' s => ⟨_, rfl, q H' s⟩⟩
theorem g_neF (h1 : FA C H v x) (h2 : FA C H u y) (ox : x.ok) (oy : y.ok) (q : ∀ H', Same H H' → Q (.bl (!eqL x y)) H') : rNeO C (sp_Feq C) v u H Q := by
  obtain ⟨a, rfl, dx, ha⟩ := id h1
  obtain ⟨b, rfl, dy, hb⟩ := id h2
  exact ⟨a, b, dx, dy, _, _, rfl, rfl, ha, hb, _, _, x, y, rfl, h1, h2, ox, oy, fun H' s => ⟨_, rfl, q H' s⟩⟩
theorem red_shl {t : Nat} (t0 : t ≠ 0) (p : Int) : ∀ m : Nat, redV (.int ((t * 2 ^ m : Nat) : Int)) (p - m) = redV (.int (t : Nat)) p
  | 0 => by rw [Nat.pow_zero, Nat.mul_one]; congr 1; omega
  | m + 1 => by
    have p2 : 0 < 2 ^ m := Nat.pow_pos (by decide)
    have e2 : t * 2 ^ (m + 1) = 2 * (t * 2 ^ m) := by rw [Nat.pow_succ, Nat.mul_comm (2 ^ m) 2, ← Nat.mul_assoc, Nat.mul_comm t 2, Nat.mul_assoc]
    have h := red_half (m := t * 2 ^ (m + 1)) (by rw [e2]; have := Nat.mul_pos (Nat.pos_of_ne_zero t0) p2; omega) (by rw [e2]; omega) (p - ((m + 1 : Nat) : Int))
    rw [← h, show t * 2 ^ (m + 1) / 2 = t * 2 ^ m by rw [e2]; omega, show p - ((m + 1 : Nat) : Int) + 1 = p - (m : Nat) by omega]
    exact red_shl t0 p m
theorem red_shl0 (t : Nat) (p : Int) (m : Nat) : redV (.int ((t * 2 ^ m : Nat) : Int)) (p - m) = redV (.int (t : Nat)) p := by
  by_cases h : t = 0
  · subst h
    rw [Nat.zero_mul]
    rfl
  · exact red_shl h p m
theorem upd_sm1 {H H4 : Hp} {p : Addr} {o : HO} (S : Same H H4) (h : H p = none) : Same H (upd H4 p o) := fun b u e => by rw [upd_ne (ne_of_none e h)]; exact S b u e
theorem red_ne (t : Nat) (p : Int) : redV (.int ((t + 1 : Nat) : Int)) p ≠ redV (.int (t : Nat)) p := by
  intro h
  rw [red_nat (show t + 1 ≠ 0 by omega)] at h
  by_cases t0 : t = 0
  · subst t0
    rw [tz_odd (by decide)] at h
    have := congrArg Prod.fst h
    cases this
  · rw [red_nat t0] at h
    injection h with h1 h2
    have e1 : (t + 1) / 2 ^ tz (t + 1) = t / 2 ^ tz t := by
      injection h1 with h1
      exact_mod_cast h1
    have e2 : tz (t + 1) = tz t := by omega
    have a := (land_pred (t + 1) (by omega)).2.2.2
    have b := (land_pred t t0).2.2.2
    rw [e2] at a e1
    rw [e1] at a
    omega
theorem sc_Lmaderight : FnScope ["_law_well_here", "_law_sign", "_law_top", "_law_power", "_law_more", "_law_due", "_law_one_here", "_law_other", "_law_some", "_law_odd_here", "_law_last"] ["_law_well_here"] (defScope s_Lmaderight) := ⟨rfl, rfl, rfl, by decide +kernel, rfl, by decide +kernel, by decide +kernel⟩
def sp_Lmade : Sp := fun vs H Q _ => ∃ a, vs = [.ref a] ∧ Well H a ∧ ∀ H', Stp a H H' → Well H' a → Q (.bl true) H'
theorem ok_Lmade {f : Addr} {fd : FuncData} (F : FunD K "_law_made_right" "_law_made_right" (defArgs s_Lmaderight) (defBody s_Lmaderight) (defScope s_Lmaderight) [] [] f fd) (B : Blt mg) (T : FlC K mg C) (c_Float : CnF P w K mg base C) (c_Feq : EqC P w K mg base 1 C (sp_Feq C)) (niF : NiC P w K mg base 1 C) (nx : NiX K C) (c_Ldraw : Fn P w K mg base CX0 1 "_law_draw" ["_law_well_here", "_law_many"] [] sp_Ldraw)
    (c_Lfinite : Fn P w K mg base CX0 3 "_law_finite" ["_law_well_here"] [] sp_Lfinite) (c_Lodd : Fn P w K mg base CX0 1 "_law_odd" ["_law_top", "_law_power"] [] sp_Lodd) (c_Lisfloat : Fn P w K mg base CX0 1 "_law_is_float" ["_law_top", "_law_power"] [] sp_Lisfloat)
    (c_tofloat : Fn P w K mg base CX0 6 "to_float" ["number"] [] (sp_tofloat C)) (c_isnumber : Fn P w K mg base CX0 2 "is_number" ["thing"] [] (sp_isnumber K C)) : FnOk P w K mg base CX0 7 f fd ["_law_well_here"] sp_Lmade := by
  refine F.ok sc_Lmaderight (fun vs H Q E h => ?_) (fun cdv A outer s H vs Q E hr h => ?_)
  · obtain ⟨_, rfl, _⟩ := h; rfl
  · obtain ⟨wl, rfl, hw, q⟩ := h
    refine ⟨_, PSs.nox (pss_cons (ps_asg (pe_fn c_Lfinite (hr.mono (by first | decide | omega)) pass0 (pa_cons (pv 0) pa_nil)) (pg_tup rfl (pgs_cons (pg_name (i := 1) sc_Lmaderight.nd rfl (Or.inl rfl)) (pgs_cons (pg_name (i := 2) sc_Lmaderight.nd rfl (Or.inl rfl)) (pgs_cons (pg_name (i := 3) sc_Lmaderight.nd rfl (Or.inl rfl)) pgs_nil)))))
  (pss_cons (ps_set (i := 4) sc_Lmaderight.nd rfl (Or.inl rfl) (pe_fn c_Ldraw (hr.mono (by first | decide | omega)) pass0 (pa_cons (pv 0) (pa_cons pe_int pa_nil))))
  (pss_cons (ps_set (i := 5) sc_Lmaderight.nd rfl (Or.inl rfl) (pe_op op_oAdd (pe_tupN (pa_cons (pv 1) pa_nil)) (pe_fn c_Lodd (hr.mono (by first | decide | omega)) pass0 (pa_cons (pv 2) (pa_cons (pv 3) pa_nil)))))
  (pss_cons (ps_par (i := 6) (j := 7) rfl sc_Lmaderight.nd rfl rfl (by decide) rfl rfl (pa_cons (pe_cn c_Float (hr.mono (by first | decide | omega)) pass0 (pa_cons (pv 1) (pa_cons (pv 2) (pa_cons (pv 3) pa_nil)))) (pa_cons (pe_cn c_Float (hr.mono (by first | decide | omega)) pass0 (pa_cons (pv 1) (pa_cons (pe_op op_oShl (pv 2) (pv 4)) (pa_cons (pe_op op_oSub (pv 3) (pv 4)) pa_nil)))) pa_nil)) (by rfl))
  (pss_cons (ps_if (pt_cmpR (op_oNe hr.units) (pe_lc (own := [("_law_some", 8)]) (g := gName 8) rfl sc_Lmaderight.nd (pi_list (pe_lstN (pa_cons (pv 6) (pa_cons (pv 7) pa_nil)))) (blkOk_by (own := [("_law_some", 8)]) (N := ["_law_well_here", "_law_sign", "_law_top", "_law_power", "_law_more", "_law_due", "_law_one_here", "_law_other", "_law_some", "_law_odd_here", "_law_last"]) (sc := defScope s_Lmaderight) (by decide +kernel)) (fun _ _ _ _ _ => pg_name (i := 8) sc_Lmaderight.nd rfl (Or.inl rfl)) (fun _ _ _ _ _ => pts_nil) (fun _ _ _ _ _ => (pe_tupN (pa_cons (pe_fldE K rfl (pv 8) rfl) (pa_cons (pe_fldE K rfl (pv 8) rfl) (pa_cons (pe_fldE K rfl (pv 8) rfl) pa_nil)))))) (pe_lstN (pa_cons (pv 5) (pa_cons (pv 5) pa_nil))) (nomark _)) (pss_one (ps_ret pe_bl)) pss_nil)
  (pss_cons (ps_if (PW.pt (pw_or (pt_cmpR (op_neO c_Feq (hr.mono (by decide))) (pv 6) (pv 7) (nomark _)) (pw_or (pt_not (pt_cmpR (op_eqO c_Feq (hr.mono (by decide))) (pv 6) (pv 7) (nomark _))) (pw_or1 (pt_cmpR (op_neO c_Feq (hr.mono (by decide))) (pe_fn c_tofloat (hr.mono (by first | decide | omega)) pass0 (pa_cons (pv 6) pa_nil)) (pv 6) (nomark _)))))) (pss_one (ps_ret pe_bl)) pss_nil)
  (pss_cons (ps_if (pt_cmpR (op_eqO c_Feq (hr.mono (by decide))) (pv 6) (pe_cn c_Float (hr.mono (by first | decide | omega)) pass0 (pa_cons (pe_op op_oSub pe_int (pv 1)) (pa_cons (pv 2) (pa_cons (pv 3) pa_nil)))) (nomark _)) (pss_one (ps_ret pe_bl)) pss_nil)
  (pss_cons (ps_for PassesOwn.never rfl (pi_list (pe_lstN (pa_cons (pv 5) (pa_cons (pv 2) (pa_cons pe_non (pa_cons pe_str (pa_cons (pe_lstN (pa_cons (pv 6) pa_nil)) (pa_cons (pe_cn c_Float (hr.mono (by first | decide | omega)) pass0 (pa_cons (pv 1) (pa_cons pe_str (pa_cons pe_int pa_nil)))) pa_nil)))))))) (pg_name (i := 9) sc_Lmaderight.nd rfl (Or.inl rfl))
    (pss_one (ps_if (PW.pt (pw_or (pt_cmpR (op_or (op_eqO c_Feq (hr.mono (by decide))) (op_eqNX niF nx (hr.mono (by decide)) hr.units)) (pv 6) (pv 9) (nomark _)) (pw_or1 (pt_not (pt_cmpR (op_or (op_neO c_Feq (hr.mono (by decide))) (op_neNX niF nx (hr.mono (by decide)) hr.units)) (pv 6) (pv 9) (nomark _)))))) (pss_one (ps_ret pe_bl)) pss_nil)))
  (pss_cons (ps_set (i := 10) sc_Lmaderight.nd rfl (Or.inl rfl) (pe_fn c_Lodd (hr.mono (by first | decide | omega)) pass0 (pa_cons (pe_op op_oAdd (pv 2) pe_int) (pa_cons (pv 3) pa_nil))))
  (pss_cons (ps_if (PW.pt (pw_and (pt_val (pe_fn c_Lisfloat (hr.mono (by first | decide | omega)) pass0 (pa_cons (pe_ix ix_seq (pv 10) pe_int (fun _ _ => rfl)) (pa_cons (pe_ix ix_seq (pv 10) pe_int (fun _ _ => rfl)) pa_nil)))) (pw_and1 (pt_cmpR (op_eqO c_Feq (hr.mono (by decide))) (pe_cn c_Float (hr.mono (by first | decide | omega)) pass0 (pa_cons (pv 1) (pa_cons (pe_op op_oAdd (pv 2) pe_int) (pa_cons (pv 3) pa_nil)))) (pv 6) (nomark _))))) (pss_one (ps_ret pe_bl)) pss_nil)
  (pss_one (ps_ret (pe_fn c_isnumber (hr.mono (by first | decide | omega)) pass0 (pa_cons (pv 6) pa_nil)))))))))))))), ?_⟩
    walk_at "f"
    refine ⟨wl, rfl, hw, fun b H1 sg t p n1 s1 hw1 h1 hd => ?_⟩
    have mk := hd.mk
    obtain ⟨hs, t0, t1, p0, p1⟩ := hd
    obtain ⟨t, rfl⟩ := Int.eq_ofNat_of_zero_le t0
    refine ⟨b, _, rfl, SqT.of h1, rfl, ?_⟩
    walk_at "f"
    refine ⟨wl, 70, rfl, by decide, by decide, hw1, fun m H2 m0 m1 s2 hw2 => ?_⟩
    obtain ⟨m, rfl⟩ := Int.eq_ofNat_of_zero_le m0
    have S := s1.trans s2
    walk_at "f"
    refine g_new (sz rfl) fun a3 H3 n3 s3 h3 _ => ?_
    walk_at "f"
    refine ⟨t, p, rfl, by omega, fun H4 a4 n4 s4 h4 => ?_⟩
    refine .inr ⟨a3, a4, _, _, rfl, rfl, SqT.of (s4 _ _ h3), SqT.of h4, sz rfl, by simp, by simp, ?_⟩
    refine g_new9 fun a5 H5 n5 s5 h5 => ?_
    walk_at "f"
    obtain ⟨m', hm, q', hq⟩ : ∃ m' : Nat, (redV (.int (t : Nat)) p).1 = .int (m' : Nat) ∧ ∃ q', (redV (.int (t : Nat)) p).2 = q' := by
      by_cases n0 : t = 0
      · subst n0; exact ⟨0, rfl, _, rfl⟩
      · rw [red_nat n0]; exact ⟨_, rfl, _, rfl⟩
    have ok : FlOk sg (.int (m' : Nat)) q' := by
      have := mk_flok mk
      rw [hm, hq] at this
      exact this
    refine mkF mk fun H6 a6 n6 s6 h6 => ?_
    rw [hm, hq] at h6
    walk_at "f"
    refine g_II (shl_small (by omega) (by omega) (lt_pow_mono (a := 53) (by omega) (by decide))) ?_
    rw [show ((t : Nat) : Int) * 2 ^ ((m : Nat) : Int).toNat = ((t * 2 ^ m : Nat) : Int) by rw [Int.toNat_natCast, Int.natCast_mul, Int.natCast_pow]; rfl]
    walk_at "f"
    have mk2 : MkOk sg (.int ((t * 2 ^ m : Nat) : Int)) (p - m) := by
      refine ⟨hs, .inr (.inr ⟨t * 2 ^ m, rfl, ?_⟩)⟩
      rw [red_shl0]
      rcases mk.2 with ⟨z, _⟩ | ⟨z, _⟩ | ⟨n, e, m2, e2, e3⟩
      · cases z
      · cases z
      · exact ⟨m2, e2, e3⟩
    refine mkF mk2 fun H7 a7 n7 s7 h7 => ?_
    rw [red_shl0, hm, hq] at h7
    rw [hm, hq] at h5
    walk_at "f"
    refine g_new (sz rfl) fun l8 H8 n8 s8 h8 _ => ?_
    have f6 : FlAt C H8 a6 sg (.int (m' : Nat)) q' := h6.same (s7.trans s8)
    have f7 : FlAt C H8 a7 sg (.int (m' : Nat)) q' := h7.same s8
    replace h5 := s8 _ _ (s7 _ _ (s6 _ _ h5))
    have h5 : H8 a5 = some (.tup [.int sg, .int (m' : Nat), .int q']) := h5
    replace S := (((((S.trans (Stp.of s3)).trans (Stp.of s4)).trans (Stp.of s5)).trans (Stp.of s6)).trans (Stp.of s7)).trans (Stp.of s8)
    have hw8 := ((((((hw2.same s3).same s4).same s5).same s6).same s7).same s8)
    refine ⟨l8, rfl, ⟨_, SqL.of h8⟩, fun D nD => ?_⟩
    refine lc_list (K := K) (a := l8) (xs := [.ref a6, .ref a7]) (fun i H' => Same H8 H' ∧ ∃ acc, H' D = some (.lst acc) ∧ acc.length = i ∧ ∀ v ∈ acc, ∃ b, v = .ref b ∧ H' b = some (.tup [.int sg, .int (m' : Nat), .int q'])) ⟨upd_sm1 (Same.refl _) nD, [], upd_same, rfl, fun _ z => nomatch z⟩ ?_ ?_ ?_
    · rintro i H' _ ⟨u1, _⟩
      exact SqL.of (u1 _ _ h8)
    · rintro i z H' hz ⟨u1, acc, d1, d2, d3⟩
      obtain ⟨a9, rfl, f9⟩ : ∃ a9, z = .ref a9 ∧ FlAt C H' a9 sg (.int (m' : Nat)) q' := by
        have := List.mem_of_getElem? hz
        simp only [List.mem_cons, List.not_mem_nil, or_false] at this
        rcases this with rfl | rfl
        · exact ⟨_, rfl, f6.same u1⟩
        · exact ⟨_, rfl, f7.same u1⟩
      walk_at "f"
      refine ⟨rfl, ?_⟩
      walk_at "f"
      refine g_new (sz rfl) fun b9 H9 n9 u9 h9 _ => ?_
      have d9 := u9 _ _ d1
      have neD : b9 ≠ D := fun z => by rw [z, d9] at h9; cases h9
      refine ⟨acc, d9, ?_, upd_sm1 (u1.trans u9) nD, acc ++ [.ref b9], upd_same, by rw [List.length_append, d2]; rfl, fun v hv => ?_⟩
      · have := (List.getElem?_eq_some_iff.mp hz).1
        rw [d2]
        exact Nat.lt_of_lt_of_le this (show 2 ≤ sizeLine by decide)
      · rcases List.mem_append.mp hv with hv | hv
        · obtain ⟨b, rfl, hb⟩ := d3 v hv
          refine ⟨b, rfl, ?_⟩
          rw [upd_ne (fun z => by rw [z, d1] at hb; cases hb)]
          exact u9 _ _ hb
        · rw [List.mem_singleton.mp hv]
          refine ⟨b9, rfl, ?_⟩
          rw [upd_ne neD]
          exact h9
    rintro H9 ⟨u9, acc, d1, d2, d3⟩
    match acc, d2 with
    | [v1, v2], _ =>
      obtain ⟨b1, rfl, e1⟩ := d3 v1 List.mem_cons_self
      obtain ⟨b2, rfl, e2⟩ := d3 v2 (List.mem_cons_of_mem _ List.mem_cons_self)
      walk_at "f"
      refine g_new (sz rfl) fun l10 H10 n10 u10 h10 _ => ?_
      have ty : ∀ {b : Addr}, H10 b = some (.tup [.int sg, .int (m' : Nat), .int q']) → Dp K H10 (.ref b) (.tuple [.int sg, .int (m' : Nat), .int q']) := fun h => .tup (SqT.of h) (.cons (.int _) (.cons (.int _) (.cons (.int _) .nil)))
      have e5 := u10 _ _ (u9 _ _ h5)
      refine .inr ⟨.list [.tuple [.int sg, .int (m' : Nat), .int q'], .tuple [.int sg, .int (m' : Nat), .int q']], .list [.tuple [.int sg, .int (m' : Nat), .int q'], .tuple [.int sg, .int (m' : Nat), .int q']], .lst (SqL.of (u10 _ _ d1)) (.cons (ty (u10 _ _ e1)) (.cons (ty (u10 _ _ e2)) .nil)), .lst (SqL.of h10) (.cons (ty e5) (.cons (ty e5) .nil)), rfl, rfl, ?_⟩
      have ev : PyData.eqv (.list [.tuple [.int sg, .int (m' : Nat), .int q'], .tuple [.int sg, .int (m' : Nat), .int q']]) (.list [.tuple [.int sg, .int (m' : Nat), .int q'], .tuple [.int sg, .int (m' : Nat), .int q']]) = true := by
        simp [PyData.eqv, PyData.eqvAll]
      rw [ev]
      refine ⟨false, rfl, ?_⟩
      walk_at "f"
      have U := u9.trans u10
      have ox : (⟨sg, .int (m' : Nat), q'⟩ : FL).ok := ok
      have x6 : FA C H10 (.ref a6) ⟨sg, .int (m' : Nat), q'⟩ := ⟨a6, rfl, f6.same U⟩
      have x7 : FA C H10 (.ref a7) ⟨sg, .int (m' : Nat), q'⟩ := ⟨a7, rfl, f7.same U⟩
      refine g_neF x6 x7 ox ox fun H11 u11 => ?_
      rw [eqL_refl]
      replace x6 := x6.same u11
      replace x7 := x7.same u11
      replace U := U.trans u11
      walk_at "f"
      refine g_nt ?_
      walk_at "f"
      refine g_eqF x6 x7 ox ox fun H12 u12 => ?_
      rw [eqL_refl]
      replace x6 := x6.same u12
      replace U := U.trans u12
      walk_at "f"
      refine g_nt ?_
      walk_at "f"
      refine ⟨.ref a6, .f sg (.int (m' : Nat)) q', rfl, ⟨a6, rfl, f6.same U, ok⟩, ?_⟩
      dsimp only
      walk_at "f"
      refine g_neF x6 x6 ox ox fun H13 u13 => ?_
      rw [eqL_refl]
      replace x6 := x6.same u13
      replace U := U.trans u13
      walk_at "f"
      refine g_nt ?_
      walk_at "f"
      have mk3 : MkOk (0 - sg) (.int (t : Nat)) p := by
        refine ⟨by rcases hs with rfl | rfl <;> decide, ?_⟩
        rcases mk.2 with ⟨z, _⟩ | ⟨z, _⟩ | h
        · cases z
        · cases z
        · exact .inr (.inr h)
      refine mkF mk3 fun H14 a14 n14 u14 f14 => ?_
      have ok14 := mk_flok mk3
      rw [hm, hq] at f14 ok14
      replace x6 := x6.same u14
      replace U := U.trans u14
      walk_at "f"
      refine g_eqF x6 (y := ⟨0 - sg, .int (m' : Nat), q'⟩) ⟨a14, rfl, f14⟩ ox ok14 fun H15 u15 => ?_
      have ne : eqL ⟨sg, .int (m' : Nat), q'⟩ ⟨0 - sg, .int (m' : Nat), q'⟩ = false := by
        unfold eqL
        rw [decide_eq_false (show ¬ sg = 0 - sg by rcases hs with rfl | rfl <;> decide)]
        rfl
      rw [ne]
      replace x6 := x6.same u15
      replace U := U.trans u15
      walk_at "f"
      refine g_new (sz rfl) fun l16 H16 n16 u16 h16 _ => ?_
      walk_at "f"
      refine mkF (mk_inf hs) fun H17 a17 n17 u17 f17 => ?_
      have ok17 : (⟨sg, .str "inf", 0⟩ : FL).ok := mk_flok (mk_inf hs)
      walk_at "f"
      refine g_new (sz rfl) fun l18 H18 n18 u18 h18 _ => ?_
      replace U := ((U.trans u16).trans u17).trans u18
      replace x6 := ((x6.same u16).same u17).same u18
      have x17 : FA C H18 (.ref a17) ⟨sg, .str "inf", 0⟩ := FA.same ⟨a17, rfl, f17⟩ u18
      have h16 := u18 _ _ (u17 _ _ h16)
      have e5 := U _ _ h5
      refine ⟨l18, rfl, ⟨_, SqL.of h18⟩, ?_⟩
      refine for_list (K := K) (a := l18) (xs := [.ref a5, .int (t : Nat), .non, .str "inf", .ref l16, .ref a17]) (fun i σ' H' => ∃ e8 e9 e10, σ' = [some (.ref wl), some (.int sg), some (.int (t : Nat)), some (.int p), some (.int (m : Nat)), some (.ref a5), some (.ref a6), some (.ref a7), e8, e9, e10] ∧ Same H18 H') ⟨_, _, _, rfl, Same.refl _⟩ ?_ ?_ ?_
      · rintro i _ H' _ ⟨_, _, _, _, sH⟩
        exact SqL.of (sH _ _ h18)
      · rintro i z _ H19 hz ⟨e8, e9, e10, rfl, u19⟩
        have x6 := x6.same u19
        have x17 := x17.same u19
        have cases2 : z = .ref a17 ∨ NxV H19 z := by
          have := List.mem_of_getElem? hz
          simp only [List.mem_cons, List.not_mem_nil, or_false] at this
          rcases this with rfl | rfl | rfl | rfl | rfl | rfl
          · exact .inr (.inr ⟨_, _, rfl, .inr (u19 _ _ e5)⟩)
          · exact .inr (.inl rfl)
          · exact .inr (.inl rfl)
          · exact .inr (.inl rfl)
          · exact .inr (.inr ⟨_, _, rfl, .inl (u19 _ _ h16)⟩)
          · exact .inl rfl
        obtain ⟨dx6, i6⟩ := (f6.same U).same u19
        rcases cases2 with rfl | nv
        · have ne2 : eqL ⟨sg, .int (m' : Nat), q'⟩ ⟨sg, .str "inf", 0⟩ = false := by
            unfold eqL
            rw [decide_eq_false (show ¬ (V.int (m' : Nat) = V.str "inf") from fun z => nomatch z), Bool.false_and, Bool.and_false]
          walk_at "f"
          refine .inl (g_eqF x6 x17 ox ok17 fun H20 u20 => ?_)
          rw [ne2]
          walk_at "f"
          refine .inl (g_neF (x6.same u20) (x17.same u20) ox ok17 fun H21 u21 => ?_)
          rw [ne2]
          refine ⟨true, rfl, ?_⟩
          refine g_nt ?_
          walk_at "f"
          exact ⟨_, _, _, rfl, (u19.trans u20).trans u21⟩
        · walk_at "f"
          refine .inr ⟨⟨a6, dx6, _, rfl, i6, nv⟩, ?_⟩
          walk_at "f"
          refine .inr ⟨⟨a6, dx6, _, rfl, i6, nv⟩, ?_⟩
          walk_at "f"
          refine g_nt ?_
          walk_at "f"
          exact ⟨_, _, _, rfl, u19⟩
      · rintro _ H19 ⟨e8, e9, e10, rfl, u19⟩
        replace x6 := x6.same u19
        replace U := U.trans u19
        walk_at "f"
        rw [show ((t : Nat) : Int) + 1 = ((t + 1 : Nat) : Int) by omega]
        refine ⟨t + 1, p, rfl, by omega, fun H20 a20 n20 u20 h20 => ?_⟩
        replace x6 := x6.same u20
        replace U := U.trans u20
        walk_at "f"
        obtain ⟨m2, hm2, q2, hq2⟩ : ∃ m2 : Nat, (redV (.int ((t + 1 : Nat) : Int)) p).1 = .int (m2 : Nat) ∧ ∃ q2, (redV (.int ((t + 1 : Nat) : Int)) p).2 = q2 := by
          rw [red_nat (by omega)]
          exact ⟨_, rfl, _, rfl⟩
        rw [hm2, hq2] at h20
        refine g_ixT h20 (atI_of (by decide) rfl) ?_
        walk_at "f"
        refine g_ixT h20 (atI_of (by decide) rfl) ?_
        walk_at "f"
        refine ⟨m2, q2, rfl, ?_⟩
        have fin : ∀ H', Same H20 H' → sp_isnumber K C [.ref a6] H' (fun x H' => Q x H') E0 := fun H' u => ⟨_, _, true, rfl, kf_fl T ((f6.same U).same u), q _ (S.trans (Stp.of (U.trans u))) (hw8.same (U.trans u))⟩
        cases hf : fitsB m2 q2 with
        | false =>
          walk_at "f"
          exact fin _ (Same.refl _)
        | true =>
          have mk4 : MkOk sg (.int ((t + 1 : Nat) : Int)) p := ⟨hs, .inr (.inr ⟨t + 1, rfl, m2, hm2, by rw [hq2]; exact hf⟩)⟩
          have ok21 := mk_flok mk4
          rw [hm2, hq2] at ok21
          walk_at "f"
          rw [show ((t : Nat) : Int) + 1 = ((t + 1 : Nat) : Int) by omega]
          refine mkF mk4 fun H21 a21 n21 u21 f21 => ?_
          rw [hm2, hq2] at f21
          walk_at "f"
          refine g_eqF (x := ⟨sg, .int (m2 : Nat), q2⟩) ⟨a21, rfl, f21⟩ (x6.same u21) ok21 ox fun H22 u22 => ?_
          have ne3 : eqL ⟨sg, .int (m2 : Nat), q2⟩ ⟨sg, .int (m' : Nat), q'⟩ = false := by
            cases e : eqL ⟨sg, .int (m2 : Nat), q2⟩ ⟨sg, .int (m' : Nat), q'⟩ with
            | false => rfl
            | true =>
              unfold eqL at e
              simp only [Bool.and_eq_true, decide_eq_true_eq] at e
              exact absurd (Prod.ext (hm2.trans (e.2.1.trans hm.symm)) (hq2.trans (e.2.2.trans hq.symm))) (red_ne t p)
          rw [ne3]
          walk_at "f"
          exact fin _ (u21.trans u22)
end
end Up

set_option Elab.async false
set_option linter.all false
set_option pp.maxSteps 900
set_option maxRecDepth 100000
set_option maxHeartbeats 4000000
set_option exponentiation.threshold 200000
namespace Up
open PySem PySem.Spec PyProof.Rows L2
local macro_rules | `(tactic| walk_at "u") => `(tactic| first
  | with_reducible refine g_seq ?_
  | with_reducible refine g_asg ?_
  | with_reducible refine g_op ?_
  | ((with_reducible show tVar _ _ _ _); apply g_var; exact rfl)
  | with_reducible refine g_c ?_
  | with_reducible refine g_name ?_
  | with_reducible refine g_ifs ?_
  | with_reducible refine g_tt ?_
  | with_reducible refine g_tB ?_
  | with_reducible refine g_bl ?_
  | with_reducible refine g_ret ?_
  | with_reducible refine g_cb ?_
  | with_reducible refine g_cons ?_
  | with_reducible refine g_nil ?_
  | with_reducible refine g_call ?_
  | with_reducible refine g_and ?_
  | with_reducible refine g_or ?_
  | with_reducible refine g_not ?_
  | with_reducible refine g_andV ?_
  | with_reducible refine g_orV ?_
  | with_reducible refine g_notV ?_
  | with_reducible refine g_if ?_
  | with_reducible refine g_un ?_
  | with_reducible refine g_neg ?_
  | with_reducible refine g_addI ?_
  | with_reducible refine g_subI ?_
  | with_reducible refine g_subB ?_
  | with_reducible refine g_I0 ?_
  | with_reducible refine g_cmpI ?_
  | with_reducible refine g_eqI ?_
  | with_reducible refine g_neI ?_
  | with_reducible refine g_eqS ?_
  | with_reducible refine g_neS ?_
  | with_reducible refine g_eqB ?_
  | with_reducible refine g_neB ?_
  | with_reducible refine g_bits ?_
  | with_reducible refine g_bitsI ?_
  | with_reducible refine g_fld ?_
  | with_reducible refine g_tup ?_
  | with_reducible refine g_lst ?_
  | with_reducible refine g_gtup ?_
  | with_reducible refine g_make ?_
  | with_reducible refine g_lc ?_
  | with_reducible refine g_yesT ?_
  | with_reducible refine g_intI ?_
  | with_reducible refine g_intB ?_
  | with_reducible refine g_max2 ?_
  | with_reducible refine g_abs1 ?_
  | with_reducible refine g_for ?_
  | with_reducible refine g_iList ?_
  | with_reducible refine g_iTup ?_
  | with_reducible refine g_iRng1 ?_
  | with_reducible refine g_iEnum ?_
  | with_reducible refine g_slice ?_
  | with_reducible refine g_po0 ?_
  | with_reducible refine g_po1 ?_
  | with_reducible refine g_gsub ?_
  | with_reducible refine g_par ?_
  | with_reducible refine g_par2 ?_
  | with_reducible refine g_rfl ?_
  | with_reducible refine g_meth ?_
  | with_reducible refine g_gcons ?_
  | with_reducible refine g_gnil ?_
  | with_reducible refine g_gfld ?_
  | with_reducible refine g_sfld ?_
  | with_reducible refine g_drop ?_
  | with_reducible refine g_next ?_
  | with_reducible refine iteT ?_
  | with_reducible refine iteF ?_)
local macro_rules | `(tactic| walk_at "go") => `(tactic| (repeat walk_at "u"))
local macro_rules | `(tactic| walk_at "f") => `(tactic| (repeat (first
  | walk_at "u"
  | with_reducible refine g_chain ?_
  | with_reducible refine g_par3 ?_
  | with_reducible refine g_par3' ?_
  | ((with_reducible refine show_ex ?_); first
    | refine fT (by assumption) (by assumption) ?_
    | refine fS (by assumption) (by assumption) ?_
    | refine fP (by assumption) (by assumption) ?_))))

section
variable {P : Program} {w : World} {K : PySem.W.Frag} {mg : Str → Option Value} {base : Heap} {C CI L : Addr} {H : Hp} {Q : VK} {v u : V} {x y : FL}
/-! _law_refused_right -/
theorem sc_Lrefusedright : FnScope ["_law_odd_here", "_law_word", "_law_sign", "_law_one_here", "_law_marks"] [] (defScope s_Lrefusedright) := ⟨rfl, rfl, rfl, by decide +kernel, rfl, by decide +kernel, by decide +kernel⟩
def sp_Lrefused : Sp := fun vs H Q _ => vs = [] ∧ ∀ H', Q (.bl true) H'
theorem g_newK {σ : L2.St} (h : ∀ p H', H p = none → Same H H' → H' p = some (.dK []) → Q (.ref p) H') : tDNewK σ H Q := fun p hp => h p _ hp (upd_sm1 (Same.refl _) hp) upd_same
theorem out_pwS {s p : V} {x : Str} (h : s = .int 1 ∨ s = .int (-1)) (hx : x = "inf" ∨ x = "nan") (h1 : ¬ (x = "nan" ∧ s = .int (-1))) (hp : ¬ p = .int 0) : outF s (.str x) p = some ("power" : Str) := by
  rw [out_go h]
  show (if x = "inf" ∨ x = "nan" then (if x = "nan" ∧ s = .int (-1) then some ("sign" : Str) else if p = .int 0 then none else some ("power" : Str)) else some ("top" : Str)) = _
  rw [if_pos hx, if_neg h1, if_neg hp]
theorem out_sgn : outF (.int (-1)) (.str "nan") (.int 0) = some ("sign" : Str) := by
  rw [out_go (.inr rfl)]
  show (if ("nan" : Str) = "inf" ∨ ("nan" : Str) = "nan" then (if ("nan" : Str) = "nan" ∧ V.int (-1) = .int (-1) then some ("sign" : Str) else if V.int 0 = .int 0 then none else some ("power" : Str)) else some ("top" : Str)) = _
  rw [if_pos (.inr rfl), if_pos ⟨rfl, rfl⟩]
def OddK (K : PySem.W.Frag) (H : Hp) (z : V) : Prop := ∃ t, Kn K H z t
theorem OddK.same {H H' : Hp} {z : V} (h : OddK K H z) (s : Same H H') : OddK K H' z := by
  obtain ⟨t, h⟩ := h
  exact ⟨t, h.same s⟩
theorem ok_Lrefused {f : Addr} {fd : FuncData} (F : FunD K "_law_refused_right" "_law_refused_right" (defArgs s_Lrefusedright) (defBody s_Lrefusedright) (defScope s_Lrefusedright) [] [] f fd) (B : Blt mg) (T : FlC K mg C) (c_Float : CnF P w K mg base C) (c_Feq : EqC P w K mg base 1 C (sp_Feq C))
    (c_Lsaid : Fn P w K mg base CX0 5 "_law_said" ["_law_sign", "_law_top", "_law_power"] [] (sp_Lsaid K C)) (c_wholeof : Fn P w K mg base CX0 2 "whole_of" ["number"] [] (sp_wholeof C)) (c_isnumber : Fn P w K mg base CX0 2 "is_number" ["thing"] [] (sp_isnumber K C)) : FnOk P w K mg base CX0 6 f fd [] sp_Lrefused := by
  refine F.ok sc_Lrefusedright (fun vs H Q E h => ?_) (fun cdv A outer s H vs Q E hr h => ?_)
  · obtain ⟨rfl, _⟩ := h; rfl
  · obtain ⟨rfl, q⟩ := h
    refine ⟨_, PSs.nox (pss_cons (ps_for PassesOwn.never rfl (pi_list (pe_lstN (pa_cons pe_int (pa_cons pe_int (pa_cons (pe_un un_neg pe_int) (pa_cons pe_non (pa_cons pe_bl (pa_cons pe_str (pa_cons (pe_lstN (pa_cons pe_int pa_nil)) (pa_cons pe_dnewK (pa_cons (pe_tupN (pa_cons pe_int pa_nil)) pa_nil))))))))))) (pg_name (i := 0) sc_Lrefusedright.nd rfl (Or.inl rfl))
    (pss_one (ps_if (pt_cmpR (op_oNe hr.units) (pe_fn c_Lsaid (hr.mono (by first | decide | omega)) pass0 (pa_cons (pv 0) (pa_cons (pv 0) (pa_cons pe_non pa_nil)))) pe_str (nomark _)) (pss_one (ps_ret pe_bl)) pss_nil)))
  (pss_cons (ps_for PassesOwn.never rfl (pi_list (pe_lstN (pa_cons (pe_un un_neg pe_int) (pa_cons pe_non (pa_cons pe_bl (pa_cons pe_str (pa_cons pe_str (pa_cons (pe_lstN (pa_cons pe_int pa_nil)) (pa_cons pe_dnewK (pa_cons (pe_tupN (pa_cons pe_int pa_nil)) (pa_cons pe_str pa_nil))))))))))) (pg_name (i := 0) sc_Lrefusedright.nd rfl (Or.inl rfl))
    (pss_one (ps_if (pt_cmpR (op_oNe hr.units) (pe_fn c_Lsaid (hr.mono (by first | decide | omega)) pass0 (pa_cons (pe_un un_neg pe_int) (pa_cons (pv 0) (pa_cons pe_non pa_nil)))) pe_str (nomark _)) (pss_one (ps_ret pe_bl)) pss_nil)))
  (pss_cons (ps_for PassesOwn.never rfl (pi_list (pe_lstN (pa_cons pe_non (pa_cons pe_bl (pa_cons pe_str (pa_cons (pe_lstN (pa_cons pe_int pa_nil)) (pa_cons pe_dnewK (pa_cons (pe_tupN (pa_cons pe_int pa_nil)) pa_nil)))))))) (pg_name (i := 0) sc_Lrefusedright.nd rfl (Or.inl rfl))
    (pss_one (ps_if (pt_cmpR (op_oNe hr.units) (pe_lstN (pa_cons (pe_fn c_Lsaid (hr.mono (by first | decide | omega)) pass0 (pa_cons pe_int (pa_cons pe_int (pa_cons (pv 0) pa_nil)))) (pa_cons (pe_fn c_Lsaid (hr.mono (by first | decide | omega)) pass0 (pa_cons (pe_un un_neg pe_int) (pa_cons pe_str (pa_cons (pv 0) pa_nil)))) (pa_cons (pe_fn c_Lsaid (hr.mono (by first | decide | omega)) pass0 (pa_cons pe_int (pa_cons pe_str (pa_cons (pv 0) pa_nil)))) pa_nil)))) (pe_op op_rep (pe_lstN (pa_cons pe_str pa_nil)) pe_int) (nomark _)) (pss_one (ps_ret pe_bl)) pss_nil)))
  (pss_cons (ps_if (pt_cmpR (op_oNe hr.units) (pe_lstN (pa_cons (pe_fn c_Lsaid (hr.mono (by first | decide | omega)) pass0 (pa_cons (pe_un un_neg pe_int) (pa_cons pe_str (pa_cons pe_int pa_nil)))) (pa_cons (pe_fn c_Lsaid (hr.mono (by first | decide | omega)) pass0 (pa_cons pe_int (pa_cons pe_str (pa_cons pe_int pa_nil)))) (pa_cons (pe_fn c_Lsaid (hr.mono (by first | decide | omega)) pass0 (pa_cons pe_int (pa_cons pe_str (pa_cons (pe_un un_neg pe_int) pa_nil)))) pa_nil)))) (pe_lstN (pa_cons pe_str (pa_cons pe_str (pa_cons pe_str pa_nil)))) (nomark _)) (pss_one (ps_ret pe_bl)) pss_nil)
  (pss_cons (ps_for PassesOwn.never rfl (pi_list (pe_lstN (pa_cons (pe_tupN (pa_cons pe_str (pa_cons pe_int pa_nil))) (pa_cons (pe_tupN (pa_cons pe_str (pa_cons (pe_un un_neg pe_int) pa_nil))) (pa_cons (pe_tupN (pa_cons pe_str (pa_cons pe_int pa_nil))) pa_nil))))) (pg_tup rfl (pgs_cons (pg_name (i := 1) sc_Lrefusedright.nd rfl (Or.inl rfl)) (pgs_cons (pg_name (i := 2) sc_Lrefusedright.nd rfl (Or.inl rfl)) pgs_nil)))
    (pss_cons (ps_set (i := 3) sc_Lrefusedright.nd rfl (Or.inl rfl) (pe_cn c_Float (hr.mono (by first | decide | omega)) pass0 (pa_cons (pv 2) (pa_cons (pv 1) (pa_cons pe_int pa_nil)))))
  (pss_cons (ps_if (pt_cmpR (op_oNe hr.units) (pe_tupN (pa_cons (pe_fld (pv 3) rfl) (pa_cons (pe_fld (pv 3) rfl) (pa_cons (pe_fld (pv 3) rfl) pa_nil)))) (pe_tupN (pa_cons (pv 2) (pa_cons (pv 1) (pa_cons pe_int pa_nil)))) (nomark _)) (pss_one (ps_ret pe_bl)) pss_nil)
  (pss_cons (ps_if (pt_cmpR (op_neO c_Feq (hr.mono (by decide))) (pv 3) (pe_cn c_Float (hr.mono (by first | decide | omega)) pass0 (pa_cons (pv 2) (pa_cons (pv 1) (pa_cons pe_int pa_nil)))) (nomark _)) (pss_one (ps_ret pe_bl)) pss_nil)
  (pss_one (ps_if (pt_cmpR op_notN (pe_fn c_wholeof (hr.mono (by first | decide | omega)) pass0 (pa_cons (pv 3) pa_nil)) pe_non (nomark _)) (pss_one (ps_ret pe_bl)) pss_nil))))))
  (pss_cons (ps_setLc (i := 4) (own := [("_law_one_here", 3)]) (g := gName 3) rfl sc_Lrefusedright.nd rfl rfl (sw_true rfl rfl rfl (by decide +kernel)) (pi_list (pe_lstN (pa_cons pe_int (pa_cons (pe_un un_neg (pe_op op_oPow pe_int pe_int)) (pa_cons (pe_cn c_Float (hr.mono (by first | decide | omega)) pass0 (pa_cons pe_int (pa_cons pe_str (pa_cons pe_int pa_nil)))) (pa_cons pe_bl (pa_cons pe_bl (pa_cons pe_non (pa_cons pe_str (pa_cons (pe_lstN (pa_cons pe_int pa_nil)) (pa_cons pe_dnewK (pa_cons (pe_tupN (pa_cons pe_int pa_nil)) pa_nil)))))))))))) (blkOk_by (own := [("_law_one_here", 3)]) (N := ["_law_odd_here", "_law_word", "_law_sign", "_law_one_here", "_law_marks"]) (sc := defScope s_Lrefusedright) (by decide +kernel)) (fun _ _ _ _ _ => pg_name (i := 3) sc_Lrefusedright.nd rfl (Or.inl rfl)) (fun _ _ _ _ _ => pts_nil) (fun _ _ _ _ _ => (pe_fn c_isnumber (hr.mono (by first | decide | omega)) pass0 (pa_cons (pv 3) pa_nil))))
  (pss_one (ps_ret (pe_cmpR (op_oEq hr.units) (pv 4) (pe_op op_oAdd (pe_op op_rep (pe_lstN (pa_cons pe_bl pa_nil)) pe_int) (pe_op op_rep (pe_lstN (pa_cons pe_bl pa_nil)) pe_int)) (nomark _)))))))))), ?_⟩
    walk_at "f"
    refine g_new (sz rfl) fun a1 H1 n1 s1 h1 _ => ?_
    walk_at "f"
    refine g_newK fun d2 H2 n2 s2 h2 => ?_
    walk_at "f"
    refine g_new (sz rfl) fun a3 H3 n3 s3 h3 _ => ?_
    walk_at "f"
    refine g_new (sz rfl) fun l4 H4 n4 s4 h4 _ => ?_
    have all1 : ∀ z ∈ [V.int 0, .int 2, .int (-2), .non, .bl true, .str "1", .ref a1, .ref d2, .ref a3], OddK K H4 z ∧ ¬ (z = .int 1 ∨ z = .int (-1)) := by
      intro z hz
      simp only [List.mem_cons, List.not_mem_nil, or_false] at hz
      rcases hz with rfl | rfl | rfl | rfl | rfl | rfl | rfl | rfl | rfl
      · exact ⟨⟨_, kn_int⟩, by simp⟩
      · exact ⟨⟨_, kn_int⟩, by simp⟩
      · exact ⟨⟨_, kn_int⟩, by simp⟩
      · exact ⟨⟨_, kn_non⟩, by simp⟩
      · exact ⟨⟨_, kn_bl⟩, by simp⟩
      · exact ⟨⟨_, kn_str⟩, by simp⟩
      · exact ⟨⟨_, kn_lst (s4 _ _ (s3 _ _ (s2 _ _ h1)))⟩, by simp⟩
      · exact ⟨⟨_, kn_dK (s4 _ _ (s3 _ _ h2))⟩, by simp⟩
      · exact ⟨⟨_, kn_tup (s4 _ _ h3)⟩, by simp⟩
    refine ⟨l4, rfl, ⟨_, SqL.of h4⟩, ?_⟩
    refine for_list (K := K) (a := l4) (xs := [V.int 0, .int 2, .int (-2), .non, .bl true, .str "1", .ref a1, .ref d2, .ref a3]) (fun i σ' H' => ∃ e, σ' = [e, none, none, none, none] ∧ Same H4 H') ⟨_, rfl, Same.refl _⟩ ?_ ?_ ?_
    · rintro i _ H' _ ⟨_, _, sH⟩
      exact SqL.of (sH _ _ h4)
    · rintro i z _ H5 hz ⟨e, rfl, u5⟩
      obtain ⟨⟨t, kz⟩, nz⟩ := all1 z (List.mem_of_getElem? hz)
      walk_at "f"
      refine ⟨z, z, .non, _, _, _, rfl, kz.same u5, kz.same u5, kn_non, ?_⟩
      unfold SaidR
      rw [out_sign nz]
      intro H6 u6
      walk_at "f"
      rw [decide_eq_true rfl]
      refine g_nt ?_
      walk_at "f"
      exact ⟨_, rfl, u5.trans u6⟩
    rintro _ H5 ⟨e, rfl, u5⟩
    walk_at "f"
    refine g_new (sz rfl) fun a6 H6 n6 s6 h6 _ => ?_
    walk_at "f"
    refine g_newK fun d7 H7 n7 s7 h7 => ?_
    walk_at "f"
    refine g_new (sz rfl) fun a8 H8 n8 s8 h8 _ => ?_
    walk_at "f"
    refine g_new (sz rfl) fun l9 H9 n9 s9 h9 _ => ?_
    have all2 : ∀ z ∈ [V.int (-1), .non, .bl true, .str "infinity", .str "", .ref a6, .ref d7, .ref a8, .str "NaN"], OddK K H9 z ∧ outF (.int (-1)) z .non = some "top" := by
      intro z hz
      have hm : V.int (-1) = .int 1 ∨ V.int (-1) = .int (-1) := .inr rfl
      simp only [List.mem_cons, List.not_mem_nil, or_false] at hz
      rcases hz with rfl | rfl | rfl | rfl | rfl | rfl | rfl | rfl | rfl
      · exact ⟨⟨_, kn_int⟩, (out_go hm).trans (if_pos (by decide))⟩
      · exact ⟨⟨_, kn_non⟩, out_top hm rfl rfl⟩
      · exact ⟨⟨_, kn_bl⟩, out_top hm rfl rfl⟩
      · exact ⟨⟨_, kn_str⟩, (out_go hm).trans (if_neg (by decide +kernel))⟩
      · exact ⟨⟨_, kn_str⟩, (out_go hm).trans (if_neg (by decide +kernel))⟩
      · exact ⟨⟨_, kn_lst (s9 _ _ (s8 _ _ (s7 _ _ h6)))⟩, out_top hm rfl rfl⟩
      · exact ⟨⟨_, kn_dK (s9 _ _ (s8 _ _ h7))⟩, out_top hm rfl rfl⟩
      · exact ⟨⟨_, kn_tup (s9 _ _ h8)⟩, out_top hm rfl rfl⟩
      · exact ⟨⟨_, kn_str⟩, (out_go hm).trans (if_neg (by decide +kernel))⟩
    refine ⟨l9, rfl, ⟨_, SqL.of h9⟩, ?_⟩
    refine for_list (K := K) (a := l9) (xs := [V.int (-1), .non, .bl true, .str "infinity", .str "", .ref a6, .ref d7, .ref a8, .str "NaN"]) (fun i σ' H' => ∃ e, σ' = [e, none, none, none, none] ∧ Same H9 H') ⟨_, rfl, Same.refl _⟩ ?_ ?_ ?_
    · rintro i _ H' _ ⟨_, _, sH⟩
      exact SqL.of (sH _ _ h9)
    · rintro i z _ H10 hz ⟨e, rfl, u10⟩
      obtain ⟨⟨t, kz⟩, oz⟩ := all2 z (List.mem_of_getElem? hz)
      walk_at "f"
      refine ⟨.int (-1), z, .non, _, _, _, rfl, kn_int, kz.same u10, kn_non, ?_⟩
      unfold SaidR
      rw [oz]
      intro H11 u11
      walk_at "f"
      rw [decide_eq_true rfl]
      refine g_nt ?_
      walk_at "f"
      exact ⟨_, rfl, u10.trans u11⟩
    rintro _ H10 ⟨e, rfl, u10⟩
    walk_at "f"
    refine g_new (sz rfl) fun a11 H11 n11 s11 h11 _ => ?_
    walk_at "f"
    refine g_newK fun d12 H12 n12 s12 h12 => ?_
    walk_at "f"
    refine g_new (sz rfl) fun a13 H13 n13 s13 h13 _ => ?_
    walk_at "f"
    refine g_new (sz rfl) fun l14 H14 n14 s14 h14 _ => ?_
    have all3 : ∀ z ∈ [V.non, .bl true, .str "0", .ref a11, .ref d12, .ref a13], OddK K H14 z ∧ isI z = false := by
      intro z hz
      simp only [List.mem_cons, List.not_mem_nil, or_false] at hz
      rcases hz with rfl | rfl | rfl | rfl | rfl | rfl
      · exact ⟨⟨_, kn_non⟩, rfl⟩
      · exact ⟨⟨_, kn_bl⟩, rfl⟩
      · exact ⟨⟨_, kn_str⟩, rfl⟩
      · exact ⟨⟨_, kn_lst (s14 _ _ (s13 _ _ (s12 _ _ h11)))⟩, rfl⟩
      · exact ⟨⟨_, kn_dK (s14 _ _ (s13 _ _ h12))⟩, rfl⟩
      · exact ⟨⟨_, kn_tup (s14 _ _ h13)⟩, rfl⟩
    refine ⟨l14, rfl, ⟨_, SqL.of h14⟩, ?_⟩
    refine for_list (K := K) (a := l14) (xs := [V.non, .bl true, .str "0", .ref a11, .ref d12, .ref a13]) (fun i σ' H' => ∃ e, σ' = [e, none, none, none, none] ∧ Same H14 H') ⟨_, rfl, Same.refl _⟩ ?_ ?_ ?_
    · rintro i _ H' _ ⟨_, _, sH⟩
      exact SqL.of (sH _ _ h14)
    · rintro i z _ H15 hz ⟨e, rfl, u15⟩
      obtain ⟨⟨t, kz⟩, iz⟩ := all3 z (List.mem_of_getElem? hz)
      have nz : ¬ z = .int 0 := fun y => by rw [y] at iz; cases iz
      walk_at "f"
      refine ⟨.int 1, .int 3, z, _, _, _, rfl, kn_int, kn_int, kz.same u15, ?_⟩
      unfold SaidR
      rw [out_pow (.inl rfl) (by decide) iz]
      intro H16 u16
      walk_at "f"
      refine ⟨.int (-1), .str "inf", z, _, _, _, rfl, kn_int, kn_str, kz.same (u15.trans u16), ?_⟩
      unfold SaidR
      rw [out_pwS (.inr rfl) (.inl rfl) (fun y => inf_nan y.1) nz]
      intro H17 u17
      walk_at "f"
      refine ⟨.int 1, .str "nan", z, _, _, _, rfl, kn_int, kn_str, kz.same ((u15.trans u16).trans u17), ?_⟩
      unfold SaidR
      rw [out_pwS (.inl rfl) (.inr rfl) (fun y => by cases y.2) nz]
      intro H18 u18
      walk_at "f"
      refine g_new (sz rfl) fun l19 H19 n19 u19 h19 _ => ?_
      walk_at "f"
      refine g_new (sz rfl) fun l20 H20 n20 u20 h20 _ => ?_
      walk_at "f"
      refine ⟨l20, 3, _, rfl, rfl, h20, by decide, by decide, sz rfl, fun l21 n21 => ?_⟩
      have u21 := upd_sm1 (o := .lst (List.replicate (3 : Int).toNat [V.str "power"]).flatten) (Same.refl H20) n21
      have h21 : upd H20 l21 (.lst (List.replicate (3 : Int).toNat [V.str "power"]).flatten) l21 = some (.lst [V.str "power", .str "power", .str "power"]) := upd_same
      generalize upd H20 l21 _ = H21 at *
      refine .inr ⟨.list [.str "power", .str "power", .str "power"], .list [.str "power", .str "power", .str "power"], .lst (SqL.of (u21 _ _ (u20 _ _ h19))) (.cons (.str _) (.cons (.str _) (.cons (.str _) .nil))), .lst (SqL.of h21) (.cons (.str _) (.cons (.str _) (.cons (.str _) .nil))), by decide +kernel, by decide +kernel, ?_⟩
      rw [show PyData.eqv (.list [.str "power", .str "power", .str "power"]) (.list [.str "power", .str "power", .str "power"]) = true by decide +kernel]
      refine ⟨false, rfl, ?_⟩
      walk_at "f"
      exact ⟨_, rfl, (((((u15.trans u16).trans u17).trans u18).trans u19).trans u20).trans u21⟩
    rintro _ H15 ⟨e, rfl, u15⟩
    walk_at "f"
    refine ⟨.int (-1), .str "nan", .int 0, _, _, _, rfl, kn_int, kn_str, kn_int, ?_⟩
    unfold SaidR
    rw [out_sgn]
    intro H16 u16
    walk_at "f"
    refine ⟨.int 1, .str "inf", .int 1, _, _, _, rfl, kn_int, kn_str, kn_int, ?_⟩
    unfold SaidR
    rw [out_pwS (.inl rfl) (.inl rfl) (fun y => inf_nan y.1) (by simp)]
    intro H17 u17
    walk_at "f"
    refine ⟨.int 1, .str "nan", .int (-1), _, _, _, rfl, kn_int, kn_str, kn_int, ?_⟩
    unfold SaidR
    rw [out_pwS (.inl rfl) (.inr rfl) (fun y => by cases y.2) (by simp)]
    intro H18 u18
    walk_at "f"
    refine g_new (sz rfl) fun l19 H19 n19 u19 h19 _ => ?_
    walk_at "f"
    refine g_new (sz rfl) fun l20 H20 n20 u20 h20 _ => ?_
    refine .inr ⟨.list [.str "sign", .str "power", .str "power"], .list [.str "sign", .str "power", .str "power"], .lst (SqL.of (u20 _ _ h19)) (.cons (.str _) (.cons (.str _) (.cons (.str _) .nil))), .lst (SqL.of h20) (.cons (.str _) (.cons (.str _) (.cons (.str _) .nil))), by decide +kernel, by decide +kernel, ?_⟩
    rw [show PyData.eqv (.list [.str "sign", .str "power", .str "power"]) (.list [.str "sign", .str "power", .str "power"]) = true by decide +kernel]
    refine ⟨false, rfl, ?_⟩
    walk_at "f"
    refine g_new (sz rfl) fun b1 J1 m1 w1 k1 _ => ?_
    walk_at "f"
    refine g_new (sz rfl) fun b2 J2 m2 w2 k2 _ => ?_
    walk_at "f"
    refine g_new (sz rfl) fun b3 J3 m3 w3 k3 _ => ?_
    walk_at "f"
    refine g_new (sz rfl) fun l5 J5 m5 w5 k5 _ => ?_
    have all4 : ∀ z ∈ [V.ref b1, .ref b2, .ref b3], ∃ (b : Addr) (x : Str) (sg : Int), z = .ref b ∧ J5 b = some (.tup [.str x, .int sg]) ∧ MkOk sg (.str x) 0 ∧ redV (.str x) 0 = (.str x, 0) ∧ wholeN (.f sg (.str x) 0) = none := by
      intro z hz
      simp only [List.mem_cons, List.not_mem_nil, or_false] at hz
      rcases hz with rfl | rfl | rfl
      · exact ⟨b1, "inf", 1, rfl, w5 _ _ (w3 _ _ (w2 _ _ k1)), ⟨.inl rfl, .inr (.inl ⟨rfl, rfl⟩)⟩, rfl, rfl⟩
      · exact ⟨b2, "inf", -1, rfl, w5 _ _ (w3 _ _ k2), ⟨.inr rfl, .inr (.inl ⟨rfl, rfl⟩)⟩, rfl, rfl⟩
      · exact ⟨b3, "nan", 1, rfl, w5 _ _ k3, ⟨.inl rfl, .inl ⟨rfl, rfl, rfl⟩⟩, rfl, rfl⟩
    refine ⟨l5, rfl, ⟨_, SqL.of k5⟩, ?_⟩
    refine for_list (K := K) (a := l5) (xs := [V.ref b1, .ref b2, .ref b3]) (fun i σ' H' => ∃ e e1 e2 e3, σ' = [e, e1, e2, e3, none] ∧ Same J5 H') ⟨_, _, _, _, rfl, Same.refl _⟩ ?_ ?_ ?_
    · rintro i _ H' _ ⟨_, _, _, _, _, sH⟩
      exact SqL.of (sH _ _ k5)
    · rintro i z _ G1 hz ⟨e, e1, e2, e3, rfl, v1⟩
      obtain ⟨b, x, sg, rfl, hb, mk, hrd, hwn⟩ := all4 z (List.mem_of_getElem? hz)
      refine ⟨b, _, rfl, SqT.of (v1 _ _ hb), rfl, ?_⟩
      walk_at "f"
      refine mkF mk fun G2 a2 o2 v2 f2 => ?_
      have ok := mk_flok mk
      rw [hrd] at f2 ok
      walk_at "f"
      refine g_new (sz rfl) fun a3 G3 o3 v3 g3 _ => ?_
      walk_at "f"
      refine g_new (sz rfl) fun a4 G4 o4 v4 g4 _ => ?_
      refine g_neTp (x := ⟨sg, .str x, 0⟩) (v4 _ _ g3) g4 ok ?_
      refine ⟨false, rfl, ?_⟩
      walk_at "f"
      refine mkF mk fun G5 a5 o5 v5 f5 => ?_
      rw [hrd] at f5
      have f2' : FlAt C G5 a2 sg (.str x) 0 := f2.same ((v3.trans v4).trans v5)
      refine g_neF (x := ⟨sg, .str x, 0⟩) (y := ⟨sg, .str x, 0⟩) ⟨a2, rfl, f2'⟩ ⟨a5, rfl, f5⟩ ok ok fun G6 v6 => ?_
      rw [eqL_refl]
      walk_at "f"
      refine g_nt ?_
      walk_at "f"
      refine ⟨.ref a2, .f sg (.str x) 0, rfl, ⟨a2, rfl, f2'.same v6, ok⟩, fun G7 v7 => ?_⟩
      rw [hwn]
      walk_at "f"
      rw [show decide (oV none = V.non) = true from decide_eq_true rfl]
      refine g_nt ?_
      walk_at "f"
      exact ⟨_, _, _, _, rfl, ((((((v1.trans v2).trans v3).trans v4).trans v5).trans v6).trans v7)⟩
    rintro _ G1 ⟨e, e1, e2, e3, rfl, v1⟩
    walk_at "f"
    refine g_II ⟨by decide, by decide, by decide⟩ ?_
    walk_at "f"
    refine mkF (s := 1) (top := .str "nan") (p := 0) ⟨.inl rfl, .inl ⟨rfl, rfl, rfl⟩⟩ fun G2 a2 o2 v2 f2 => ?_
    walk_at "f"
    refine g_new (sz rfl) fun a3 G3 o3 v3 g3 _ => ?_
    walk_at "f"
    refine g_newK fun d4 G4 o4 v4 g4 => ?_
    walk_at "f"
    refine g_new (sz rfl) fun a5 G5 o5 v5 g5 _ => ?_
    walk_at "f"
    refine g_new (sz rfl) fun l6 G6 o6 v6 g6 _ => ?_
    have all5 : ∀ (i : Nat) (z : V), [V.int 3, .int (-(10 ^ Int.toNat 18)), .ref a2, .bl true, .bl false, .non, .str "3", .ref a3, .ref d4, .ref a5][i]? = some z → ∃ t b, KnF K C G6 z t b ∧ [true, true, true, false, false, false, false, false, false, false][i]? = some (b || isI z) := by
      intro i z hz
      match i, hz with
      | 0, hz => cases hz; exact ⟨_, _, kf_int T, rfl⟩
      | 1, hz => cases hz; exact ⟨_, _, kf_int T, rfl⟩
      | 2, hz => cases hz; exact ⟨_, _, kf_fl T (f2.same (((v3.trans v4).trans v5).trans v6)), rfl⟩
      | 3, hz => cases hz; exact ⟨_, _, kf_bl T, rfl⟩
      | 4, hz => cases hz; exact ⟨_, _, kf_bl T, rfl⟩
      | 5, hz => cases hz; exact ⟨_, _, kf_non T, rfl⟩
      | 6, hz => cases hz; exact ⟨_, _, kf_str T, rfl⟩
      | 7, hz => cases hz; exact ⟨_, _, ⟨kn_lst (v6 _ _ (v5 _ _ (v4 _ _ g3))), T.fl⟩, rfl⟩
      | 8, hz => cases hz; exact ⟨_, _, ⟨kn_dK (v6 _ _ (v5 _ _ g4)), T.fd⟩, rfl⟩
      | 9, hz => cases hz; exact ⟨_, _, ⟨kn_tup (v6 _ _ g5), T.ft⟩, rfl⟩
    refine ⟨l6, rfl, ⟨_, SqL.of g6⟩, fun D nD => ?_⟩
    refine lc_list (K := K) (a := l6) (xs := [V.int 3, .int (-(10 ^ Int.toNat 18)), .ref a2, .bl true, .bl false, .non, .str "3", .ref a3, .ref d4, .ref a5]) (fun i H' => Same G6 H' ∧ H' D = some (.lst (([true, true, true, false, false, false, false, false, false, false].take i).map V.bl))) ⟨upd_sm1 (Same.refl _) nD, upd_same⟩ ?_ ?_ ?_
    · rintro i H' _ ⟨t1, _⟩
      exact SqL.of (t1 _ _ g6)
    · rintro i z H' hz ⟨t1, d1⟩
      obtain ⟨t, b, kz, hb⟩ := all5 i z hz
      walk_at "f"
      refine ⟨rfl, ?_⟩
      walk_at "f"
      refine ⟨z, t, b, rfl, kz.same t1, ?_⟩
      refine ⟨_, d1, ?_, upd_sm1 t1 nD, ?_⟩
      · rw [List.length_map]
        exact Nat.lt_of_le_of_lt (List.length_take_le' _ _) (by decide)
      · rw [upd_same, List.take_succ, hb, List.map_append]
        rfl
    · rintro H' ⟨t1, d1⟩
      walk_at "f"
      refine g_new (sz rfl) fun b1' E1 p1 y1 j1 _ => ?_
      walk_at "f"
      refine ⟨b1', 3, _, rfl, rfl, j1, by decide, by decide, sz rfl, fun b2' p2 => ?_⟩
      have y2 := upd_sm1 (o := .lst (List.replicate (3 : Int).toNat [V.bl true]).flatten) (Same.refl E1) p2
      have j2 : upd E1 b2' (.lst (List.replicate (3 : Int).toNat [V.bl true]).flatten) b2' = some (.lst [V.bl true, .bl true, .bl true]) := upd_same
      generalize upd E1 b2' _ = E2 at *
      walk_at "f"
      refine g_new (sz rfl) fun b3' E3 p3 y3 j3 _ => ?_
      walk_at "f"
      refine ⟨b3', 7, _, rfl, rfl, j3, by decide, by decide, sz rfl, fun b4' p4 => ?_⟩
      have y4 := upd_sm1 (o := .lst (List.replicate (7 : Int).toNat [V.bl false]).flatten) (Same.refl E3) p4
      have j4 : upd E3 b4' (.lst (List.replicate (7 : Int).toNat [V.bl false]).flatten) b4' = some (.lst [V.bl false, .bl false, .bl false, .bl false, .bl false, .bl false, .bl false]) := upd_same
      generalize upd E3 b4' _ = E4 at *
      refine .inl ⟨b2', b4', _, _, rfl, rfl, SqL.of (y4 _ _ (y3 _ _ j2)), SqL.of j4, sz rfl, fun b5' E5 p5 y5 j5 _ => ?_⟩
      refine g_eqBs (bs := [true, true, true, false, false, false, false, false, false, false]) (y5 _ _ (y4 _ _ (y3 _ _ (y2 _ _ (y1 _ _ d1))))) j5 rfl ?_
      exact q _
end
end Up

set_option Elab.async false
set_option linter.all false
set_option pp.maxSteps 900
set_option maxRecDepth 100000
set_option maxHeartbeats 4000000
set_option exponentiation.threshold 200000
namespace Up
open PySem PySem.Spec PyProof.Rows L2
local macro_rules | `(tactic| walk_at "u") => `(tactic| first
  | with_reducible refine g_seq ?_
  | with_reducible refine g_asg ?_
  | with_reducible refine g_op ?_
  | ((with_reducible show tVar _ _ _ _); apply g_var; exact rfl)
  | with_reducible refine g_c ?_
  | with_reducible refine g_name ?_
  | with_reducible refine g_ifs ?_
  | with_reducible refine g_tt ?_
  | with_reducible refine g_tB ?_
  | with_reducible refine g_bl ?_
  | with_reducible refine g_ret ?_
  | with_reducible refine g_cb ?_
  | with_reducible refine g_cons ?_
  | with_reducible refine g_nil ?_
  | with_reducible refine g_call ?_
  | with_reducible refine g_and ?_
  | with_reducible refine g_or ?_
  | with_reducible refine g_not ?_
  | with_reducible refine g_andV ?_
  | with_reducible refine g_orV ?_
  | with_reducible refine g_notV ?_
  | with_reducible refine g_if ?_
  | with_reducible refine g_un ?_
  | with_reducible refine g_neg ?_
  | with_reducible refine g_addI ?_
  | with_reducible refine g_subI ?_
  | with_reducible refine g_subB ?_
  | with_reducible refine g_I0 ?_
  | with_reducible refine g_cmpI ?_
  | with_reducible refine g_eqI ?_
  | with_reducible refine g_neI ?_
  | with_reducible refine g_eqS ?_
  | with_reducible refine g_neS ?_
  | with_reducible refine g_eqB ?_
  | with_reducible refine g_neB ?_
  | with_reducible refine g_bits ?_
  | with_reducible refine g_bitsI ?_
  | with_reducible refine g_fld ?_
  | with_reducible refine g_tup ?_
  | with_reducible refine g_lst ?_
  | with_reducible refine g_gtup ?_
  | with_reducible refine g_make ?_
  | with_reducible refine g_lc ?_
  | with_reducible refine g_yesT ?_
  | with_reducible refine g_intI ?_
  | with_reducible refine g_intB ?_
  | with_reducible refine g_max2 ?_
  | with_reducible refine g_abs1 ?_
  | with_reducible refine g_for ?_
  | with_reducible refine g_iList ?_
  | with_reducible refine g_iTup ?_
  | with_reducible refine g_iRng1 ?_
  | with_reducible refine g_iEnum ?_
  | with_reducible refine g_slice ?_
  | with_reducible refine g_po0 ?_
  | with_reducible refine g_po1 ?_
  | with_reducible refine g_gsub ?_
  | with_reducible refine g_par ?_
  | with_reducible refine g_par2 ?_
  | with_reducible refine g_rfl ?_
  | with_reducible refine g_meth ?_
  | with_reducible refine g_gcons ?_
  | with_reducible refine g_gnil ?_
  | with_reducible refine g_gfld ?_
  | with_reducible refine g_sfld ?_
  | with_reducible refine g_drop ?_
  | with_reducible refine g_next ?_
  | with_reducible refine iteT ?_
  | with_reducible refine iteF ?_)
local macro_rules | `(tactic| walk_at "go") => `(tactic| (repeat walk_at "u"))
local macro_rules | `(tactic| walk_at "f") => `(tactic| (repeat (first
  | walk_at "u"
  | with_reducible refine g_chain ?_
  | with_reducible refine g_par3 ?_
  | with_reducible refine g_par3' ?_
  | ((with_reducible refine show_ex ?_); first
    | refine fT (by assumption) (by assumption) ?_
    | refine fS (by assumption) (by assumption) ?_
    | refine fP (by assumption) (by assumption) ?_))))

section
variable {P : Program} {w : World} {K : PySem.W.Frag} {mg : Str → Option Value} {base : Heap} {C : Addr} {H : Hp} {Q : VK}
/-! law -/
theorem sc_law : FnScope ["_law_script", "_law_cell", "_law_well_here", "_law_turn"] ["_law_script"] (defScope s_law) := ⟨rfl, rfl, rfl, by decide +kernel, rfl, by decide +kernel, by decide +kernel⟩
def spLaw (K : PySem.W.Frag) : Sp := fun vs H Q _ => ∃ (a : Addr) (ns : List Int), vs = [.ref a] ∧ SqL K H a (ns.map V.int) ∧ ns.length ≤ 63 ∧ ∀ H', Q (.bl true) H'
theorem cells_int {ns : List Int} {lo hi : Option Int} : ∀ v ∈ cutV (ns.map V.int ++ [V.int 0]) lo hi, ∃ n, v = .int n := fun v hv => by
  have h := List.mem_of_mem_drop (List.mem_of_mem_take hv)
  rcases List.mem_append.mp h with h | h
  · obtain ⟨n, _, rfl⟩ := List.mem_map.mp h
    exact ⟨n, rfl⟩
  · simp only [List.mem_cons, List.not_mem_nil, or_false] at h
    exact ⟨0, h⟩
theorem ok_law {f : Addr} {fd : FuncData} (F : FunD K "law" "law" (defArgs s_law) (defBody s_law) (defScope s_law) [] [] f fd) (B : Blt mg) (c_Lwell : Fn P w K mg base CX0 1 "_law_well" ["_law_cell"] [] sp_Lwell) (c_Lmaderight : Fn P w K mg base CX0 7 "_law_made_right" ["_law_well_here"] [] sp_Lmade)
    (c_Ledgesright : Fn P w K mg base CX0 6 "_law_edges_right" ["_law_well_here"] [] sp_Ledges) (c_Lrefusedright : Fn P w K mg base CX0 6 "_law_refused_right" [] [] sp_Lrefused) : FnOk P w K mg base CX0 8 f fd ["_law_script"] (spLaw K) := by
  refine F.ok sc_law (fun vs H Q E h => ?_) (fun cdv A outer s H vs Q E hr h => ?_)
  · obtain ⟨a, ns, rfl, _⟩ := h; rfl
  · obtain ⟨a, ns, rfl, hS, hlen, q⟩ := h
    refine ⟨_, PSs.nox (pss_cons (ps_for PassesOwn.never rfl (pi_list (pe_slice sl_lstN (pe_op op_oAdd (pv 0) (pe_lstN (pa_cons pe_int pa_nil))) po_none (po_some pe_int))) (pg_name (i := 1) sc_law.nd rfl (Or.inl rfl))
    (pss_cons (ps_set (i := 2) sc_law.nd rfl (Or.inl rfl) (pe_fn c_Lwell (hr.mono (by first | decide | omega)) pass0 (pa_cons (pv 1) pa_nil)))
  (pss_cons (ps_for PassesOwn.never rfl (pi_range1 (by rfl) B.range (pa_cons pe_int pa_nil)) (pg_name (i := 3) sc_law.nd rfl (Or.inl rfl))
    (pss_one (ps_if (pt_not (pt_val (pe_fn c_Lmaderight (hr.mono (by first | decide | omega)) pass0 (pa_cons (pv 2) pa_nil)))) (pss_one (ps_ret pe_bl)) pss_nil)))
  (pss_one (ps_if (pt_not (pt_val (pe_fn c_Ledgesright (hr.mono (by first | decide | omega)) pass0 (pa_cons (pv 2) pa_nil)))) (pss_one (ps_ret pe_bl)) pss_nil)))))
  (pss_one (ps_ret (pe_fn0 c_Lrefusedright (hr.mono (by first | decide | omega)) pass0)))), ?_⟩
    walk_at "f"
    refine g_new (sz rfl) fun l1 H1 n1 s1 h1 _ => ?_
    refine .inl ⟨a, l1, _, _, rfl, rfl, s1.seq hS, SqL.of h1, ?_, fun l2 H2 n2 s2 h2 _ => ?_⟩
    · rw [List.length_map]
      exact Nat.le_trans (Nat.add_le_add hlen (Nat.le_refl 1)) (by decide)
    walk_at "f"
    refine ⟨l2, _, rfl, SqL.of h2, fun l3 H3 n3 s3 h3 _ => ?_⟩
    refine ⟨l3, rfl, ⟨_, SqL.of h3⟩, ?_⟩
    refine for_list (K := K) (a := l3) (xs := cutV (ns.map V.int ++ [V.int 0]) none (some 8)) (fun i σ' H' => ∃ e1 e2 e3, σ' = [some (.ref a), e1, e2, e3] ∧ Same H3 H') ⟨_, _, _, rfl, Same.refl _⟩ ?_ ?_ ?_
    · rintro i _ H' _ ⟨_, _, _, _, sH⟩
      exact SqL.of (sH _ _ h3)
    · rintro i z _ H4 hz ⟨e1, e2, e3, rfl, s4⟩
      obtain ⟨c, rfl⟩ := cells_int z (List.mem_of_getElem? hz)
      walk_at "f"
      refine ⟨c, rfl, fun wl H5 n5 s5 hw5 => ?_⟩
      have tot : ∀ H', Stp wl H5 H' → Same H4 H' := fun H' st b o e => st b o (ne_of_none e n5) (s5 _ _ e)
      walk_at "f"
      refine ⟨by decide, by decide, ?_⟩
      refine for_range (fun i σ' H' => ∃ e3, σ' = [some (.ref a), some (.int c), some (.ref wl), e3] ∧ Stp wl H5 H' ∧ Well H' wl) ⟨_, rfl, Stp.refl _ _, hw5⟩ ?_ ?_
      · rintro i _ H6 hi ⟨e3, rfl, s6, hw6⟩
        walk_at "f"
        refine ⟨wl, rfl, hw6, fun H7 s7 hw7 => ?_⟩
        walk_at "f"
        refine iteF ?_
        walk_at "f"
        exact ⟨_, rfl, s6.trans s7, hw7⟩
      · rintro _ H6 ⟨e3, rfl, s6, hw6⟩
        walk_at "f"
        refine ⟨wl, rfl, hw6, fun H7 s7 hw7 => ?_⟩
        walk_at "f"
        refine iteF ?_
        walk_at "f"
        exact ⟨_, _, _, rfl, s4.trans (tot _ (s6.trans s7))⟩
    · rintro _ H4 ⟨e1, e2, e3, rfl, s4⟩
      walk_at "f"
      exact ⟨rfl, fun H' => q _⟩
end
end Up

set_option Elab.async false
set_option linter.all false
set_option maxRecDepth 100000
set_option maxHeartbeats 4000000
namespace Up
open PySem PySem.Spec PyProof.Rows L2
/-! ### what the head's one Bool says of a class -/
theorem ownB_ok {K : PySem.W.Frag} {C : Addr} (h : ownB K C = true) : OwnC K C := by
  unfold ownB at h
  simp only [Bool.and_eq_true, decide_eq_true_eq] at h
  obtain ⟨h1, h2, h3, h4, h5, h6, h7, h8, h9, h10, h11⟩ := h
  exact ⟨⟨h1, h2, h3, h4⟩, h5, h6, h7, h8, h9, h10, h11⟩
theorem idB_ok {K : PySem.W.Frag} {C : Addr} (h : idB K C = true) : IdC K C := by
  unfold idB at h
  simp only [Bool.and_eq_true, decide_eq_true_eq] at h
  exact ⟨h.1, h.2.1, h.2.2⟩
theorem noB_ok {K : PySem.W.Frag} {C : Addr} {xs : List Str} (h : noB K C xs = true) {f : Str} (hf : f ∈ xs) : NoAttr K C f := by
  have e := List.all_eq_true.mp h f hf
  exact of_decide_eq_true (p := PySem.W.findIn K (.ref C) f = some none) e
theorem kitB'_ok {K : PySem.W.Frag} {C : Addr} {b : Bool} {xs : List Value} (h : kitB' K C b xs = true) {t : Value} (ht : t ∈ xs) : PySem.W.kitOne K t (.ref C) = some b := of_decide_eq_true (List.all_eq_true.mp h t ht)
section
variable {P : Program} {w : World} {K : PySem.W.Frag} {mg : Str → Option Value} {base : Heap}
/-- a def by its promise, from the head's facts -/
theorem fn_mk {CX : CXT} {k : Nat} {x y qual : Str} {params : Arguments} {body : List Stmt} {scope : Scope} {f : Addr} {fd : FuncData} {ps : List Str} {sp : Sp} (F : FunD K y qual params body scope [] [] f fd) (hm : mg x = some (.ref f)) (ok : FnOk P w K mg base CX k f fd ps sp)
    (h : ∀ (kV doc pm : Value) (an : Option Addr) (cdv ct : Value) (us : List Value), us.length = ps.length → bindArgs (PySem.W.fnOf y qual params body scope .none kV doc pm an cdv ct) ⟨us, []⟩ = pure (ps.zip us)) : Fn P w K mg base CX k x ps [] sp :=
  ⟨f, fd, [], ok, hm, F.kp, F.bindsN h, .nil⟩
theorem mt_mk {CX : CXT} {k : Nat} {m qual : Str} {params : Arguments} {body : List Stmt} {scope : Scope} {f C : Addr} {fd : FuncData} {ps : List Str} {sp : Sp} (F : FunD K m qual params body scope [] [] f fd) (hm : Meth K C m f) (cl : Cls K C) (ok : FnOk P w K mg base CX k f fd ps sp)
    (h : ∀ (kV doc pm : Value) (an : Option Addr) (cdv ct : Value) (us : List Value), us.length = ps.length → bindArgs (PySem.W.fnOf m qual params body scope .none kV doc pm an cdv ct) ⟨us, []⟩ = pure (ps.zip us)) : Mt P w K mg base CX k C m ps sp :=
  ⟨f, fd, ok, hm, F.bindsN h, cl⟩
theorem cn_mk {CX : CXT} {k : Nat} {x qual : Str} {params : Arguments} {body : List Stmt} {scope : Scope} {f C : Addr} {fd : FuncData} {ps : List Str} {sp : Sp} (F : FunD K "__init__" qual params body scope [] [] f fd) (hM : Mk K C f) (hm : mg x = some (.ref C)) (ok : FnOk P w K mg base CX k f fd ps sp)
    (h : ∀ (kV doc pm : Value) (an : Option Addr) (cdv ct : Value) (us : List Value), us.length = ps.length → bindArgs (PySem.W.fnOf "__init__" qual params body scope .none kV doc pm an cdv ct) ⟨us, []⟩ = pure (ps.zip us)) : Cn P w K mg base CX k x C ps [] sp :=
  ⟨f, fd, [], ok, hM, hm, F.bindsN h, .nil⟩
end
end Up

set_option Elab.async false
set_option linter.all false
set_option maxRecDepth 100000
set_option maxHeartbeats 0
set_option pp.maxSteps 300
namespace Up
open PySem PySem.Spec PyProof.Rows L2
theorem facts {P : Program} {w : World} {K : PySem.W.Frag} {h : Heap} {mg : Str → Option Value} {f : Addr} (X : K.In h) (G : h.Ns mainGlobals mg) (hfa' : mg ("law" : Str) = some (.ref f)) (cs : He.SaysX hfa hfn [] [] hex w h K) :
    ∃ fd : FuncData, (∀ (s : Shared) (v : Value), BindsTo s fd ⟨[v], []⟩ [("_law_script", v)]) ∧ ∀ base : Heap, K.In base → base.Ns mainGlobals mg → FnOk P w K mg base CX0 8 f fd ["_law_script"] (spLaw K) := by
  have c := cs.t.d
  have glo : ∀ x ∈ hglo, mg x = some (.ref (He.ga K x)) := fun x hx => He.glo_ok X G (c.facts (f := .glo x) (List.mem_append_left _ (List.mem_map_of_mem hx)))
  have B : Blt mg := blt_of fun x hx => He.free_ok X G (c.facts (f := .free x) (List.mem_append_right _ (List.mem_append_left _ (List.mem_map_of_mem hx))))
  have i_ROOM : ∃ t, mg "ROOM" = some (.int (9007199254740992) t) := He.int_ok X G (c.facts (f := .int "ROOM" (9007199254740992)) (List.mem_append_right _ (List.mem_append_right _ (by simp))))
  have i_LOWEST : ∃ t, mg "LOWEST" = some (.int (-1074) t) := He.int_ok X G (c.facts (f := .int "LOWEST" (-1074)) (List.mem_append_right _ (List.mem_append_right _ (by simp))))
  have i_TOO_GREAT : ∃ t, mg "TOO_GREAT" = some (.int (1024) t) := He.int_ok X G (c.facts (f := .int "TOO_GREAT" (1024)) (List.mem_append_right _ (List.mem_append_right _ (by simp))))
  have i_LEAST : ∃ t, mg "LEAST" = some (.int (-9223372036854775808) t) := He.int_ok X G (c.facts (f := .int "LEAST" (-9223372036854775808)) (List.mem_append_right _ (List.mem_append_right _ (by simp))))
  have i_MOST : ∃ t, mg "MOST" = some (.int (9223372036854775807) t) := He.int_ok X G (c.facts (f := .int "MOST" (9223372036854775807)) (List.mem_append_right _ (List.mem_append_right _ (by simp))))
  have mt_InvalidArgument_init := He.meth_ok (c.facts (f := .meth "InvalidArgument" "__init__") (List.mem_append_right _ (List.mem_append_right _ (by simp))))
  have mk_Float := He.mkr_ok (c.facts (f := .mkr "Float") (List.mem_append_right _ (List.mem_append_right _ (by simp))))
  have mt_Float_isfinite := He.meth_ok (c.facts (f := .meth "Float" "is_finite") (List.mem_append_right _ (List.mem_append_right _ (by simp))))
  have mt_Float_ratio := He.meth_ok (c.facts (f := .meth "Float" "ratio") (List.mem_append_right _ (List.mem_append_right _ (by simp))))
  have mt_Float_eq := He.meth_ok (c.facts (f := .meth "Float" "__eq__") (List.mem_append_right _ (List.mem_append_right _ (by simp))))
  have ex := cs.more
  unfold hex at ex
  simp only [Bool.and_eq_true] at ex
  obtain ⟨x1, x2, x3, x4, x5, x6, x7, x8⟩ := ex
  have x5 := of_decide_eq_true x5
  have x6 := of_decide_eq_true x6
  have x7 := of_decide_eq_true x7
  have T : FlC K mg (He.ga K "Float") := {
    own := ownB_ok x1, nS := noB_ok x2 (by simp), nT := noB_ok x2 (by simp), nP := noB_ok x2 (by simp), mg := glo "Float" (by simp [hglo]), yes := kitB'_ok x3 (by simp)
    fi := kitB'_ok x4 (by simp), fb := kitB'_ok x4 (by simp), fs := kitB'_ok x4 (by simp), fn := kitB'_ok x4 (by simp), fl := kitB'_ok x4 (by simp), ft := kitB'_ok x4 (by simp), fd := kitB'_ok x4 (by simp) }
  have nx : NiX K (He.ga K "Float") := {
    kT := fun t ht => by
      simp only [List.mem_cons, List.not_mem_nil, or_false] at ht
      rcases ht with rfl | rfl | rfl | rfl
      · exact T.fn
      · exact T.fb
      · exact T.fi
      · exact T.fs
    fl := T.fl, ft := T.ft, sl := x6, st := x7 }
  have niN : mg "NotImplemented" = none := He.free_ok X G (c.facts (f := .free "NotImplemented") (List.mem_append_right _ (List.mem_append_right _ (by simp))))
  unfold iaB at x8
  simp only [Bool.and_eq_true, decide_eq_true_eq] at x8
  obtain ⟨y1, y2, y3, y4, y5, y6, y7, y8, y9, y10, y11, y12, y13, y14⟩ := x8
  have y13 : PySem.W.findCls K (.ref (He.ga K "LuaError")) (.type "type") "__init__" = some (.val (.builtin "ArithmeticError.__init__")) := by
    split at y13
    · rename_i n e
      rw [e, eq_of_beq y13]
    · cases y13
  have TI : IaK K mg (He.ga K "InvalidArgument") (He.ga K "LuaError") := {
    ax := ⟨y1, y2, y3, y4, y5, y6, y7⟩, nP := noB_ok y8 (by simp), xf := xfB_ok y9, lu := ⟨glo "LuaError" (by simp [hglo]), y11, y12, y13⟩, mg := glo "InvalidArgument" (by simp [hglo]), te := y10 }
  obtain ⟨f_isplain, F_isplain⟩ := c.defs (d := d_isplain) (by simp [hfn])
  obtain ⟨f_reduced, F_reduced⟩ := c.defs (d := d_reduced) (by simp [hfn])
  obtain ⟨f_fits, F_fits⟩ := c.defs (d := d_fits) (by simp [hfn])
  obtain ⟨f_signof, F_signof⟩ := c.defs (d := d_signof) (by simp [hfn])
  obtain ⟨f_InvalidArgument_init, F_InvalidArgument_init⟩ := c.defs (d := d_InvalidArgument_init) (by simp [hfn])
  obtain ⟨f_Float_init, F_Float_init⟩ := c.defs (d := d_Float_init) (by simp [hfn])
  obtain ⟨f_Float_isfinite, F_Float_isfinite⟩ := c.defs (d := d_Float_isfinite) (by simp [hfn])
  obtain ⟨f_Float_ratio, F_Float_ratio⟩ := c.defs (d := d_Float_ratio) (by simp [hfn])
  obtain ⟨f_Float_eq, F_Float_eq⟩ := c.defs (d := d_Float_eq) (by simp [hfn])
  obtain ⟨f_infinity, F_infinity⟩ := c.defs (d := d_infinity) (by simp [hfn])
  obtain ⟨f_nearest, F_nearest⟩ := c.defs (d := d_nearest) (by simp [hfn])
  obtain ⟨f_tofloat, F_tofloat⟩ := c.defs (d := d_tofloat) (by simp [hfn])
  obtain ⟨f_isnumber, F_isnumber⟩ := c.defs (d := d_isnumber) (by simp [hfn])
  obtain ⟨f_wholeof, F_wholeof⟩ := c.defs (d := d_wholeof) (by simp [hfn])
  obtain ⟨f_Lwell, F_Lwell⟩ := c.defs (d := d_Lwell) (by simp [hfn])
  obtain ⟨f_Ldraw, F_Ldraw⟩ := c.defs (d := d_Ldraw) (by simp [hfn])
  obtain ⟨f_Lone, F_Lone⟩ := c.defs (d := d_Lone) (by simp [hfn])
  obtain ⟨f_Lgreat, F_Lgreat⟩ := c.defs (d := d_Lgreat) (by simp [hfn])
  obtain ⟨f_Lfinite, F_Lfinite⟩ := c.defs (d := d_Lfinite) (by simp [hfn])
  obtain ⟨f_Lodd, F_Lodd⟩ := c.defs (d := d_Lodd) (by simp [hfn])
  obtain ⟨f_Lisfloat, F_Lisfloat⟩ := c.defs (d := d_Lisfloat) (by simp [hfn])
  obtain ⟨f_Lsaid, F_Lsaid⟩ := c.defs (d := d_Lsaid) (by simp [hfn])
  obtain ⟨f_Lmaderight, F_Lmaderight⟩ := c.defs (d := d_Lmaderight) (by simp [hfn])
  obtain ⟨f_Ledgesright, F_Ledgesright⟩ := c.defs (d := d_Ledgesright) (by simp [hfn])
  obtain ⟨f_Lrefusedright, F_Lrefusedright⟩ := c.defs (d := d_Lrefusedright) (by simp [hfn])
  obtain ⟨f_law, F_law⟩ := c.defs (d := d_law) (by simp [hfn])
  have e := hfa'.symm.trans (glo "law" (by simp [hglo]))
  cases e
  have b := FunD.bindsA (ps := ["_law_script"]) F_law fun _ _ _ _ _ _ us hl => match us, hl with | [_], _ => rfl
  refine ⟨f_law, fun s v => b s [v] rfl, fun base _ _ => ?_⟩
  have c_isplain : Fn P w K mg base CX0 1 "is_plain" _ [] _ := fn_mk F_isplain (glo "is_plain" (by simp [hglo])) (ok_isplain F_isplain B) (fun _ _ _ _ _ _ us hl => match us, hl with | [_], _ => rfl)
  have c_reduced : Fn P w K mg base CX0 1 "reduced" _ [] _ := fn_mk F_reduced (glo "reduced" (by simp [hglo])) (ok_reduced F_reduced B) (fun _ _ _ _ _ _ us hl => match us, hl with | [_, _], _ => rfl)
  have c_fits : Fn P w K mg base CX0 1 "fits" _ [] _ := fn_mk F_fits (glo "fits" (by simp [hglo])) (ok_fits F_fits B i_ROOM i_LOWEST i_TOO_GREAT) (fun _ _ _ _ _ _ us hl => match us, hl with | [_, _], _ => rfl)
  have c_signof : Fn P w K mg base CX0 1 "sign_of" _ [] _ := fn_mk F_signof (glo "sign_of" (by simp [hglo])) (ok_signof F_signof) (fun _ _ _ _ _ _ us hl => match us, hl with | [_], _ => rfl)
  have c_Inv : CIa P w K mg base (He.ga K "InvalidArgument") (He.ga K "LuaError") := ⟨TI, _, _, mt_InvalidArgument_init.at_, y14, ok_IaInit F_InvalidArgument_init TI, FunD.bindsN F_InvalidArgument_init (fun _ _ _ _ _ _ us hl => match us, hl with | [_, _], _ => rfl)⟩
  have c_Float : Cn P w K mg base CX0 2 "Float" (He.ga K "Float") _ [] _ := cn_mk F_Float_init mk_Float T.mg (ok_Finit F_Float_init B T c_isplain c_reduced c_fits) (fun _ _ _ _ _ _ us hl => match us, hl with | [_, _, _, _], _ => rfl)
  have c_FloatX : Cn P w K mg base (L2.CX P w) 3 "Float" (He.ga K "Float") _ [] _ := cn_mk F_Float_init mk_Float T.mg (ok_FinitX F_Float_init B T c_Inv c_isplain c_reduced c_fits) (fun _ _ _ _ _ _ us hl => match us, hl with | [_, _, _, _], _ => rfl)
  have c_Float_isfinite : Mt P w K mg base CX0 1 (He.ga K "Float") "is_finite" _ _ := mt_mk F_Float_isfinite mt_Float_isfinite T.own.cl (ok_isfinite F_Float_isfinite B T) (fun _ _ _ _ _ _ us hl => match us, hl with | [_], _ => rfl)
  have c_Float_ratio : Mt P w K mg base CX0 1 (He.ga K "Float") "ratio" _ _ := mt_mk F_Float_ratio mt_Float_ratio T.own.cl (ok_ratio F_Float_ratio B T) (fun _ _ _ _ _ _ us hl => match us, hl with | [_], _ => rfl)
  have c_Float_eq : EqC P w K mg base 1 (He.ga K "Float") _ := ⟨_, f_Float_eq, ok_Feq F_Float_eq B T, mt_Float_eq.at_, mt_Float_eq.fn, FunD.bindsN F_Float_eq (fun _ _ _ _ _ _ us hl => match us, hl with | [_, _], _ => rfl), x5, T.own.hm⟩
  have niF := ni_float1 (P := P) (w := w) (base := base) F_Float_eq B T niN mt_Float_eq.at_ mt_Float_eq.fn x5 T.own.hm (FunD.bindsN F_Float_eq (fun _ _ _ _ _ _ us hl => match us, hl with | [_, _], _ => rfl))
  have c_infinity : Fn P w K mg base CX0 4 "infinity" _ [] _ := fn_mk F_infinity (glo "infinity" (by simp [hglo])) (ok_infinity F_infinity c_Float) (fun _ _ _ _ _ _ us hl => match us, hl with | [_], _ => rfl)
  have c_nearest : Fn P w K mg base CX0 5 "nearest" _ [] _ := fn_mk F_nearest (glo "nearest" (by simp [hglo])) (ok_nearest F_nearest B i_ROOM i_LOWEST i_TOO_GREAT c_Float c_infinity) (fun _ _ _ _ _ _ us hl => match us, hl with | [_, _, _], _ => rfl)
  have c_tofloat : Fn P w K mg base CX0 6 "to_float" _ [] _ := fn_mk F_tofloat (glo "to_float" (by simp [hglo])) (ok_tofloat F_tofloat B T c_nearest c_signof) (fun _ _ _ _ _ _ us hl => match us, hl with | [_], _ => rfl)
  have c_isnumber : Fn P w K mg base CX0 2 "is_number" _ [] _ := fn_mk F_isnumber (glo "is_number" (by simp [hglo])) (ok_isnumber F_isnumber B T c_isplain) (fun _ _ _ _ _ _ us hl => match us, hl with | [_], _ => rfl)
  have c_wholeof : Fn P w K mg base CX0 2 "whole_of" _ [] _ := fn_mk F_wholeof (glo "whole_of" (by simp [hglo])) (ok_wholeof F_wholeof B T i_LEAST i_MOST c_Float_isfinite c_Float_ratio) (fun _ _ _ _ _ _ us hl => match us, hl with | [_], _ => rfl)
  have c_Lwell : Fn P w K mg base CX0 1 "_law_well" _ [] _ := fn_mk F_Lwell (glo "_law_well" (by simp [hglo])) (ok_Lwell F_Lwell B) (fun _ _ _ _ _ _ us hl => match us, hl with | [_], _ => rfl)
  have c_Ldraw : Fn P w K mg base CX0 1 "_law_draw" _ [] _ := fn_mk F_Ldraw (glo "_law_draw" (by simp [hglo])) (ok_Ldraw F_Ldraw B) (fun _ _ _ _ _ _ us hl => match us, hl with | [_, _], _ => rfl)
  have c_Lone : Fn P w K mg base CX0 2 "_law_one" _ [] _ := fn_mk F_Lone (glo "_law_one" (by simp [hglo])) (ok_Lone F_Lone B c_Ldraw) (fun _ _ _ _ _ _ us hl => match us, hl with | [_, _], _ => rfl)
  have c_Lgreat : Fn P w K mg base CX0 2 "_law_great" _ [] _ := fn_mk F_Lgreat (glo "_law_great" (by simp [hglo])) (ok_Lgreat F_Lgreat B c_Ldraw) (fun _ _ _ _ _ _ us hl => match us, hl with | [_, _], _ => rfl)
  have c_Lfinite : Fn P w K mg base CX0 3 "_law_finite" _ [] _ := fn_mk F_Lfinite (glo "_law_finite" (by simp [hglo])) (ok_Lfinite F_Lfinite B c_Ldraw c_Lone c_Lgreat) (fun _ _ _ _ _ _ us hl => match us, hl with | [_], _ => rfl)
  have c_Lodd : Fn P w K mg base CX0 1 "_law_odd" _ [] _ := fn_mk F_Lodd (glo "_law_odd" (by simp [hglo])) (ok_Lodd F_Lodd B) (fun _ _ _ _ _ _ us hl => match us, hl with | [_, _], _ => rfl)
  have c_Lisfloat : Fn P w K mg base CX0 1 "_law_is_float" _ [] _ := fn_mk F_Lisfloat (glo "_law_is_float" (by simp [hglo])) (ok_Lisfloat F_Lisfloat B) (fun _ _ _ _ _ _ us hl => match us, hl with | [_, _], _ => rfl)
  have c_Lsaid : Fn P w K mg base CX0 5 "_law_said" _ [] _ := fn_mk F_Lsaid (glo "_law_said" (by simp [hglo])) (ok_Lsaid F_Lsaid B TI c_FloatX) (fun _ _ _ _ _ _ us hl => match us, hl with | [_, _, _], _ => rfl)
  have c_Lmaderight : Fn P w K mg base CX0 7 "_law_made_right" _ [] _ := fn_mk F_Lmaderight (glo "_law_made_right" (by simp [hglo])) (ok_Lmade F_Lmaderight B T c_Float c_Float_eq niF nx c_Ldraw c_Lfinite c_Lodd c_Lisfloat c_tofloat c_isnumber) (fun _ _ _ _ _ _ us hl => match us, hl with | [_], _ => rfl)
  have c_Ledgesright : Fn P w K mg base CX0 6 "_law_edges_right" _ [] _ := fn_mk F_Ledgesright (glo "_law_edges_right" (by simp [hglo])) (ok_Ledges F_Ledgesright B T c_Ldraw c_Lone c_Lgreat c_Lodd c_Lisfloat c_Lsaid c_isnumber) (fun _ _ _ _ _ _ us hl => match us, hl with | [_], _ => rfl)
  have c_Lrefusedright : Fn P w K mg base CX0 6 "_law_refused_right" _ [] _ := fn_mk F_Lrefusedright (glo "_law_refused_right" (by simp [hglo])) (ok_Lrefused F_Lrefusedright B T c_Float c_Float_eq c_Lsaid c_wholeof c_isnumber) (fun _ _ _ _ _ _ us hl => match us, hl with | [], _ => rfl)
  exact ok_law F_law B c_Lwell c_Lmaderight c_Ledgesright c_Lrefusedright
end Up
open PySem PySem.W PySem.Calls PyProof.Rows
theorem PySem.Challenge.cw_upvalues_k01_floats_by_their_parts_holds : PySem.Challenge.rw_upvalues_k01_floats_by_their_parts.Holds := by
  w_on; o_law
  refine HandSHeadRun.head_any (r := OpenLaw.row PySem.Challenge.rw_upvalues_k01_floats_by_their_parts) (q := view (OpenLaw.row PySem.Challenge.rw_upvalues_k01_floats_by_their_parts).prog [32]) (H := Up.hk) (ob := Up.hob) (M := 6000) (loose := Up.hloose) (d := HandSHeadRun.topDef (OpenLaw.row PySem.Challenge.rw_upvalues_k01_floats_by_their_parts).prog 32) (kwd := []) Up.hob_eq
    (by kernel_rfl) (fun s => by kernel_rfl) Up.hrun (by kernel_rfl) (by kernel_rfl) (by kernel_rfl) (by rfl) (by first | assumption | decide +kernel) (by decide +kernel) ⟨rfl, rfl, rfl, rfl, rfl, by decide +kernel⟩ ?hw ?hc
  case hw => w_witness2
  case hc =>
    refine L2.walk_ofE (l := PySem.Challenge.rw_upvalues_k01_floats_by_their_parts) (n := 63) (k := 8) (x := "_law_script") (CX := L2.CX0) rfl (by decide) (by kernel_rfl) ⟨rfl, by decide, by decide⟩ ?F (fun _ _ _ _ z => z)
    intro w mg fa h Y G hmg0
    obtain ⟨K, KX, c⟩ := Y
    have hmg : mg ("law" : PySem.Str) = some (.ref fa) := by
      have e : (HandSHeadRun.topDef (OpenLaw.row PySem.Challenge.rw_upvalues_k01_floats_by_their_parts).prog 32).name = ("law" : PySem.Str) := by kernel_rfl
      rw [← e]
      exact hmg0
    obtain ⟨fd, hb, hF⟩ := Up.facts (P := (PySem.Challenge.rw_upvalues_k01_floats_by_their_parts).prog) (w := w) KX G hmg c
    exact ⟨K, fd, Up.spLaw K, KX, hb, fun H a ns hl _ hS => ⟨a, ns, rfl, hS, hl, fun _ => rfl⟩, hF⟩
#print axioms PySem.Challenge.cw_upvalues_k01_floats_by_their_parts_holds
