import PyProof.Rows.All
import Wide.All
import OpenK.AllK
import Wide.FinOn
import PyProof.EqAt
import PyProof.EqKinds
import PyProof.TupleCall
import HandS.ForMost
import HandS.IsInst
import HandS.Wide
import HandS.WideBits
import HandS.TupAny
import HandS.Deep
import HandS.Flow
import HandS.Defaults
import HandS.Exc
import HandS.WordsExc
import HandS.Codes
import HandS.More
import PyProof.NeKinds
import PyProof.StrOps2
import HandS.Style
import HandS.MakeKwOnly
import HandS.FStr
import HandS.StrMore
import HandS.Walk
import PyProof.FitsInt
import KE.KStateDown
import HandS.Head0
import HandS.Head1
import HandS.Head2
import HandS.HeadEnd
import HandS.HeadHook1
import HandS.HeadHook2
import HandS.HeadHook3
import HandS.HeadHook4
import PySem.Challenge.RW_upvalues_k06_texts_of_numbers
set_option Elab.async false
set_option linter.all false
set_option maxRecDepth 100000
set_option maxHeartbeats 4000000
namespace Up
open PySem PySem.Spec PyProof.Rows L2
def top (i : Nat) : Stmt := PySem.Challenge.pw_upvalues_k06_texts_of_numbers.main.body.getD i (.Pass ⟨0, 0, 0, 0⟩)
def bltNames : List Str := ["len", "int", "bool", "str", "isinstance", "abs", "max", "min", "divmod", "range", "enumerate", "zip", "list", "tuple", "ord", "sorted"]
abbrev s_isplain : Stmt := top 13
abbrev s_reduced : Stmt := top 14
abbrev s_fits : Stmt := top 15
abbrev s_signof : Stmt := top 16
abbrev s_Float_init : Stmt := inClass (top 12) 0
abbrev s_Float_isfinite : Stmt := inClass (top 12) 4
abbrev s_Float_ratio : Stmt := inClass (top 12) 5
abbrev s_infinity : Stmt := top 18
abbrev s_nearest : Stmt := top 19
abbrev s_tofloat : Stmt := top 21
abbrev s_nan : Stmt := top 17
abbrev s_Float_eq : Stmt := inClass (top 12) 2
abbrev s_added : Stmt := top 27
abbrev s_multiplied : Stmt := top 28
abbrev s_divided : Stmt := top 29
abbrev s_tentimes : Stmt := top 35
abbrev s_placeoffirst : Stmt := top 37
abbrev s_roundedat : Stmt := top 38
abbrev s_shown : Stmt := top 36
abbrev s_textof : Stmt := top 34
abbrev s_Lwell : Stmt := top 40
abbrev s_Ldraw : Stmt := top 41
abbrev s_Lone : Stmt := top 42
abbrev s_Lgreat : Stmt := top 43
abbrev s_Ltens : Stmt := top 46
abbrev s_Lparts : Stmt := top 47
abbrev s_Lisshown : Stmt := top 48
abbrev s_Lright : Stmt := top 49
abbrev s_byfloats : Stmt := top 26
abbrev s_arith : Stmt := top 23
abbrev s_Lknownright : Stmt := top 50
abbrev s_Lfinite : Stmt := top 44
abbrev s_Lfloat : Stmt := top 45
abbrev s_law : Stmt := top 51
def ownB (K : PySem.W.Frag) (C : Addr) : Bool :=
  PySem.W.plainGet K C Str.empty && (PySem.W.hasDictIn K C && (PySem.W.plainOver K C && (decide (PySem.W.findIn K (.ref C) "__setattr__" = some (some (.builtin "object.__setattr__"))) &&
  (decide (PySem.W.findIn K (.ref C) "__class__" = some (some (.builtin "object.__class__"))) && (decide (PySem.W.specialIn K (.builtin "object.__class__") "__get__" = some (some (.builtin "getset_descriptor.__get__"))) &&
  (decide (PySem.W.takesIn K (.builtin "object.__class__") = some true) && (decide (PySem.W.mroIn K C (.type "object") = some true) && (decide (PySem.W.kitOne K (.ref C) (.type "int") = some false) &&
  (decide (PySem.W.kitOne K (.ref C) (.type "bool") = some false) && decide (PySem.W.kitOne K (.ref C) (.type "str") = some false))))))))))
def idB (K : PySem.W.Frag) (C : Addr) : Bool := decide (PySem.W.mroIn K C (.type "object") = some true) && (decide (PySem.W.findIn K (.ref C) "__eq__" = some (some (.builtin "object.__eq__"))) && decide (PySem.W.subIn K (.ref C) (.type "NoneType") = some false))
def noB (K : PySem.W.Frag) (C : Addr) (xs : List Str) : Bool := xs.all fun f => decide (PySem.W.findIn K (.ref C) f = some none)
def kitB' (K : PySem.W.Frag) (C : Addr) (b : Bool) (xs : List Value) : Bool := xs.all fun t => decide (PySem.W.kitOne K t (.ref C) = some b)
end Up
set_option Elab.async false
set_option linter.all false
set_option maxRecDepth 100000
set_option maxHeartbeats 4000000
namespace Up
open PySem PySem.Spec PyProof.Rows L2
/-! ### a smaller head: the objects that are looked at are picked out (globals, what their classes name, what defs name), no closure by rounds -/
abbrev GT : Type := Addr → Option Obj
def rfS (g : GT) (a : Addr) : List Addr := match g a with
  | some o => He.refsD o
  | none => []
def isCS (g : GT) (a : Addr) : Bool := match g a with
  | some ⟨_, _, .cls _, _⟩ => true
  | _ => false
def fnS (g : GT) (a : Addr) : List Addr := match g a with
  | some ⟨_, _, .func fd, _⟩ => He.refV fd.defaults ++ (He.refV fd.kwdefaults ++ He.refV fd.code)
  | _ => []
def clsS (g : GT) (as : List Addr) : List Addr := (as.filter (isCS g)).flatMap (rfS g)
def allS (g : GT) (a1 a2 a3 : List Addr) : List Addr := mainGlobals :: (a1 ++ (a2 ++ (a3 ++ ((a1 ++ a3).flatMap (fnS g)))))
def selS (g : GT) : List Addr := allS g (rfS g mainGlobals) (clsS g (rfS g mainGlobals)) ((clsS g (rfS g mainGlobals)).flatMap (rfS g))
def fgS (g : GT) : PySem.W.Frag := He.frT g (selS g)
section
variable {fa : List He.Fa} {fn : List He.DefD} {ts : List He.Tab} {tf : List He.Defn} {ex : PySem.W.Frag → Bool} {w : World} {g : GT}
def obsS (fa : List He.Fa) (fn : List He.DefD) (ts : List He.Tab) (tf : List He.Defn) (ex : PySem.W.Frag → Bool) (g : GT) : He.AlX := (He.obsT fa fn ts (fgS g), ex (fgS g) && He.tabsB g tf (fgS g))
theorem tabS_of (h : He.tabsB g tf (fgS g) = true) {p : He.Defn} (hp : p ∈ tf) : PySem.W.codeHdIn (fgS g) (He.cT (fgS g) p).1 (He.cT (fgS g) p).2 = true ∧ ∃ o, g (He.cT (fgS g) p).2 = some o ∧ He.emptyTab o = true := by
  have z := List.all_eq_true.mp h p hp
  rw [Bool.and_eq_true] at z
  refine ⟨z.1, ?_⟩
  have z2 := z.2
  cases e : g (He.cT (fgS g) p).2 with
  | some o => rw [e] at z2; exact ⟨o, rfl, z2⟩
  | none => rw [e] at z2; cases z2
theorem saysS {h : Heap} (e : obsS fa fn ts tf ex h.get? = He.valX fn ts w) : He.SaysX fa fn ts tf ex w h (fgS h.get?) := by
  have a : He.obsT fa fn ts (fgS h.get?) = He.valT fn ts w := congrArg Prod.fst e
  have b : (ex (fgS h.get?) && He.tabsB h.get? tf (fgS h.get?)) = true := congrArg Prod.snd e
  rw [Bool.and_eq_true] at b
  refine { t := a, more := b.1, hd := fun p hp => (tabS_of b.2 hp).1, out := fun p hp => ?_, empty := fun p hp => ?_ }
  · have ⟨_, o, q, z⟩ := tabS_of b.2 hp
    exact He.frT_none q z
  · have ⟨_, o, q, z⟩ := tabS_of b.2 hp
    rw [← He.emptyTab_eq z]
    exact q
end
def hookS (fa : List He.Fa) (fn : List He.DefD) (ts : List He.Tab) (tf : List He.Defn) (ex : PySem.W.Frag → Bool) : PySem.W.Hook where
  α := He.AlX
  obs := fun s => obsS fa fn ts tf ex s.heap.get?
  val := fun w => He.valX fn ts w
  says := (He.hookX 0 fa fn ts tf ex).says
  of := fun _ _ e => ⟨_, He.frT_in, saysS e⟩
  keeps := (He.hookX 0 fa fn ts tf ex).keeps
theorem obsS_eq {fa : List He.Fa} {fn : List He.DefD} {ts : List He.Tab} {tf : List He.Defn} {ex : PySem.W.Frag → Bool} {g : GT} {s : Shared} (h : ∀ a, g a = s.heap.get? a) : obsS fa fn ts tf ex g = (hookS fa fn ts tf ex).obs s := by
  show obsS fa fn ts tf ex g = obsS fa fn ts tf ex s.heap.get?
  rw [funext h]
end Up

set_option Elab.async false
set_option linter.all false
set_option maxRecDepth 100000
set_option maxHeartbeats 0
set_option pp.maxSteps 300
namespace Up
open PySem PySem.Spec PyProof.Rows L2
def d_isplain : He.DefD := ⟨("is_plain", none), "is_plain", "is_plain", defArgs s_isplain, defBody s_isplain, defScope s_isplain, [], []⟩
def d_reduced : He.DefD := ⟨("reduced", none), "reduced", "reduced", defArgs s_reduced, defBody s_reduced, defScope s_reduced, [], []⟩
def d_fits : He.DefD := ⟨("fits", none), "fits", "fits", defArgs s_fits, defBody s_fits, defScope s_fits, [], []⟩
def d_signof : He.DefD := ⟨("sign_of", none), "sign_of", "sign_of", defArgs s_signof, defBody s_signof, defScope s_signof, [], []⟩
def d_Float_init : He.DefD := ⟨("Float", some "__init__"), "__init__", "Float.__init__", defArgs s_Float_init, defBody s_Float_init, defScope s_Float_init, [], []⟩
def d_Float_ratio : He.DefD := ⟨("Float", some "ratio"), "ratio", "Float.ratio", defArgs s_Float_ratio, defBody s_Float_ratio, defScope s_Float_ratio, [], []⟩
def d_Float_eq : He.DefD := ⟨("Float", some "__eq__"), "__eq__", "Float.__eq__", defArgs s_Float_eq, defBody s_Float_eq, defScope s_Float_eq, [], []⟩
def d_infinity : He.DefD := ⟨("infinity", none), "infinity", "infinity", defArgs s_infinity, defBody s_infinity, defScope s_infinity, [], []⟩
def d_nan : He.DefD := ⟨("nan", none), "nan", "nan", defArgs s_nan, defBody s_nan, defScope s_nan, [], []⟩
def d_nearest : He.DefD := ⟨("nearest", none), "nearest", "nearest", defArgs s_nearest, defBody s_nearest, defScope s_nearest, [], []⟩
def d_tofloat : He.DefD := ⟨("to_float", none), "to_float", "to_float", defArgs s_tofloat, defBody s_tofloat, defScope s_tofloat, [], []⟩
def d_added : He.DefD := ⟨("added", none), "added", "added", defArgs s_added, defBody s_added, defScope s_added, [], []⟩
def d_multiplied : He.DefD := ⟨("multiplied", none), "multiplied", "multiplied", defArgs s_multiplied, defBody s_multiplied, defScope s_multiplied, [], []⟩
def d_divided : He.DefD := ⟨("divided", none), "divided", "divided", defArgs s_divided, defBody s_divided, defScope s_divided, [], []⟩
def d_byfloats : He.DefD := ⟨("by_floats", none), "by_floats", "by_floats", defArgs s_byfloats, defBody s_byfloats, defScope s_byfloats, [], []⟩
def d_arith : He.DefD := ⟨("arith", none), "arith", "arith", defArgs s_arith, defBody s_arith, defScope s_arith, [], []⟩
def d_Lwell : He.DefD := ⟨("_law_well", none), "_law_well", "_law_well", defArgs s_Lwell, defBody s_Lwell, defScope s_Lwell, [], []⟩
def d_Ldraw : He.DefD := ⟨("_law_draw", none), "_law_draw", "_law_draw", defArgs s_Ldraw, defBody s_Ldraw, defScope s_Ldraw, [], []⟩
def d_Lone : He.DefD := ⟨("_law_one", none), "_law_one", "_law_one", defArgs s_Lone, defBody s_Lone, defScope s_Lone, [], []⟩
def d_Lgreat : He.DefD := ⟨("_law_great", none), "_law_great", "_law_great", defArgs s_Lgreat, defBody s_Lgreat, defScope s_Lgreat, [], []⟩
def d_Lfinite : He.DefD := ⟨("_law_finite", none), "_law_finite", "_law_finite", defArgs s_Lfinite, defBody s_Lfinite, defScope s_Lfinite, [], []⟩
def d_Lfloat : He.DefD := ⟨("_law_float", none), "_law_float", "_law_float", defArgs s_Lfloat, defBody s_Lfloat, defScope s_Lfloat, [], []⟩
def d_tentimes : He.DefD := ⟨("ten_times", none), "ten_times", "ten_times", defArgs s_tentimes, defBody s_tentimes, defScope s_tentimes, [], []⟩
def d_placeoffirst : He.DefD := ⟨("place_of_first", none), "place_of_first", "place_of_first", defArgs s_placeoffirst, defBody s_placeoffirst, defScope s_placeoffirst, [], []⟩
def d_roundedat : He.DefD := ⟨("rounded_at", none), "rounded_at", "rounded_at", defArgs s_roundedat, defBody s_roundedat, defScope s_roundedat, [], []⟩
def d_shown : He.DefD := ⟨("shown", none), "shown", "shown", defArgs s_shown, defBody s_shown, defScope s_shown, [], []⟩
def d_textof : He.DefD := ⟨("text_of", none), "text_of", "text_of", defArgs s_textof, defBody s_textof, defScope s_textof, [], []⟩
def d_Ltens : He.DefD := ⟨("_law_tens", none), "_law_tens", "_law_tens", defArgs s_Ltens, defBody s_Ltens, defScope s_Ltens, [], []⟩
def d_Lparts : He.DefD := ⟨("_law_parts", none), "_law_parts", "_law_parts", defArgs s_Lparts, defBody s_Lparts, defScope s_Lparts, [], []⟩
def d_Lisshown : He.DefD := ⟨("_law_is_shown", none), "_law_is_shown", "_law_is_shown", defArgs s_Lisshown, defBody s_Lisshown, defScope s_Lisshown, [], []⟩
def d_Lright : He.DefD := ⟨("_law_right", none), "_law_right", "_law_right", defArgs s_Lright, defBody s_Lright, defScope s_Lright, [], []⟩
def d_Lknownright : He.DefD := ⟨("_law_known_right", none), "_law_known_right", "_law_known_right", defArgs s_Lknownright, defBody s_Lknownright, defScope s_Lknownright, [], []⟩
def d_law : He.DefD := ⟨("law", none), "law", "law", defArgs s_law, defBody s_law, defScope s_law, [], []⟩
def hfn : List He.DefD := [d_isplain, d_reduced, d_fits, d_signof, d_Float_init, d_Float_ratio, d_Float_eq, d_infinity, d_nan, d_nearest, d_tofloat, d_added,
  d_multiplied, d_divided, d_byfloats, d_arith, d_Lwell, d_Ldraw, d_Lone, d_Lgreat, d_Lfinite, d_Lfloat, d_tentimes, d_placeoffirst,
  d_roundedat, d_shown, d_textof, d_Ltens, d_Lparts, d_Lisshown, d_Lright, d_Lknownright, d_law]
def hglo : List Str := (["is_plain", "reduced", "fits", "sign_of", "infinity", "nan", "nearest", "to_float", "added", "multiplied", "divided", "by_floats"] : List Str) ++
  (["arith", "_law_well", "_law_draw", "_law_one", "_law_great", "_law_finite", "_law_float", "ten_times", "place_of_first", "rounded_at", "shown", "text_of"] : List Str) ++
  (["_law_tens", "_law_parts", "_law_is_shown", "_law_right", "_law_known_right", "law", "Float"] : List Str)
def hfa : List He.Fa := hglo.map He.Fa.glo ++ (bltNames.map He.Fa.free ++ [.int "ROOM" (9007199254740992), .int "LOWEST" (-1074), .int "TOO_GREAT" (1024), .int "SHOWN" (14), .mkr "Float", .meth "Float" "ratio", .meth "Float" "__eq__"])
def hex (K : PySem.W.Frag) : Bool := ownB K (He.ga K "Float") && (noB K (He.ga K "Float") ["sign", "top", "power"] && (kitB' K (He.ga K "Float") true [.ref (He.ga K "Float")] &&
  (kitB' K (He.ga K "Float") false [.type "int", .type "bool", .type "str", .type "NoneType", .type "list", .type "tuple", .type "dict"] && decide (PySem.W.findIn K (.ref (He.ga K "Float")) "__ne__" = some (some (.builtin "object.__ne__"))))))
abbrev hR : PySem.W.OpenRow := PySem.W.OpenLaw.row PySem.Challenge.rw_upvalues_k06_texts_of_numbers
abbrev hk : PySem.W.Hook := hookS hfa hfn [] [] hex
def hob (s : PySem.W.SharedT) : He.AlX := obsS hfa hfn [] [] hex (HandSHeadRun.getT s)
theorem hob_eq (s : PySem.W.SharedT) : hob s = hk.obs s.abs := obsS_eq (HandSHeadRun.getT_eq s)
def hloose : List PySem.Str := (["_wall", "LuaError", "InvalidArgument", "Thrown", "LEAST", "MOST", "ROOM", "LOWEST", "TOO_GREAT", "Float", "is_plain", "reduced", "fits", "sign_of", "nan", "infinity", "nearest", "wrapped", "to_float", "whole_of", "arith", "whole_or_thrown", "by_bits", "by_floats", "added", "multiplied", "divided", "floored", "remainder", "SHOWN"] : List PySem.Str) ++ (["text_of", "ten_times", "shown", "place_of_first", "rounded_at", "_law_well", "_law_draw", "_law_one", "_law_great", "_law_finite", "_law_float", "_law_tens", "_law_parts", "_law_is_shown", "_law_right", "_law_known_right"] : List PySem.Str)
theorem hrun (w : World) : HandSHeadRun.RunEq hR (PySem.W.view hR.prog [51]) hk hob 6000 hloose w := by
  intro os
  kernel_rfl
end Up


set_option Elab.async false
set_option linter.all false
set_option maxRecDepth 100000
set_option maxHeartbeats 4000000
namespace Up
open PySem PySem.Spec PyProof.Rows L2

theorem sz {n : Nat} (h : Nat.ble n 100000 = true) : n ≤ sizeLine := Nat.le_trans (Nat.le_of_ble_eq_true h) (by decide)
/-! ### a new object, by what is known of the heap behind it -/
def NewAt (H : Hp) (o : HO) (Q : VK) : Prop := ∀ p H', H p = none → Same H H' → H' p = some o → (∀ b, b ≠ p → H' b = H b) → Q (.ref p) H'
theorem NewAt.all {H : Hp} {o : HO} {Q : VK} (h : NewAt H o Q) : ∀ p, H p = none → Q (.ref p) (upd H p o) := fun p hp =>
  h p _ hp (fun b u e => by rw [upd_ne (ne_of_none e hp)]; exact e) upd_same fun b hb => upd_ne hb
def tTupN (t : TA) : TE := fun σ H Q => t σ H fun xs H1 => xs.length ≤ sizeLine ∧ NewAt H1 (.tup xs) Q
def tLstN (t : TA) : TE := fun σ H Q => t σ H fun xs H1 => xs.length ≤ sizeLine ∧ NewAt H1 (.lst xs) Q
section
variable {X : Cx} {es : List Expr} {t : TA} {pos : Pos}
theorem pe_tupN {x1} (h : PA X es t) : PE X (.Tuple es x1 pos) (tTupN t) := by
  refine ⟨fun pins s σ H Q I hq => ?_⟩
  refine wpAny_Tuple_spliced (thn (h.run pos pins s σ H _ I hq) fun us s1 ⟨xs, H1, I1, r, z, q⟩ => ⟨(by rw [← r.length]; exact z), ?_⟩)
  exact ⟨.ref s1.heap.objs.size, upd H1 s1.heap.objs.size (.tup xs), I1.laid (t' := s1.toks) (fun b u e => Heap.get?_push_of_some _ e) (Nat.le_refl _) ⟨z, us, r, ⟨_, Heap.get?_push_size _ rfl, rfl, _, rfl⟩⟩, rfl, q.all _ (I1.hok.fresh (Nat.le_refl _))⟩
theorem pe_lstN (h : PA X es t) : PE X (.List es pos) (tLstN t) := by
  refine ⟨fun pins s σ H Q I hq => ?_⟩
  refine wpAny_List_spliced (thn (h.run pos pins s σ H _ I hq) fun us s1 ⟨xs, H1, I1, r, z, q⟩ => ⟨(by rw [← r.length]; exact z), ?_⟩)
  exact ⟨.ref s1.heap.objs.size, upd H1 s1.heap.objs.size (.lst xs), I1.laid (t' := s1.toks) (fun b u e => Heap.get?_push_of_some _ e) (Nat.le_refl _) ⟨z, us, 0, r, Heap.get?_push_size _ rfl⟩, rfl, q.all _ (I1.hok.fresh (Nat.le_refl _))⟩
end
/-! ### operators by the kinds of their values -/
section
variable {X : Cx} {f : Value → Value → Sem Value} {r r' : R2}
theorem op_or (h : OpR X f r) (h' : OpR X f r') : OpR X f (fun x y H Q => r x y H Q ∨ r' x y H Q) := by
  intro pins s σ H x y v u Q I rx ry q
  rcases q with q | q
  · exact h pins s σ H x y v u Q I rx ry q
  · exact h' pins s σ H x y v u Q I rx ry q
theorem op_wk (h : OpR X f r) (k : ∀ x y H Q, r' x y H Q → r x y H Q) : OpR X f r' := by
  intro pins s σ H x y v u Q I rx ry q
  exact h pins s σ H x y v u Q I rx ry (k _ _ _ _ q)
theorem op_wh {S : Prop} (h : S → OpR X f r) (k : ∀ x y H Q, r' x y H Q → S ∧ r x y H Q) : OpR X f r' := by
  intro pins s σ H x y v u Q I rx ry q
  exact h (k _ _ _ _ q).1 pins s σ H x y v u Q I rx ry (k _ _ _ _ q).2
end
/-- two lists that are read -/
def oCatS (K : PySem.W.Frag) : R2 := fun x y H Q => ∃ a b xs ys, x = .ref a ∧ y = .ref b ∧ SqL K H a xs ∧ SqL K H b ys ∧ xs.length + ys.length ≤ sizeLine ∧ NewAt H (.lst (xs ++ ys)) Q
theorem op_catS {X : Cx} : OpR X (binaryOp .Add) (oCatS X.K) := by
  intro pins s σ H x y v u Q I rx ry h
  obtain ⟨a, b, xs, ys, rfl, rfl, ha, hb, hz, q⟩ := h
  cases rx
  cases ry
  obtain ⟨its, r1, p1, _⟩ := I.list ha
  obtain ⟨jts, r2, p2, _⟩ := I.list hb
  have l1 := r1.length
  have l2 := r2.length
  obtain ⟨⟨c1, d1, t1, z1⟩, n1, e1, k1, _, w1⟩ := p1
  obtain ⟨⟨c2, d2, t2, z2⟩, n2, e2, k2, _, w2⟩ := p2
  simp only at k1 w1 k2 w2
  subst k1 w1 k2 w2
  refine concat_meets (S := _) ⟨_, e1, rfl⟩ ⟨_, e2, rfl⟩ noFill_list_add seq_list_add PySem.F.slot_list_add PySem.F.entry_list_add (PySem.F.args_list_add_2 _ _) (list_addW a b its.toArray jts.toArray n1 n2 d1 d2 z1 z2 (by rw [List.size_toArray, List.size_toArray]; omega)) ⟨e1, e2, ?_⟩
  rw [show its.toArray ++ jts.toArray = (its ++ jts).toArray by simp]
  exact ⟨.ref _, _, I.lnew (t' := s.toks) (r1.append r2) (by rw [List.length_append]; omega), rfl, q.all _ I.fresh⟩
/-- two tuples -/
def oCatU (K : PySem.W.Frag) : R2 := fun x y H Q => ∃ a b xs ys, x = .ref a ∧ y = .ref b ∧ SqT K H a xs ∧ SqT K H b ys ∧ xs.length + ys.length ≤ sizeLine ∧ xs ≠ [] ∧ ys ≠ [] ∧ NewAt H (.tup (xs ++ ys)) Q
/-- a + b -/
def oAdd (K : PySem.W.Frag) : R2 := fun x y H Q => match x, y with
  | .int i, .int j => Q (.int (i + j)) H
  | .str a, .str b => a.length + b.length ≤ sizeLine ∧ Q (.str (a ++ b)) H
  | .ref a, .ref b => oCatS K (.ref a) (.ref b) H Q ∨ oCatU K (.ref a) (.ref b) H Q
  | _, _ => False
theorem op_oAdd {X : Cx} : OpR X (binaryOp .Add) (oAdd X.K) := by
  refine op_wk (op_or op_add (op_or op_add_str (op_or op_catS op_catA))) fun x y H Q q => ?_
  cases x <;> cases y <;> first | exact q.elim | skip
  · exact .inl ⟨_, _, rfl, rfl, q⟩
  · exact .inr (.inl ⟨_, _, rfl, rfl, q⟩)
  · rcases q with q | ⟨c, d, xs, ys, e1, e2, h1, h2, hz, n1, n2, q⟩
    · exact .inr (.inr (.inl q))
    · exact .inr (.inr (.inr ⟨c, d, xs, ys, e1, e2, h1, h2, hz, fun z => absurd z n1, fun _ z => absurd z n2, fun _ _ => q.all⟩))
/-- a - b, of ints and of bools -/
def oSub : R2 := fun x y H Q => match x, y with
  | .int i, .int j => Q (.int (i - j)) H
  | .bl i, .bl j => Q (.int (b2i i - b2i j)) H
  | _, _ => False
theorem op_sub_bb {X : Cx} : OpR X (binaryOp .Sub) (fun x y H Q => ∃ i j, x = .bl i ∧ y = .bl j ∧ Q (.int (b2i i - b2i j)) H) := by
  intro pins s σ H x y v u Q I rx ry h
  obtain ⟨i, j, rfl, rfl, q⟩ := h
  cases rx
  cases ry
  exact sub_bool ⟨.int (b2i i - b2i j), H, I.tok _, ⟨_, rfl⟩, q⟩
theorem op_oSub {X : Cx} : OpR X (binaryOp .Sub) oSub := by
  refine op_wk (op_or op_sub op_sub_bb) fun x y H Q q => ?_
  cases x <;> cases y <;> first | exact q.elim | skip
  · exact .inr ⟨_, _, rfl, rfl, q⟩
  · exact .inl ⟨_, _, rfl, rfl, q⟩
/-- a * b -/
def oMul : R2 := fun x y H Q => match x, y with
  | .int i, .int j => IntMulOk i j ∧ Q (.int (i * j)) H
  | .ref a, .int k => ∃ xs, H a = some (.lst xs) ∧ -(2 ^ 63) ≤ k ∧ k < 2 ^ 63 ∧ xs.length * k.toNat ≤ sizeLine ∧ NewAt H (.lst (List.replicate k.toNat xs).flatten) Q
  | _, _ => False
theorem op_mulK {X : Cx} : OpR X (binaryOp .Mult) (rI IntMulOk fun i j => .int (i * j)) := opI fun _ _ _ _ _ _ _ hc q => mul_int q hc
theorem op_oMul {X : Cx} : OpR X (binaryOp .Mult) oMul := by
  refine op_wk (op_or op_mulK op_rep) fun x y H Q q => ?_
  cases x <;> cases y <;> first | exact q.elim | skip
  · exact .inl ⟨_, _, rfl, rfl, q⟩
  · obtain ⟨xs, h1, h2, h3, h4, q⟩ := q
    exact .inr ⟨_, _, xs, rfl, rfl, h1, h2, h3, h4, q.all⟩
/-- a // b -/
def oDiv : R2 := fun x y H Q => match x, y with
  | .int i, .int j => (j ≠ 0 ∧ j.natAbs.log2 < 9000) ∧ Q (.int (i.fdiv j)) H
  | _, _ => False
theorem op_oDiv {X : Cx} : OpR X (binaryOp .FloorDiv) oDiv := by
  refine op_wk (r := rI (fun _ j => j ≠ 0 ∧ j.natAbs.log2 < 9000) fun i j => .int (i.fdiv j)) (opI fun _ _ _ _ _ _ _ hc q => floordiv_int hc.1 q (.inl (PyProof.noPylong_of_log2 hc.2))) fun x y H Q q => ?_
  cases x <;> cases y <;> first | exact q.elim | skip
  exact ⟨_, _, rfl, rfl, q⟩
/-- a % b -/
def oMod : R2 := fun x y H Q => match x, y with
  | .int i, .int j => j ≠ 0 ∧ Q (.int (i.fmod j)) H
  | _, _ => False
theorem op_oMod {X : Cx} : OpR X (binaryOp .Mod) oMod := by
  refine op_wk op_modN fun x y H Q q => ?_
  cases x <;> cases y <;> first | exact q.elim | skip
  exact ⟨_, _, rfl, rfl, q⟩
/-- an operator of two ints with a condition -/
def oII (C : Int → Int → Prop) (g : Int → Int → V) : R2 := fun x y H Q => match x, y with
  | .int i, .int j => C i j ∧ Q (g i j) H
  | _, _ => False
theorem op_oII {X : Cx} {f : Value → Value → Sem Value} {C : Int → Int → Prop} {g : Int → Int → V} (h : OpR X f (rI C g)) : OpR X f (oII C g) := by
  refine op_wk h fun x y H Q q => ?_
  cases x <;> cases y <;> first | exact q.elim | skip
  exact ⟨_, _, rfl, rfl, q⟩
def oI0 (g : Int → Int → V) : R2 := fun x y H Q => match x, y with
  | .int i, .int j => Q (g i j) H
  | _, _ => False
theorem op_oI0 {X : Cx} {f : Value → Value → Sem Value} {g : Int → Int → V} (h : OpR X f (rI0 g)) : OpR X f (oI0 g) := by
  refine op_wk h fun x y H Q q => ?_
  cases x <;> cases y <;> first | exact q.elim | skip
  exact ⟨_, _, rfl, rfl, q⟩
abbrev oPow : R2 := oII CPow fun i j => .int (i ^ j.toNat)
abbrev oShl : R2 := oII CShl fun i j => .int (i * 2 ^ j.toNat)
abbrev oShr : R2 := oII (fun _ j => 0 ≤ j) fun i j => .int (i / 2 ^ j.toNat)
abbrev oAnd : R2 := oI0 fun i j => .int (Builtin.bitAnd i j)
abbrev oOr : R2 := oI0 fun i j => .int (Builtin.bitOr i j)
abbrev oXor : R2 := oI0 fun i j => .int (Builtin.bitXor i j)
theorem op_oPow {X : Cx} : OpR X (binaryOp .Pow) oPow := op_oII op_pow
theorem op_oShl {X : Cx} : OpR X (binaryOp .LShift) oShl := op_oII op_shlW
theorem op_oShr {X : Cx} : OpR X (binaryOp .RShift) oShr := op_oII op_shr
theorem op_oAnd {X : Cx} : OpR X (binaryOp .BitAnd) oAnd := op_oI0 op_and
theorem op_oOr {X : Cx} : OpR X (binaryOp .BitOr) oOr := op_oI0 L2.op_or
theorem op_oXor {X : Cx} : OpR X (binaryOp .BitXor) oXor := op_oI0 op_xor
/-! ### comparisons -/
def oCmp (g : Int → Int → Bool) (k : Str → Str → Bool) : R2 := fun x y H Q => match x, y with
  | .int i, .int j => Q (.bl (g i j)) H
  | .str a, .str b => Q (.bl (k a b)) H
  | _, _ => False
theorem op_oCmp {X : Cx} {f : Value → Value → Sem Value} {g : Int → Int → Bool} {k : Str → Str → Bool} (h : OpR X f (rI0 fun i j => .bl (g i j))) (h' : OpR X f (fun x y H Q => ∃ i j, x = .str i ∧ y = .str j ∧ Q (.bl (k i j)) H)) : OpR X f (oCmp g k) := by
  refine op_wk (op_or h h') fun x y H Q q => ?_
  cases x <;> cases y <;> first | exact q.elim | skip
  · exact .inl ⟨_, _, rfl, rfl, q⟩
  · exact .inr ⟨_, _, rfl, rfl, q⟩
abbrev oLt : R2 := oCmp (fun i j => decide (i < j)) fun a b => decide (a.cps.toList < b.cps.toList)
theorem op_oLt {X : Cx} : OpR X (compareOp .Lt) oLt := op_oCmp op_lt op_lt_str
abbrev oLe : R2 := oI0 fun i j => .bl (decide (i ≤ j))
abbrev oGt : R2 := oI0 fun i j => .bl (decide (j < i))
abbrev oGe : R2 := oI0 fun i j => .bl (decide (j ≤ i))
theorem op_oLe {X : Cx} : OpR X (compareOp .LtE) oLe := op_oI0 op_le
theorem op_oGt {X : Cx} : OpR X (compareOp .Gt) oGt := op_oI0 op_gt
theorem op_oGe {X : Cx} : OpR X (compareOp .GtE) oGe := op_oI0 op_ge
/-- a == b of scalars, of data -/
def oEq (K : PySem.W.Frag) : R2 := fun x y H Q => rEq x y H Q ∨ rEqD K x y H Q
def oNe (K : PySem.W.Frag) : R2 := fun x y H Q => rNe x y H Q ∨ rNeD K x y H Q
theorem op_oEq {X : Cx} (hu : X.A.units + 64 < cLine) : OpR X (compareOp .Eq) (oEq X.K) := op_or op_eq (op_eqD hu)
theorem op_oNe {X : Cx} (hu : X.A.units + 64 < cLine) : OpR X (compareOp .NotEq) (oNe X.K) := op_or op_ne (op_neD hu)

/-! ### slices, divmod -/
def oSlL (K : PySem.W.Frag) : V → Option Int → Option Int → Hp → VK → Prop := fun x lo hi H Q => ∃ a xs, x = .ref a ∧ SqL K H a xs ∧ NewAt H (.lst (cutV xs lo hi)) Q
theorem sl_lstN {X : Cx} : SlR X (oSlL X.K) := by
  intro pins s σ H x v vl vu lo hi sl Q I rx hs pl pu h
  obtain ⟨a, xs, e, hq, q⟩ := h
  exact sl_list pins s σ H x v vl vu lo hi sl Q I rx hs pl pu ⟨a, xs, e, hq, q.all⟩
def rDivm : List V → Hp → VK → Prop := fun xs H Q => ∃ i j, xs = [.int i, .int j] ∧ (0 < j ∧ j.natAbs.log2 < 9000) ∧ NewAt H (.tup [.int (i / j), .int (i % j)]) Q
theorem call_divmodK {X : Cx} : CallR X (.builtin "divmod") rDivm := by
  intro pins s σ H xs us Q I r h
  obtain ⟨i, j, e, hc, q⟩ := h
  exact call_divmodW pins s σ H xs us Q I r ⟨i, j, e, ⟨hc.1, PyProof.noPylong_of_log2 hc.2⟩, q.all⟩
/-! ### targets: o.f of an instance -/
def gFld (K : PySem.W.Frag) (to : TE) (f : Str) : TG := fun v σ H Q => to σ H fun x H1 => ∃ a C dx fs, x = .ref a ∧ H1 a = some (.ins C dx fs) ∧ Cls K C ∧ NoAttr K C f ∧ fs.length < 1000 ∧ Q σ (upd H1 a (.ins C dx (putF f v fs)))
theorem pg_fld {X : Cx} {o : Expr} {f : Str} {pos : Pos} {to : TE} (ho : PE X o to)
    (ha : ∀ v, assign (.Attribute o f pos) X.env v = (do
      let ov ← holding [v] (eval o X.env)
      standAt pos.atName
      holding [v, ov] (setAttr ov f v)
      release [v, ov] []) := by intro _; rfl) : PG X (.Attribute o f pos) (gFld X.K to f) := by
  refine ⟨fun pins s σ H v u Q I r h => ?_⟩
  rw [ha]
  refine wpAny_bind (wpAny_holding (thn (ho.run pins s σ H _ I h) fun ov s1 ⟨x, H1, I1, r1, a, C, dx, fs, ex, ea, c, n, l, q1⟩ => ?_))
  subst ex
  obtain rfl : ov = Value.ref a := r1
  refine wpAny_bind (wpAny_standAt (wpAny_bind (wpAny_holding (setattr_ok I1 ea c n l r fun s3 I3 => ?_))))
  exact wpAny_release ⟨σ, _, I3, q1⟩

/-! ### a def of the text, called by its name -/
section
variable (P : Program) (w : World) (K : PySem.W.Frag) (mg : Str → Option Value) (base : Heap)
/-- the module's name x holds a def that keeps sp -/
def Fn (CX : CXT) (k : Nat) (x : Str) (ps : List Str) (dvs : List V) (sp : Sp) : Prop :=
  ∃ f fd ds, FnOk P w K mg base CX k f fd ps sp ∧ mg x = some (.ref f) ∧ PySem.W.keepIn K (.ref f) = true ∧ Binds K fd ps ds ∧ Vals dvs ds
/-- the class at C has a method m that keeps sp -/
def Mt (CX : CXT) (k : Nat) (C : Addr) (m : Str) (ps : List Str) (sp : Sp) : Prop :=
  ∃ f fd, FnOk P w K mg base CX k f fd ps sp ∧ Meth K C m f ∧ Binds K fd ps [] ∧ Cls K C
/-- the name x holds a class at C that is made by an __init__ that keeps sp -/
def Cn (CX : CXT) (k : Nat) (x : Str) (C : Addr) (ps : List Str) (dvs : List V) (sp : Sp) : Prop :=
  ∃ f fd ds, FnOk P w K mg base CX k f fd ps sp ∧ Mk K C f ∧ mg x = some (.ref C) ∧ Binds K fd ps ds ∧ Vals dvs ds
end
section
variable {X : Cx} {CX : CXT} {k : Nat} {C : Addr} {x m : Str} {ps : List Str} {dvs : List V} {sp : Sp} {E : XK} {p pos apos : Pos} {e o : Expr} {es : List Expr} {ta : TE} {t : TA}
theorem pe_fn (F : Fn X.prog X.w X.K X.mg X.base CX k x ps dvs sp) (hr : Room k X.A) (hx : Passes CX X E) (ha : PA X (e :: es) t) (hg : Gl X x := by rfl)
    (hdb : (x == ("__debug__" : Str)) = false := by decide) (he : starEach (e :: es) X.env = (false, eval e X.env) :: starEach es X.env := by rfl) (hpl : (backTo pos (starEach es X.env)).any (·.1) = false := by rfl) :
    PE X (.Call (.Name x p) (e :: es) [] pos) (tCall sp dvs E t) := by
  obtain ⟨f, fd, ds, F, hm, hk, hb, hd⟩ := F
  exact pe_call F hr hg hm hk hb hd hx ha hdb he hpl
theorem pe_fn0 (F : Fn X.prog X.w X.K X.mg X.base CX k x ps dvs sp) (hr : Room k X.A) (hx : Passes CX X E) (hg : Gl X x := by rfl)
    (hdb : (x == ("__debug__" : Str)) = false := by decide) : PE X (.Call (.Name x p) [] [] pos) (tCall sp dvs E tNil) := by
  obtain ⟨f, fd, ds, F, hm, hk, hb, hd⟩ := F
  exact pe_call0 F hr hg hm hk hb hd hx hdb
/-- C(..): a new instance and its dict, then __init__ -/
def MakeR (C : Addr) (sp : Sp) (vs : List V) (H : Hp) (Q : VK) (E : XK) : Prop := ∀ x dx H', H x = none → H dx = none → dx ≠ x → Same H H' → H' x = some (.ins C dx []) → (∀ b, b ≠ x → b ≠ dx → H' b = H b) →
  sp (.ref x :: vs) H' (fun v H2 => v = .non ∧ Q (.ref x) H2) E
def tMakeN (C : Addr) (sp : Sp) (dvs : List V) (E : XK) (t : TA) : TE := fun σ H Q => t σ H fun vs H1 => MakeR C sp (vs ++ dvs) H1 Q E
theorem pe_cn (F : Cn X.prog X.w X.K X.mg X.base CX k x C ps dvs sp) (hr : Room (k + 1) X.A) (hx : Passes CX X E) (ha : PA X (e :: es) t) (hg : Gl X x := by rfl)
    (hdb : (x == ("__debug__" : Str)) = false := by decide) (he : starEach (e :: es) X.env = (false, eval e X.env) :: starEach es X.env := by rfl) (hpl : (backTo pos (starEach es X.env)).any (·.1) = false := by rfl) :
    PE X (.Call (.Name x p) (e :: es) [] pos) (tMakeN C sp dvs E t) := by
  obtain ⟨f, fd, ds, F, hM, hm, hb, hd⟩ := F
  refine ⟨fun pins s σ H Q I h => ?_⟩
  refine wpAny_Call_Name_kw (ld_glob I hg hm ?_ hdb)
  refine PySem.W.callWith_K (h₀ := X.base) I.ok.mod.kin hM.kp (thn (ha.run pos pins s σ H _ I h) fun us s1 ⟨vs, H1, I1, r, q⟩ => ⟨I1.kIn, ?_⟩) he hpl
  refine run_make hM F hr hb hd hx I1 r fun y dy n1 n2 ne => q y dy _ n1 n2 ne (fun b u z => ?_) upd_same fun b hb1 hb2 => ?_
  · rw [upd_ne (ne_of_none z n1), upd_ne (ne_of_none z n2)]; exact z
  · rw [upd_ne hb1, upd_ne hb2]
theorem pe_mt {pl : Sem Bool} (F : Mt X.prog X.w X.K X.mg X.base CX k C m ps sp) (hr : Room k X.A) (hx : Passes CX X E) (he : PE X o ta) (ha : PA X (e :: es) t)
    (hst : starEach (e :: es) X.env = (false, eval e X.env) :: starEach es X.env := by rfl) (hpl : (backTo pos (starEach es X.env)).any (·.1) = false := by rfl)
    (ht : eval (.Call (.Attribute o m apos) (e :: es) [] pos) X.env = (do
      let ov ← eval o X.env
      standAt apos.atName
      let (f, first) ← holding [ov] (getMethod ov m pl)
      callWith pos f first (backTo pos (starEach (e :: es) X.env)) (backToKw pos (keywordEach [] X.env))) := by rfl) :
    PE X (.Call (.Attribute o m apos) (e :: es) [] pos) (tMeth C m sp [] E ta t) := by
  obtain ⟨f, fd, F, hm, hb, c⟩ := F
  exact pe_meth (pl := pl) he c hm F hr hb .nil hx ha hst hpl ht
theorem pe_mt0 {pl : Sem Bool} (F : Mt X.prog X.w X.K X.mg X.base CX k C m ps sp) (hr : Room k X.A) (hx : Passes CX X E) (he : PE X o ta)
    (ht : eval (.Call (.Attribute o m apos) [] [] pos) X.env = (do
      let ov ← eval o X.env
      standAt apos.atName
      let (f, first) ← holding [ov] (getMethod ov m pl)
      callWith pos f first (backTo pos (starEach [] X.env)) (backToKw pos (keywordEach [] X.env))) := by rfl) :
    PE X (.Call (.Attribute o m apos) [] [] pos) (tMeth C m sp [] E ta tNil) := by
  obtain ⟨f, fd, F, hm, hb, c⟩ := F
  exact pe_meth0 (pl := pl) he c hm F hr hb .nil hx ht
end

/-! ### the rules with the written part named (within a comprehension) -/
section
variable {X : Cx} (K : PySem.W.Frag)
theorem call_isiE (h : X.K = K) : CallR X (.builtin "isinstance") (rIsi K) := h ▸ call_isi
theorem call_len_seqE (h : X.K = K) : CallR X (.builtin "len") (fun xs H Q => ∃ p ys, xs = [.ref p] ∧ (SqL K H p ys ∨ SqT K H p ys) ∧ Q (.int ys.length) H) := h ▸ call_len_seq
theorem op_oAddE (h : X.K = K) : OpR X (binaryOp .Add) (oAdd K) := h ▸ op_oAdd
theorem op_oEqE (h : X.K = K) (hu : X.A.units + 64 < cLine) : OpR X (compareOp .Eq) (oEq K) := h ▸ op_oEq hu
theorem op_oNeE (h : X.K = K) (hu : X.A.units + 64 < cLine) : OpR X (compareOp .NotEq) (oNe K) := h ▸ op_oNe hu
theorem op_inE (h : X.K = K) : OpR X (compareOp .In) (rIn K false) := h ▸ op_in_seq
theorem op_notInE (h : X.K = K) : OpR X (compareOp .NotIn) (rIn K true) := h ▸ op_notIn_seq
theorem ix_seqE (h : X.K = K) : IxR X (rIx K) := h ▸ ix_seq
theorem pe_fldE {e : Expr} {f : Str} {pos : Pos} {ta : TE} (h : X.K = K) (he : PE X e ta) (hb : attributeBase e f X.env (eval e X.env) = eval e X.env) : PE X (.Attribute e f pos) (tFld K ta f) := h ▸ pe_fld he hb
end
/-! ### names of the module -/
theorem pe_gint {X : Cx} {x : Str} {i : Int} {pos : Pos} (h : ∃ t, X.mg x = some (.int i t)) (hg : Gl X x := by rfl) (hd : (x == ("__debug__" : Str)) = false := by decide) : PE X (.Name x pos) (tC (.int i)) := by
  obtain ⟨t, h⟩ := h
  exact pe_glob hg h ⟨_, rfl⟩ hd
theorem pe_gref {X : Cx} {x : Str} {C : Addr} {pos : Pos} (h : X.mg x = some (.ref C)) (hg : Gl X x := by rfl) (hd : (x == ("__debug__" : Str)) = false := by decide) : PE X (.Name x pos) (tC (.ref C)) := pe_glob hg h rfl hd
/-- the built-ins that the text does not hide -/
structure Blt (mg : Str → Option Value) : Prop where
  len : mg "len" = none
  int : mg "int" = none
  bool : mg "bool" = none
  str : mg "str" = none
  isinstance : mg "isinstance" = none
  abs : mg "abs" = none
  max : mg "max" = none
  min : mg "min" = none
  divmod : mg "divmod" = none
  range : mg "range" = none
  enumerate : mg "enumerate" = none
  zip : mg "zip" = none
  list : mg "list" = none
  tuple : mg "tuple" = none
  ord : mg "ord" = none
  sorted : mg "sorted" = none
theorem blt_of {mg : Str → Option Value} (h : ∀ x ∈ bltNames, mg x = none) : Blt mg := by
  have g : ∀ x, x ∈ bltNames → mg x = none := h
  exact ⟨g _ (by simp [bltNames]), g _ (by simp [bltNames]), g _ (by simp [bltNames]), g _ (by simp [bltNames]), g _ (by simp [bltNames]), g _ (by simp [bltNames]), g _ (by simp [bltNames]), g _ (by simp [bltNames]), g _ (by simp [bltNames]), g _ (by simp [bltNames]), g _ (by simp [bltNames]), g _ (by simp [bltNames]), g _ (by simp [bltNames]), g _ (by simp [bltNames]), g _ (by simp [bltNames]), g _ (by simp [bltNames])⟩
section
variable {X : Cx}
theorem pe_tyInt {pos : Pos} (B : Blt X.mg) (hg : Gl X "int" := by rfl) : PE X (.Name "int" pos) (tC (.ty "int")) := pe_bltn (u := .type "int") hg B.int (by decide +kernel) rfl
theorem pe_tyBool {pos : Pos} (B : Blt X.mg) (hg : Gl X "bool" := by rfl) : PE X (.Name "bool" pos) (tC (.ty "bool")) := pe_bltn (u := .type "bool") hg B.bool (by decide +kernel) rfl
theorem pe_tyStr {pos : Pos} (B : Blt X.mg) (hg : Gl X "str" := by rfl) : PE X (.Name "str" pos) (tC (.ty "str")) := pe_bltn (u := .type "str") hg B.str (by decide +kernel) rfl
end
end Up

set_option Elab.async false
set_option linter.all false
set_option maxRecDepth 100000
set_option maxHeartbeats 4000000
namespace Up
open PySem PySem.Spec PyProof.Rows L2
/-! ### one step of a reading each -/
section
variable {K : PySem.W.Frag} {D : Ends} {σ : L2.St} {H : Hp} {Q : VK} {ta tb te : TE} {t u : TS} {c d : TT}
theorem g_seq (h : t { D with nx := u D } σ H) : tSeq t u D σ H := h
theorem g_ifs (h : c σ H fun b H1 => if b = true then t D σ H1 else u D σ H1) : tIfS c t u D σ H := h
theorem g_asg {g : TG} (h : te σ H fun x H1 => g x σ H1 D.nx) : tAsg te g D σ H := h
theorem g_name {i : Nat} {v : V} {R : L2.St → Hp → Prop} (h : R (σ.set i (some v)) H) : gName i v σ H R := h
theorem g_drop (h : te σ H fun _ H1 => D.nx σ H1) : tDrop te D σ H := h
theorem g_ret (h : te σ H D.rt) : tRet te D σ H := h
theorem g_retN (h : D.rt .non H) : tRetN D σ H := h
theorem g_next (h : D.nx σ H) : tNext D σ H := h
theorem g_sfld {f : Str} (h : te σ H fun y H1 => ta σ H1 fun x H2 => ∃ a C dx fs, x = .ref a ∧ H2 a = some (.ins C dx fs) ∧ Cls K C ∧ NoAttr K C f ∧ fs.length < 1000 ∧ D.nx σ (upd H2 a (.ins C dx (putF f y fs)))) : sFld K ta te f D σ H := h
theorem g_var {i : Nat} {v : V} (e : σ[i]? = some (some v)) (h : Q v H) : tVar i σ H Q := ⟨v, e, h⟩
theorem g_c {v : V} (h : Q v H) : tC v σ H Q := h
theorem g_op {r : R2} (h : ta σ H fun x H1 => tb σ H1 fun y H2 => r x y H2 Q) : tOp r ta tb σ H Q := h
theorem g_un {r : V → Hp → VK → Prop} (h : ta σ H fun x H1 => r x H1 Q) : tUn r ta σ H Q := h
theorem g_neg {i : Int} (h : Q (.int (-i)) H) : rU (fun i => .int (-i)) (.int i) H Q := ⟨i, rfl, h⟩
theorem g_if (h : c σ H fun b H1 => if b = true then ta σ H1 Q else tb σ H1 Q) : tIf c ta tb σ H Q := h
theorem g_cb {r : List V → Hp → VK → Prop} {t : TA} (h : t σ H fun vs H1 => r vs H1 Q) : tCB r t σ H Q := h
theorem g_cons {t : TA} {R : List V → Hp → Prop} (h : ta σ H fun x H1 => t σ H1 fun xs H2 => R (x :: xs) H2) : tCons ta t σ H R := h
theorem g_nil {R : List V → Hp → Prop} (h : R [] H) : tNil σ H R := h
theorem g_bits (h : ta σ H fun x H1 => ∃ i, x = .int i ∧ Q (.int (Builtin.Int.intBits i : Nat)) H1) : tBits ta σ H Q := h
theorem g_call {sp : Sp} {dvs : List V} {E : XK} {t : TA} (h : t σ H fun vs H1 => sp (vs ++ dvs) H1 Q E) : tCall sp dvs E t σ H Q := h
theorem g_fld {f : Str} (h : ta σ H fun x H1 => ∃ a C dx fs v, x = .ref a ∧ H1 a = some (.ins C dx fs) ∧ Cls K C ∧ NoAttr K C f ∧ fs.lookup f = some v ∧ Q v H1) : tFld K ta f σ H Q := h
theorem g_gtup {n : Nat} {t : TGs} {v : V} {R : L2.St → Hp → Prop} (h : ∃ a xs, v = .ref a ∧ SqT K H a xs ∧ xs.length = n ∧ t xs σ H R) : gTup K n t v σ H R := h
theorem g_gcons {t : TG} {u : TGs} {v : V} {r : List V} {R : L2.St → Hp → Prop} (h : t v σ H fun σ' H' => u r σ' H' R) : gCons t u (v :: r) σ H R := ⟨v, r, rfl, h⟩
theorem g_gnil {R : L2.St → Hp → Prop} (h : R σ H) : gNil [] σ H R := ⟨rfl, h⟩
theorem g_gfld {f : Str} {v : V} {R : L2.St → Hp → Prop} (h : ta σ H fun x H1 => ∃ a C dx fs, x = .ref a ∧ H1 a = some (.ins C dx fs) ∧ Cls K C ∧ NoAttr K C f ∧ fs.length < 1000 ∧ R σ (upd H1 a (.ins C dx (putF f v fs)))) : gFld K ta f v σ H R := h
/-! tests -/
section
variable {R : Bool → Hp → Prop} {T : Bool → Prop}
theorem g_tt (h : ta σ H fun x H' => ∃ k, x = .bl k ∧ R k H') : tTest ta σ H R := h
theorem g_tB (h : ta σ H fun x H' => ∃ k, x = .bl k ∧ R k H') : tB ta σ H R := h
theorem g_bl {b : Bool} (h : T b) : ∃ k, V.bl b = .bl k ∧ T k := ⟨b, rfl, h⟩
theorem g_and (h : c σ H fun k H1 => if k = true then d σ H1 R else R false H1) : tAnd c d σ H R := h
theorem g_or (h : c σ H fun k H1 => if k = true then R true H1 else d σ H1 R) : tOr c d σ H R := h
theorem g_not (h : c σ H fun k H1 => R (!k) H1) : tNot c σ H R := h
theorem g_andV (h : ta σ H fun x H1 => ∃ c, x = .bl c ∧ if c = true then tb σ H1 Q else Q (.bl false) H1) : tAndV ta tb σ H Q := h
theorem g_orV (h : ta σ H fun x H1 => ∃ c, x = .bl c ∧ if c = true then Q (.bl true) H1 else tb σ H1 Q) : tOrV ta tb σ H Q := h
theorem g_notV (h : ta σ H fun x H1 => ∃ c, x = .bl c ∧ Q (.bl (!c)) H1) : tNotV ta σ H Q := h
end
/-! ints -/
section
variable {i j : Int}
theorem g_addI (h : Q (.int (i + j)) H) : oAdd K (.int i) (.int j) H Q := h
theorem g_addS {a b : Str} (hz : a.length + b.length ≤ sizeLine) (h : Q (.str (a ++ b)) H) : oAdd K (.str a) (.str b) H Q := ⟨hz, h⟩
theorem g_subI (h : Q (.int (i - j)) H) : oSub (.int i) (.int j) H Q := h
theorem g_subB {i j : Bool} (h : Q (.int (b2i i - b2i j)) H) : oSub (.bl i) (.bl j) H Q := h
theorem g_mulI (hm : IntMulOk i j) (h : Q (.int (i * j)) H) : oMul (.int i) (.int j) H Q := ⟨hm, h⟩
theorem g_divI (hm : j ≠ 0) (hl : j.natAbs.log2 < 9000) (h : Q (.int (i.fdiv j)) H) : oDiv (.int i) (.int j) H Q := ⟨⟨hm, hl⟩, h⟩
theorem g_modI (hm : j ≠ 0) (h : Q (.int (i.fmod j)) H) : oMod (.int i) (.int j) H Q := ⟨hm, h⟩
theorem g_II {C : Int → Int → Prop} {g : Int → Int → V} (hm : C i j) (h : Q (g i j) H) : oII C g (.int i) (.int j) H Q := ⟨hm, h⟩
theorem g_I0 {g : Int → Int → V} (h : Q (g i j) H) : oI0 g (.int i) (.int j) H Q := h
theorem g_cmpI {g : Int → Int → Bool} {k : Str → Str → Bool} (h : Q (.bl (g i j)) H) : oCmp g k (.int i) (.int j) H Q := h
theorem g_bitsI {T : Int → Prop} (h : T i) : ∃ n, V.int i = .int n ∧ T n := ⟨i, rfl, h⟩
theorem g_eqI (h : Q (.bl (decide (i = j))) H) : oEq K (.int i) (.int j) H Q := by
  refine Or.inl ⟨rfl, ?_⟩
  have e : decide (V.int i = V.int j) = decide (i = j) := by simp
  rw [e]; exact h
theorem g_neI (h : Q (.bl (!decide (i = j))) H) : oNe K (.int i) (.int j) H Q := by
  refine Or.inl ⟨rfl, ?_⟩
  have e : decide (V.int i = V.int j) = decide (i = j) := by simp
  rw [e]; exact h
theorem g_eqS {a b : Str} (h : Q (.bl (decide (a = b))) H) : oEq K (.str a) (.str b) H Q := by
  refine Or.inl ⟨rfl, ?_⟩
  have e : decide (V.str a = V.str b) = decide (a = b) := by simp
  rw [e]; exact h
theorem g_neS {a b : Str} (h : Q (.bl (!decide (a = b))) H) : oNe K (.str a) (.str b) H Q := by
  refine Or.inl ⟨rfl, ?_⟩
  have e : decide (V.str a = V.str b) = decide (a = b) := by simp
  rw [e]; exact h
theorem g_eqB {a b : Bool} (h : Q (.bl (decide (a = b))) H) : oEq K (.bl a) (.bl b) H Q := by
  refine Or.inl ⟨rfl, ?_⟩
  have e : decide (V.bl a = V.bl b) = decide (a = b) := by simp
  rw [e]; exact h
theorem g_neB {a b : Bool} (h : Q (.bl (!decide (a = b))) H) : oNe K (.bl a) (.bl b) H Q := by
  refine Or.inl ⟨rfl, ?_⟩
  have e : decide (V.bl a = V.bl b) = decide (a = b) := by simp
  rw [e]; exact h
theorem g_eqx {x y : V} (hs : scal x y = true) (hn : x ≠ y) (h : Q (.bl false) H) : oEq K x y H Q := by
  refine Or.inl ⟨hs, ?_⟩
  rw [decide_eq_false hn]; exact h
theorem g_nex {x y : V} (hs : scal x y = true) (hn : x ≠ y) (h : Q (.bl true) H) : oNe K x y H Q := by
  refine Or.inl ⟨hs, ?_⟩
  rw [decide_eq_false hn]; exact h
theorem g_isN {x : V} (h : Q (.bl (decide (x = .non))) H) : (fun x y H Q => y = V.non ∧ Q (.bl (decide (x = .non))) H : R2) x .non H Q := ⟨rfl, h⟩
end
/-! ifs -/
theorem g_ite {p : Prop} [Decidable p] {A B : Prop} (h1 : p → A) (h2 : ¬ p → B) : if decide p = true then A else B := by
  by_cases h : p
  · rw [if_pos (decide_eq_true h)]; exact h1 h
  · rw [if_neg (by simp [h])]; exact h2 h
theorem g_iten {p : Prop} [Decidable p] {A B : Prop} (h1 : ¬ p → A) (h2 : p → B) : if (!decide p) = true then A else B := by
  by_cases h : p
  · rw [if_neg (by simp [h])]; exact h2 h
  · rw [if_pos (by simp [h])]; exact h1 h
theorem g_iteb {b : Bool} {A B : Prop} (h1 : b = true → A) (h2 : b = false → B) : if b = true then A else B := by
  cases b
  · exact h2 rfl
  · exact h1 rfl
theorem g_yes {p : Prop} [Decidable p] {A B : Prop} (hp : p) (h : A) : if decide p = true then A else B := by
  rw [if_pos (decide_eq_true hp)]; exact h
theorem g_no {p : Prop} [Decidable p] {A B : Prop} (hp : ¬ p) (h : B) : if decide p = true then A else B := by
  rw [if_neg (by simp [hp])]; exact h
theorem g_cut {t u : TS} (R : L2.St → Hp → Prop) (h1 : t { D with nx := R } σ H) (h2 : ∀ σ' H', R σ' H' → u D σ' H') : C8.tCut t u D σ H := ⟨R, h1, h2⟩
theorem g_meth {C : Addr} {m : Str} {sp : Sp} {dvs : List V} {E : XK} {t : TA} (h : ta σ H fun x H1 => ∃ a dx fs, x = .ref a ∧ H1 a = some (.ins C dx fs) ∧ fs.lookup m = none ∧ t σ H1 fun vs H2 => sp (x :: (vs ++ dvs)) H2 Q E) : tMeth C m sp dvs E ta t σ H Q := h
theorem g_par {i j : Nat} {ta : TA} (h : ta σ H fun vs H1 => ∃ v w, vs = [v, w] ∧ D.nx ((σ.set i (some v)).set j (some w)) H1) : tPar i j ta D σ H := h
theorem g_par2 {a b : V} {T : V → V → Prop} (h : T a b) : ∃ v w, [a, b] = [v, w] ∧ T v w := ⟨a, b, rfl, h⟩
theorem g_rfl {a : V} {T : Prop} (h : T) : a = a ∧ T := ⟨rfl, h⟩
theorem g_ixT {p : Addr} {xs : List V} {i : Int} {v : V} (h : H p = some (.tup xs)) (e : atI xs i = some v) (q : Q v H) : rIx K (.ref p) (.int i) H Q := .inr (.inl ⟨p, xs, i, v, rfl, rfl, SqT.of h, e, q⟩)
theorem g_ixL {p : Addr} {xs : List V} {i : Int} {v : V} (h : H p = some (.lst xs)) (e : atI xs i = some v) (q : Q v H) : rIx K (.ref p) (.int i) H Q := .inl ⟨p, xs, i, v, rfl, rfl, SqL.of h, e, q⟩
/-! loops -/
theorem g_for {wi : TI} {g : TG} {tb : TS} (h : wi σ H fun J H1 => ∃ W : Nat → Nat → L2.St → Hp → Prop, (∃ m, W 0 m σ H1) ∧ ∀ i m σ H, W i m σ H →
  (J.stop i H ∧ D.nx σ H) ∨ (J.go i H ∧ ∃ N : L2.St → Hp → Prop, (∀ σ' H', N σ' H' → ∃ m', m' < m ∧ W (i + 1) m' σ' H') ∧ ∀ x H', J.yld i H x H' → g x σ H' fun σ2 H2 => tb { D with nx := N, ct := N, bk := D.nx } σ2 H2)) : tFor wi g tb D σ H := h
theorem g_iList {R : It → Hp → Prop} (h : te σ H fun x H1 => ∃ a, x = .ref a ∧ (∃ xs, SqL K H1 a xs) ∧ R (Itl K a) H1) : iList K te σ H R := h
theorem g_iTup {R : It → Hp → Prop} (h : te σ H fun x H1 => ∃ a, x = .ref a ∧ (∃ xs, SqT K H1 a xs) ∧ R (Itt K a) H1) : iTup K te σ H R := h
theorem g_iRng1 {ta : TA} {R : It → Hp → Prop} (h : ta σ H fun vs H1 => ∃ j : Int, vs = [.int j] ∧ -(2 ^ 62) ≤ j ∧ j < 2 ^ 62 ∧ R (Itr 0 j.toNat) H1) : iRng1 ta σ H R := h
theorem g_iEnum {ta : TA} {R : It → Hp → Prop} (h : ta σ H fun vs H1 => ∃ a xs, vs = [.ref a] ∧ SqL K H1 a xs ∧ R (Ite K a) H1) : iEnum K ta σ H R := h
theorem g_slice {r : V → Option Int → Option Int → Hp → VK → Prop} {tl th : TO} (h : te σ H fun x H1 => tl σ H1 fun l H2 => th σ H2 fun u H3 => r x l u H3 Q) : tSl r te tl th σ H Q := h
theorem g_po0 {R : Option Int → Hp → Prop} (h : R none H) : tNoPart σ H R := h
theorem g_po1 {R : Option Int → Hp → Prop} (h : te σ H fun x H1 => ∃ i, x = .int i ∧ R (some i) H1) : tPart te σ H R := h
theorem g_poI {i : Int} {T : Int → Prop} (h : T i) : ∃ n, V.int i = .int n ∧ T n := ⟨i, rfl, h⟩
theorem g_gsub {to ti : TE} {t : TSet} {v : V} {R : L2.St → Hp → Prop} (h : to σ H fun o H1 => ti σ H1 fun i H2 => t o i v H2 fun H3 => R σ H3) : gSub to ti t v σ H R := h
theorem g_intI {i : Int} {T : Int → Prop} {U : Prop} (h : T i) : (∃ j, [V.int i] = [.int j] ∧ T j) ∨ U := .inl ⟨i, rfl, h⟩
theorem g_intB {b : Bool} {T : Bool → Prop} {U : Prop} (h : T b) : U ∨ ∃ k, [V.bl b] = [.bl k] ∧ T k := .inr ⟨b, rfl, h⟩
theorem g_setL {p : Addr} {xs : List V} {k : Int} {j : Nat} {v : V} {R : Hp → Prop} (h : H p = some (.lst xs)) (e : ixN xs.length k = some j) (q : ∀ H', H' p = some (.lst (xs.set j v)) → (∀ b, b ≠ p → H' b = H b) → R H') : rSetL (.ref p) (.int k) v H R :=
  ⟨p, xs, k, j, rfl, rfl, h, e, q _ upd_same fun b hb => upd_ne hb⟩
theorem g_max2 {i j : Int} {T : Int → Int → Prop} (h : T i j) : ∃ a b, [V.int i, V.int j] = [.int a, .int b] ∧ T a b := ⟨i, j, rfl, h⟩
theorem g_abs1 {i : Int} {T : Int → Prop} (h : T i) : ∃ a, [V.int i] = [.int a] ∧ T a := ⟨i, rfl, h⟩
theorem g_lenL {p : Addr} {xs : List V} {T : List V → Prop} (h : H p = some (.lst xs)) (q : T xs) : ∃ p' ys, [V.ref p] = [.ref p'] ∧ (SqL K H p' ys ∨ SqT K H p' ys) ∧ T ys := ⟨p, xs, rfl, .inl (SqL.of h), q⟩
theorem g_lc {wi : TI} {g : TG} {tt : TT} {vs : List Nat} (h : wi σ H fun J H1 => ∀ D, H1 D = none → ∃ W : Nat → Nat → Hp → Prop, (∃ m, W 0 m (upd H1 D (.lst []))) ∧ ∀ i m H, W i m H →
  (J.stop i H ∧ Q (.ref D) H) ∨ (J.go i H ∧ ∃ Nx : Hp → Prop, (∀ H', Nx H' → ∃ m', m' < m ∧ W (i + 1) m' H') ∧ ∀ x H', J.yld i H x H' → g x (wipe σ vs) H' fun σ2 H2 => wipe σ2 vs = wipe σ vs ∧ tt σ2 H2 fun b H3 =>
    if b = true then te σ2 H3 fun y H4 => ∃ acc, H4 D = some (.lst acc) ∧ acc.length < sizeLine ∧ Nx (upd H4 D (.lst (acc ++ [y]))) else Nx H3)) : tLc wi g tt te vs σ H Q := h
theorem g_yesT {R : Bool → Hp → Prop} (h : R true H) : tYes σ H R := h
theorem dp_bl : ∀ bs : List Bool, DpAll K H (bs.map V.bl) (bs.map PyData.bool)
  | [] => .nil
  | b :: bs => .cons (.bl b) (dp_bl bs)
theorem g_eqBs {a b : Addr} {bs : List Bool} (ha : H a = some (.lst (bs.map V.bl))) (hb : H b = some (.lst (bs.map V.bl))) (hs : SeqAt.shaped (.list (bs.map PyData.bool)) = true) (q : Q (.bl true) H) : oEq K (.ref a) (.ref b) H Q := by
  refine .inr ⟨_, _, .lst (SqL.of ha) (dp_bl bs), .lst (SqL.of hb) (dp_bl bs), hs, hs, ?_⟩
  rw [SeqAt.eqv_refl _ (SeqAt.canLay_of_shaped hs)]
  exact q
/-! new objects -/
theorem g_tup {t : TA} (h : t σ H fun xs H1 => xs.length ≤ sizeLine ∧ NewAt H1 (.tup xs) Q) : tTupN t σ H Q := h
theorem g_lst {t : TA} (h : t σ H fun xs H1 => xs.length ≤ sizeLine ∧ NewAt H1 (.lst xs) Q) : tLstN t σ H Q := h
theorem g_new {n : Nat} {o : HO} (hn : n ≤ sizeLine) (h : ∀ p H', H p = none → Same H H' → H' p = some o → (∀ b, b ≠ p → H' b = H b) → Q (.ref p) H') : n ≤ sizeLine ∧ NewAt H o Q := ⟨hn, h⟩
theorem g_make {C : Addr} {sp : Sp} {dvs : List V} {E : XK} {t : TA} (h : t σ H fun vs H1 => MakeR C sp (vs ++ dvs) H1 Q E) : tMakeN C sp dvs E t σ H Q := h
end
end Up

set_option Elab.async false
set_option linter.all false
set_option maxRecDepth 100000
set_option maxHeartbeats 4000000
namespace Up
open PySem PySem.Spec PyProof.Rows L2
/-! ### what a call hands back, over a heap in which all that stood stands -/
abbrev Ret (H : Hp) (v : V) (Q : VK) : Prop := ∀ H', Same H H' → Q v H'
abbrev RetT (H : Hp) (xs : List V) (Q : VK) : Prop := ∀ H' a, H a = none → Same H H' → H' a = some (.tup xs) → Q (.ref a) H'
abbrev RetL (H : Hp) (xs : List V) (Q : VK) : Prop := ∀ H' a, H a = none → Same H H' → H' a = some (.lst xs) → Q (.ref a) H'
/-! ### what is known of a value's kind -/
def isI : V → Bool
  | .int _ => true
  | _ => false
def isB : V → Bool
  | .bl _ => true
  | _ => false
def isS : V → Bool
  | .str _ => true
  | _ => false
/-- the classes int, bool, str asked of x -/
structure Kn (K : PySem.W.Frag) (H : Hp) (x : V) (t : Value) : Prop where
  ty : TyX K H x t
  int : PySem.W.kitOne K t (.type "int") = some (isI x || isB x)
  bool : PySem.W.kitOne K t (.type "bool") = some (isB x)
  str : PySem.W.kitOne K t (.type "str") = some (isS x)
theorem kn_non {K : PySem.W.Frag} {H : Hp} : Kn K H .non (.type "NoneType") := ⟨.base .non, kit_ty (r := false) (by decide +kernel), kit_ty (r := false) (by decide +kernel), kit_ty (r := false) (by decide +kernel)⟩
theorem kn_bl {K : PySem.W.Frag} {H : Hp} {b : Bool} : Kn K H (.bl b) (.type "bool") := ⟨.base (.bl b), kit_ty (r := true) (by decide +kernel), kit_ty (r := true) (by decide +kernel), kit_ty (r := false) (by decide +kernel)⟩
theorem kn_int {K : PySem.W.Frag} {H : Hp} {i : Int} : Kn K H (.int i) (.type "int") := ⟨.base (.int i), kit_ty (r := true) (by decide +kernel), kit_ty (r := false) (by decide +kernel), kit_ty (r := false) (by decide +kernel)⟩
theorem kn_str {K : PySem.W.Frag} {H : Hp} {i : Str} : Kn K H (.str i) (.type "str") := ⟨.base (.str i), kit_ty (r := false) (by decide +kernel), kit_ty (r := false) (by decide +kernel), kit_ty (r := true) (by decide +kernel)⟩
theorem kn_lst {K : PySem.W.Frag} {H : Hp} {a : Addr} {xs : List V} (h : H a = some (.lst xs)) : Kn K H (.ref a) (.type "list") := ⟨.base (.lst h), kit_ty (r := false) (by decide +kernel), kit_ty (r := false) (by decide +kernel), kit_ty (r := false) (by decide +kernel)⟩
theorem kn_tup {K : PySem.W.Frag} {H : Hp} {a : Addr} {xs : List V} (h : H a = some (.tup xs)) : Kn K H (.ref a) (.type "tuple") := ⟨.base (.tup h), kit_ty (r := false) (by decide +kernel), kit_ty (r := false) (by decide +kernel), kit_ty (r := false) (by decide +kernel)⟩
theorem kn_dK {K : PySem.W.Frag} {H : Hp} {a : Addr} {xs : List (Key × V)} (h : H a = some (.dK xs)) : Kn K H (.ref a) (.type "dict") := ⟨.base (.dK h), kit_ty (r := false) (by decide +kernel), kit_ty (r := false) (by decide +kernel), kit_ty (r := false) (by decide +kernel)⟩
/-- an own class whose instances are no int, bool, str -/
structure OwnC (K : PySem.W.Frag) (C : Addr) : Prop where
  cl : Cls K C
  ha : PySem.W.findIn K (.ref C) "__class__" = some (some (.builtin "object.__class__"))
  hn : PySem.W.specialIn K (.builtin "object.__class__") "__get__" = some (some (.builtin "getset_descriptor.__get__"))
  htk : PySem.W.takesIn K (.builtin "object.__class__") = some true
  hm : PySem.W.mroIn K C (.type "object") = some true
  int : PySem.W.kitOne K (.ref C) (.type "int") = some false
  bool : PySem.W.kitOne K (.ref C) (.type "bool") = some false
  str : PySem.W.kitOne K (.ref C) (.type "str") = some false
theorem kn_ins {K : PySem.W.Frag} {H : Hp} {a C dx : Addr} {fs : List (Str × V)} (T : OwnC K C) (h : H a = some (.ins C dx fs)) : Kn K H (.ref a) (.ref C) := ⟨.base (.ins h T.cl T.ha T.hn T.htk T.hm), T.int, T.bool, T.str⟩
theorem g_isi {K : PySem.W.Frag} {H : Hp} {Q : VK} {x c : V} {t u : Value} {b : Bool} (ht : TyX K H x t) (hc : ClsV c u) (hk : PySem.W.kitOne K t u = some b) (q : Q (.bl b) H) : rIsi K [x, c] H Q := ⟨x, c, t, u, b, rfl, hc, ht, hk, q⟩
section
variable {K : PySem.W.Frag} {H H' : Hp} {Q : VK} {x : V} {t : Value}
theorem TyX.same (s : Same H H') (h : TyX K H x t) : TyX K H' x t := by
  cases h with
  | base h => cases h with
    | non => exact .base .non
    | bl b => exact .base (.bl b)
    | int b => exact .base (.int b)
    | str b => exact .base (.str b)
    | flt b => exact .base (.flt b)
    | lst e => exact .base (.lst (s _ _ e))
    | frz e => exact .base (.frz (s _ _ e))
    | tup e => exact .base (.tup (s _ _ e))
    | dK e => exact .base (.dK (s _ _ e))
    | dT e => exact .base (.dT (s _ _ e))
    | ins e c h1 h2 h3 h4 => exact .base (.ins (s _ _ e) c h1 h2 h3 h4)
  | byt b => exact .byt b
  | set e => exact .set (s _ _ e)
  | kList e c => exact .kList e c
  | kTuple e c => exact .kTuple e c
  | kDict e c => exact .kDict e c
  | fTuple e => exact .fTuple (s _ _ e)
  | fDict e => exact .fDict (s _ _ e)
theorem Kn.same (s : Same H H') (h : Kn K H x t) : Kn K H' x t := ⟨TyX.same s h.ty, h.int, h.bool, h.str⟩
theorem g_isiInt (h : Kn K H x t) (q : Q (.bl (isI x || isB x)) H) : rIsi K [x, .ty "int"] H Q := g_isi h.ty (.ty _) h.int q
theorem g_isiBool (h : Kn K H x t) (q : Q (.bl (isB x)) H) : rIsi K [x, .ty "bool"] H Q := g_isi h.ty (.ty _) h.bool q
theorem g_isiStr (h : Kn K H x t) (q : Q (.bl (isS x)) H) : rIsi K [x, .ty "str"] H Q := g_isi h.ty (.ty _) h.str q
end
end Up

set_option Elab.async false
set_option linter.all false
set_option maxRecDepth 100000
set_option maxHeartbeats 4000000
namespace Up
open PySem PySem.Spec PyProof.Rows L2 PySem.SeqAt HN
/-! ### == of None and of instances of a class without an own one -/
structure IdC (K : PySem.W.Frag) (C : Addr) : Prop where
  hm : PySem.W.mroIn K C (.type "object") = some true
  he : PySem.W.findIn K (.ref C) "__eq__" = some (some (.builtin "object.__eq__"))
  hn : PySem.W.subIn K (.ref C) (.type "NoneType") = some false
section
variable {M : Model} {prog : Program} {w : World} {A : Around} {E : Value → Shared → Prop} {s : Shared} {K : PySem.W.Frag} {x y C : Addr} {ox oy : Obj} {od oe : Option Obj}
theorem inst_nt (I : PySem.W.InstAt s.heap x ox C od) : ox.cls ≠ .type "tuple" := by
  obtain ⟨_, hc, _, _⟩ := I
  rw [hc]; exact fun z => nomatch z
theorem obj_other {Q : Value → Shared → Prop} (X : K.In s.heap) (I : PySem.W.InstAt s.heap x ox C od) (J : PySem.W.InstAt s.heap y oy C oe) (T : IdC K C) (hxy : x ≠ y) (hq : Q .notImplemented s) :
    wpAny (model prog w) A (call (.builtin "object.__eq__") [.ref x, .ref y]) Q E s :=
  wpAny_call (codeAny_call_builtin PySem.F.cmp_object.eq.plain PySem.F.cmpEntry_eq (PySem.W.check_slot PySem.F.cmpKind_eq PySem.F.cmpSplit_eq (I.type.andThen (PySem.W.looks_mroIn X T.hm)) (PySem.F.cmpArgs_eq _ _) (objEq_entry_other hxy I.1 J.1 (inst_nt I) hq)))
theorem obj_same {Q : Value → Shared → Prop} (X : K.In s.heap) (I : PySem.W.InstAt s.heap x ox C od) (T : IdC K C) (hq : Q (.bool true) s) :
    wpAny (model prog w) A (call (.builtin "object.__eq__") [.ref x, .ref x]) Q E s :=
  wpAny_call (codeAny_call_builtin PySem.F.cmp_object.eq.plain PySem.F.cmpEntry_eq (PySem.W.check_slot PySem.F.cmpKind_eq PySem.F.cmpSplit_eq (I.type.andThen (PySem.W.looks_mroIn X T.hm)) (PySem.F.cmpArgs_eq _ _) (objEq_entry_same hq)))
theorem try_other {Q : Option Value → Shared → Prop} (X : K.In s.heap) (I : PySem.W.InstAt s.heap x ox C od) (J : PySem.W.InstAt s.heap y oy C oe) (T : IdC K C) (hxy : x ≠ y) (hq : Q none s) :
    wpAny (model prog w) A (tryCompare (.ref x) "__eq__" (.ref y)) Q E s := by
  unfold tryCompare
  exact wpAny_bind (ifBound_objEq X I T.he (obj_other X I J T hxy (wpAny_pure hq)))
theorem try_same {Q : Option Value → Shared → Prop} (X : K.In s.heap) (I : PySem.W.InstAt s.heap x ox C od) (T : IdC K C) (hq : Q (some (.bool true)) s) :
    wpAny (model prog w) A (tryCompare (.ref x) "__eq__" (.ref x)) Q E s := by
  unfold tryCompare
  exact wpAny_bind (ifBound_objEq X I T.he (obj_same X I T (wpAny_pure hq)))
theorem try_rn {Q : Option Value → Shared → Prop} (X : K.In s.heap) (I : PySem.W.InstAt s.heap x ox C od) (T : IdC K C) (hq : Q none s) :
    wpAny (model prog w) A (tryCompare (.ref x) "__eq__" .none) Q E s := by
  unfold tryCompare
  exact wpAny_bind (ifBound_objEq X I T.he (HN.call_objEq X I T.hm (wpAny_pure hq)))
theorem try_nr {Q : Option Value → Shared → Prop} (hq : Q none s) : wpAny (model prog w) A (tryCompare .none "__eq__" (.ref x)) Q E s :=
  wpAny_tryCompare_declines (show s.TypeIs .none "NoneType" from rfl) PySem.F.slot_NoneType_eq_refl (call_gives PySem.F.slot_NoneType_eq_refl rfl PySem.F.entry_NoneType_eq (PySem.F.args_NoneType_eq_2 _ _) (NoneType___eq___none_ref_0 x) ⟨rfl, hq⟩)
theorem rc_same {Q : Value → Shared → Prop} (hu : A.units < cLine) (X : K.In s.heap) (I : PySem.W.InstAt s.heap x ox C od) (T : IdC K C) (hq : Q (.bool true) s) : wpAny (model prog w) A (richCompare .Eq (.ref x) (.ref x)) Q E s := by
  simp only [richCompare, cmpInfo_Eq, oneThing_ref]
  refine wpAny_holding (wpAny_bind (wpAny_cRoomFor hu ?_))
  refine wpAny_bind (I.type.here (wpAny_bind (I.type.here ?_)))
  simp only [bne_self_eq_false, Bool.false_eq_true, if_false]
  refine wpAny_bind (wpAny_pure (wpAny_bind (m := tryCompare (.ref x) _ (.ref x)) (try_same X I T ?_)))
  exact wpAny_pure hq
theorem rc_other {Q : Value → Shared → Prop} (hu : A.units < cLine) (X : K.In s.heap) (I : PySem.W.InstAt s.heap x ox C od) (J : PySem.W.InstAt s.heap y oy C oe) (T : IdC K C) (hxy : x ≠ y) (hq : Q (.bool false) s) : wpAny (model prog w) A (richCompare .Eq (.ref x) (.ref y)) Q E s := by
  simp only [richCompare, cmpInfo_Eq, oneThing_ref]
  refine wpAny_holding (wpAny_bind (wpAny_cRoomFor hu ?_))
  refine wpAny_bind (I.type.here (wpAny_bind (J.type.here ?_)))
  simp only [bne_self_eq_false, Bool.false_eq_true, if_false]
  refine wpAny_bind (wpAny_pure (wpAny_bind (m := tryCompare (.ref x) _ (.ref y)) (try_other X I J T hxy ?_)))
  simp only [Bool.false_eq_true, if_false, Bool.not_false, if_true]
  refine wpAny_bind (m := tryCompare (.ref y) _ (.ref x)) (try_other X J I T hxy.symm ?_)
  exact wpAny_bind (wpAny_rule (wpAny_bind (wpAny_isSame_ref_other hxy I.1 J.1 (inst_nt I) (wpAny_pure hq))))
theorem rc_nr {Q : Value → Shared → Prop} (hu : A.units < cLine) (X : K.In s.heap) (I : PySem.W.InstAt s.heap x ox C od) (T : IdC K C) (hq : Q (.bool false) s) : wpAny (model prog w) A (richCompare .Eq .none (.ref x)) Q E s := by
  have h0 : oneThing? .Eq .none (.ref x) = none := rfl
  simp only [richCompare, cmpInfo_Eq, h0]
  refine wpAny_holding (wpAny_bind (wpAny_cRoomFor hu ?_))
  refine wpAny_bind (wpAny_typeOf (show s.TypeIs .none "NoneType" from rfl) (wpAny_bind (I.type.here ?_)))
  split
  · refine wpAny_bind ((PySem.W.looks_subIn X T.hn).here ?_)
    simp only [Bool.false_eq_true, if_false, Bool.not_false, if_true]
    refine wpAny_bind (m := tryCompare .none _ (.ref x)) (try_nr ?_)
    refine wpAny_bind (m := tryCompare (.ref x) _ .none) (try_rn X I T ?_)
    exact wpAny_bind (wpAny_rule (wpAny_bind (wpAny_of_eq (rfl : isSame .none (.ref x) = pure false) (wpAny_pure hq))))
  · rename_i q
    exact absurd (by simp) q
end
/-- None, or an instance of the class at C -/
def IdV (C : Addr) (H : Hp) (x : V) : Prop := x = .non ∨ ∃ a dx fs, x = .ref a ∧ H a = some (.ins C dx fs)
def rEqId (C : Addr) : R2 := fun x y H Q => IdV C H x ∧ IdV C H y ∧ Q (.bl (decide (x = y))) H
theorem op_eqId {X : Cx} {C : Addr} (T : IdC X.K C) (hu : X.A.units + 64 < cLine) : OpR X (compareOp .Eq) (rEqId C) := by
  intro pins s σ H x y v u Q I rx ry h
  obtain ⟨h1, h2, q⟩ := h
  have hu0 : X.A.units < cLine := by omega
  show wpAny (model X.prog X.w) X.A (richCompare .Eq v u) (EP X pins σ Q) X.xe s
  rcases h1 with rfl | ⟨a, dx, fs, rfl, ha⟩
  · rcases h2 with rfl | ⟨b, dy, gs, rfl, hb⟩
    · exact op_eq pins s σ H .non .non v u Q I rx ry ⟨rfl, q⟩
    · cases rx
      cases ry
      obtain ⟨mA, O, _⟩ := ins_get I.hok hb
      obtain ⟨od, J, _⟩ := O.look
      exact rc_nr hu0 I.kIn J T ⟨.bl false, H, I, rfl, q⟩
  · obtain ⟨mA, O, _⟩ := ins_get I.hok ha
    obtain ⟨od, J, _⟩ := O.look
    rcases h2 with rfl | ⟨b, dy, gs, rfl, hb⟩
    · cases rx
      cases ry
      exact rc_none hu0 I.kIn J T.hm T.he X.prog X.w X.xe _ ⟨.bl false, H, I, rfl, q⟩
    · cases rx
      cases ry
      obtain ⟨mB, O2, _⟩ := ins_get I.hok hb
      obtain ⟨oe, J2, _⟩ := O2.look
      by_cases hab : a = b
      · subst hab
        rw [decide_eq_true rfl] at q
        exact rc_same hu0 I.kIn J T ⟨.bl true, H, I, rfl, q⟩
      · rw [decide_eq_false (fun z => hab (by injection z))] at q
        exact rc_other hu0 I.kIn J J2 T hab ⟨.bl false, H, I, rfl, q⟩
def oEqI (K : PySem.W.Frag) (C : Addr) : R2 := fun x y H Q => oEq K x y H Q ∨ rEqId C x y H Q
theorem op_oEqI {X : Cx} {C : Addr} (T : IdC X.K C) (hu : X.A.units + 64 < cLine) : OpR X (compareOp .Eq) (oEqI X.K C) := op_or (op_oEq hu) (op_eqId T hu)
end Up

set_option Elab.async false
set_option linter.all false
set_option maxRecDepth 100000
set_option maxHeartbeats 4000000
namespace Up
open PySem PySem.Spec PyProof.Rows L2 PySem.SeqAt HN
/-! ### == and != of two instances of a class with its own __eq__ -/
def EqC (P : Program) (w : World) (K : PySem.W.Frag) (mg : Str → Option Value) (base : Heap) (k : Nat) (C : Addr) (sp : Sp) : Prop :=
  ∃ f fd, FnOk P w K mg base CX0 k f fd ["self", "other"] sp ∧ PySem.W.findIn K (.ref C) "__eq__" = some (some (.ref f)) ∧ PySem.W.isFn K (.ref f) = true ∧ Binds K fd ["self", "other"] [] ∧
    PySem.W.findIn K (.ref C) "__ne__" = some (some (.builtin "object.__ne__")) ∧ PySem.W.mroIn K C (.type "object") = some true
def rEqO (C : Addr) (sp : Sp) : R2 := fun x y H Q => ∃ a b dx dy fs gs, x = .ref a ∧ y = .ref b ∧ H a = some (.ins C dx fs) ∧ H b = some (.ins C dy gs) ∧ sp [.ref a, .ref b] H (fun v H' => ∃ c, v = .bl c ∧ Q (.bl c) H') E0
def rNeO (C : Addr) (sp : Sp) : R2 := fun x y H Q => ∃ a b dx dy fs gs, x = .ref a ∧ y = .ref b ∧ H a = some (.ins C dx fs) ∧ H b = some (.ins C dy gs) ∧ sp [.ref a, .ref b] H (fun v H' => ∃ c, v = .bl c ∧ Q (.bl (!c)) H') E0
section
variable {X : Cx} {C : Addr} {k : Nat} {sp : Sp}
/-- the own __eq__ runs, wherever it is called from -/
theorem run_eq {pins : List (Addr × Obj)} {σ : L2.St} {H : Hp} {s : Shared} {A : Around} {f a b : Addr} {fd : FuncData} {Qv : VK} {R : Value → Shared → Prop} {E : Value → Shared → Prop} (F : FnOk X.prog X.w X.K X.mg X.base CX0 k f fd ["self", "other"] sp) (hb : Binds X.K fd ["self", "other"] [])
    (hr : Room k A) (hA : A.frames = X.A.frames) (I : L2.Inv X pins σ H s) (h : sp [.ref a, .ref b] H Qv E0) (q : ∀ v u H' s', L2.Inv X pins σ H' s' → L2.RelV v u → Qv v H' → R u s') : wpAny (model X.prog X.w) A (call (.ref f) [.ref a, .ref b]) R E s := by
  have e := I.env0
  have e0 : Env0 X.prog X.w X.K X.mg X.base A X.stack s H := ⟨by rw [hA]; exact e.frames, e.mod, e.bs, e.bsz, e.funs, e.frf, e.hok, e.bare⟩
  have r2 : Vals [V.ref a, V.ref b] [Value.ref a, Value.ref b] := .cons rfl (.cons rfl .nil)
  have bb := hb s [.ref a, .ref b] I.kIn rfl
  refine wpAny_call (codeAny_mono (F.run A X.stack s H ⟨[.ref a, .ref b], []⟩ [.ref a, .ref b] [.ref a, .ref b] Qv E0 hr e0 bb r2 h) fun r s' hq => ?_)
  cases r with
  | error e => exact hq.elim
  | ok fl =>
    cases fl with
    | ret u =>
      obtain ⟨v, H', I', rv, qv⟩ := I.after hq
      exact q v u H' s' I' rv qv
    | next => exact False.elim hq
    | brk => exact False.elim hq
    | cont => exact False.elim hq
theorem op_eqO (T : EqC X.prog X.w X.K X.mg X.base k C sp) (hr : Room k X.A) : OpR X (compareOp .Eq) (rEqO C sp) := by
  intro pins s σ H x y v u Q I rx ry h
  obtain ⟨f, fd, F, hs, hf, hb, hne, hm⟩ := T
  obtain ⟨a, b, dx, dy, fs, gs, rfl, rfl, ha, hb', h⟩ := h
  cases rx
  cases ry
  obtain ⟨mA, J, _⟩ := ins_get I.hok ha
  obtain ⟨mB, J', _⟩ := ins_get I.hok hb'
  obtain ⟨od, J, _⟩ := J.look
  obtain ⟨od', J', _⟩ := J'.look
  obtain ⟨m, hF⟩ := I.fr
  show wpAny (model X.prog X.w) X.A (richCompare .Eq (.ref a) (.ref b)) (EP X pins σ Q) X.xe s
  refine PySem.W.cmp_K (op := .Eq) (tb := .ref C) hr.units0 hF I.ok.mod.kin J J'.type (by simp [PySem.W.notFirst]) hs hf ?_
  refine run_eq F hb hr rfl I h fun v u H' s' I' rv qv => ?_
  obtain ⟨c, rfl, qv⟩ := qv
  cases rv
  exact ⟨.bl c, H', I', rfl, qv⟩
theorem ifBound_objNe {M : Model} {A : Around} {E : Value → Shared → Prop} {s : Shared} {K : PySem.W.Frag} {x C : Addr} {ox : Obj} {od : Option Obj} {args : List Value} {Q : Option Value → Shared → Prop} (Y : K.In s.heap) (I : PySem.W.InstAt s.heap x ox C od) (hs : PySem.W.findIn K (.ref C) "__ne__" = some (some (.builtin "object.__ne__")))
    (h : wpAny M A (call (.builtin "object.__ne__") (.ref x :: args)) (fun v => Q (some v)) E s) : wpAny M A (callSpecialIfBound? (.ref x) "__ne__" args) Q E s := by
  simp only [callSpecialIfBound?, bindSpecialIfBound?]
  refine wpAny_holding (wpAny_bind (wpAny_bind (wpAny_bind (I.type.here ((PySem.W.looks_findIn Y hs).here ?_)))))
  refine wpAny_bind (wpAny_askSetting (wpAny_ite ?_))
  have fin : wpAny M A (call (.builtin "object.__ne__") ([.ref x] ++ args) >>= fun v => pure (some v)) Q E s := wpAny_bind (wpAny_mono h (fun v s' z => wpAny_pure z) fun _ _ z => z)
  split
  · exact wpAny_bind (wpAny_of_eq (PySem.F.cmp_object.ne.bind _) (wpAny_pure (by exact fin)))
  · exact wpAny_tryCatch (wpAny_bind (wpAny_of_eq (PySem.F.cmp_object.ne.bind _) (wpAny_pure (by exact fin))))
theorem op_neO (T : EqC X.prog X.w X.K X.mg X.base k C sp) (hr : Room (k + 1) X.A) : OpR X (compareOp .NotEq) (rNeO C sp) := by
  intro pins s σ H x y v u Q I rx ry h
  obtain ⟨f, fd, F, hs, hf, hb, hne, hm⟩ := T
  obtain ⟨a, b, dx, dy, fs, gs, rfl, rfl, ha, hb', h⟩ := h
  cases rx
  cases ry
  obtain ⟨mA, J, _⟩ := ins_get I.hok ha
  obtain ⟨mB, J', _⟩ := ins_get I.hok hb'
  obtain ⟨od, J, _⟩ := J.look
  obtain ⟨od', J', _⟩ := J'.look
  show wpAny (model X.prog X.w) X.A (richCompare .NotEq (.ref a) (.ref b)) (EP X pins σ Q) X.xe s
  have hu := hr.un
  have one : wpAny (model X.prog X.w) X.A (tryCompare (.ref a) "__ne__" (.ref b)) (fun r s' => ∃ v, r = some v ∧ EP X pins σ Q v s') X.xe s := by
    unfold tryCompare
    refine wpAny_bind (ifBound_objNe I.kIn J hne ?_)
    refine wpAny_call (codeAny_call_builtin PySem.F.cmp_object.ne.plain PySem.F.cmpEntry_ne (PySem.W.check_slot PySem.F.cmpKind_ne PySem.F.cmpSplit_ne (J.type.andThen (PySem.W.looks_mroIn I.kIn hm)) (PySem.F.cmpArgs_ne _ _) ?_))
    unfold Builtin.«object.__ne__»
    refine wpAny_bind (wpAny_of_eq (a := ((Value.ref a : Value), [Value.ref b])) (by first | rfl | (simp only [slotArgs]; rfl)) ?_)
    refine wpAny_bind (wpAny_cRoomFor (by show X.A.units + 1 < cLine; omega) ?_)
    refine wpAny_bind (PySem.W.ifBound_K I.kIn J hs hf ?_)
    refine run_eq F hb hr.in1 rfl I h fun v u H' s' I' rv qv => ?_
    obtain ⟨c, rfl, qv⟩ := qv
    cases rv
    refine wpAny_bind (wpAny_truthy_bool (wpAny_pure ?_))
    exact wpAny_pure ⟨_, rfl, .bl (!c), H', I', rfl, qv⟩
  unfold richCompare
  simp only [oneThing_ref, cmpInfo_NotEq]
  refine wpAny_holding (wpAny_bind (wpAny_cRoomFor (by omega) ?_))
  refine wpAny_bind (J.type.here (wpAny_bind (J'.type.here ?_)))
  simp only [bne_self_eq_false, Bool.false_eq_true, if_false]
  refine wpAny_bind (wpAny_pure (wpAny_bind (m := tryCompare (.ref a) _ (.ref b)) (wpAny_mono one (fun r s' z => ?_) fun _ _ e => e)))
  obtain ⟨v, rfl, z⟩ := z
  exact wpAny_pure z
end
end Up

set_option Elab.async false
set_option linter.all false
set_option pp.maxSteps 600
set_option maxRecDepth 100000
set_option maxHeartbeats 4000000
namespace Up
open PySem PySem.Spec PyProof.Rows L2 PySem.SeqAt HN
/-! ### own __eq__ that tells NotImplemented -/
/-- a call that tells NotImplemented, and leaves all as it is -/
def NiEnd (outer : List Env) (P : Program) (w : World) (H : Hp) (s : Shared) (r : Result) (s' : Shared) : Prop := match r with
  | .ok (.ret u) => u = .notImplemented ∧ s'.os = s.os ∧ AllBare s'.gens ∧ Un (frs outer) [] H H s.heap s'.heap ∧ HOk P w H s'.heap
  | .ok _ => False
  | .error e => CX0 outer H s E0 e s'
theorem int_ne_ins (b : Int) (u : Tok) (l : Addr) (c : Value) (dd : Option Addr) (sl : Array (Option Value)) :
    Meets (Builtin.«int.__ne__» ⟨[.int b u, .ref l], []⟩) (fun _ R s => s.heap.get? l = some { cls := c, dict := dd, data := .plain, slots := sl } ∧ R (.ok (.ret .notImplemented)) s) :=
  .of_wp fun prog w A R s h => by obtain ⟨hp, g, d, tk, os⟩ := s; obtain ⟨hl, h⟩ := h; wp_walk using wpAny_loadPart' hl, wpAny_load hl; exact ⟨_, rfl, h⟩
theorem int_eq_ins (b : Int) (u : Tok) (l : Addr) (c : Value) (dd : Option Addr) (sl : Array (Option Value)) :
    Meets (Builtin.«int.__eq__» ⟨[.int b u, .ref l], []⟩) (fun _ R s => s.heap.get? l = some { cls := c, dict := dd, data := .plain, slots := sl } ∧ R (.ok (.ret .notImplemented)) s) :=
  .of_wp fun prog w A R s h => by obtain ⟨hp, g, d, tk, os⟩ := s; obtain ⟨hl, h⟩ := h; wp_walk using wpAny_loadPart' hl, wpAny_load hl; exact ⟨_, rfl, h⟩
theorem ni_run {P : Program} {w : World} {K : PySem.W.Frag} {mg : Str → Option Value} {base : Heap} {k : Nat} {f : Addr} {fd : FuncData} {name qual : Str} {params : Arguments} {scope : Scope} {N ps : List Str} {c : Expr} {rest : List Stmt} {p1 p2 p3 : Pos} {tc : TT}
    (F : FunD K name qual params (.If c [.Return (some (.Name "NotImplemented" p1)) p2] [] p3 :: rest) scope [] [] f fd) (S : FnScope N ps scope) (hb : Binds K fd ps []) (hm : mg "NotImplemented" = none) (hg : scope.names.lookup ("NotImplemented" : Str) = some .globalImplicit)
    {A : Around} {outer : List Env} {s : Shared} {H : Hp} {us : List Value} {vs : List V} (hr : Room (k + 1) A) (e0 : Env0 P w K mg base A outer s H) (r : Vals vs us) (hl : vs.length = ps.length)
    (hc : ∀ cdv, PT (cxOf CX0 P w K mg base N qual scope f cdv A outer s H E0) c tc) (ht : tc (start N vs) H fun b H1 => b = true ∧ H1 = H) :
    codeAny (model P w) A (.call (.ref f) ⟨us, []⟩) (NiEnd outer P w H s) s := by
  obtain ⟨oc, od, dV, kV, doc, pm, an, cdv, ct, osl, rfl, lk, hcd, _, _⟩ := F.ex
  have KX : K.In s.heap := e0.mod.kin.keeps fun b o e => (e0.bs b o e).1
  have lim : s.heap.NoLimit := e0.mod.nolimit.keeps fun b o e => (e0.bs b o e).1
  have hkind : ∀ y ∈ ps.zip us, scope.names.lookup y.1 = some .local ∨ (scope.names.lookup y.1 = some .cell ∧ ((cellsFrom (s.heap.objs.size + 1) scope.names []).lookup y.1).isSome = true) := fun ⟨n, v⟩ hy => by
    rcases S.par n (List.of_mem_zip hy).1 with q | q
    · exact .inl q
    · exact .inr ⟨q, PySem.W.cellsFrom_some _ _ _ (.inl q)⟩
  have hlu : us.length = ps.length := by rw [← hl]; exact r.length.symm
  have bb := hb s us KX (by simpa using hlu)
  rw [List.append_nil] at bb
  refine codeAny_call_function hr.depth (KX _ _ lk) rfl S.co S.gen rfl (PySem.W.codeRec_of KX hcd) (bb _ _ _ _ ?_)
  refine wpAny_newFunctionEnv_cells S.kind hkind fun env he s1 x => ?_
  subst he
  refine ⟨lim.keeps x.toInCall.keep, codeAny_func ?_⟩
  have I : Inv (cxOf CX0 P w K mg base N qual scope f cdv A outer s H E0) [] (L2.start N vs) H s1 := inv_start S hr.hd e0 hl r x
  have body : wpAny (model P w) (A.deeper (envOfC qual scope s.heap.objs.size f cdv)) (execs (.If c [.Return (some (.Name "NotImplemented" p1)) p2] [] p3 :: rest) (cxOf CX0 P w K mg base N qual scope f cdv A outer s H E0).env)
      (fun fl s' => match fl with
        | .ret u => u = .notImplemented ∧ Inv (cxOf CX0 P w K mg base N qual scope f cdv A outer s H E0) [] (L2.start N vs) H s'
        | _ => False) (cxOf CX0 P w K mg base N qual scope f cdv A outer s H E0).xe s1 := by
    refine wpAny_execs_cons (thn (wpAny_If (Q := fun fl s' => match fl with
        | .ret u => u = .notImplemented ∧ Inv (cxOf CX0 P w K mg base N qual scope f cdv A outer s H E0) [] (L2.start N vs) H s'
        | _ => False) (thn ((hc cdv).run [] s1 _ H _ I ht) fun d s2 ⟨H1, I1, q⟩ => ?_)) fun fl s2 q => ?_)
    · obtain ⟨rfl, rfl⟩ := q
      refine wpAny_execs_cons (thn (wpAny_Return_some (Q := fun fl s' => match fl with
        | .ret u => u = .notImplemented ∧ Inv (cxOf CX0 P w K mg base N qual scope f cdv A outer s H1 E0) [] (L2.start N vs) H1 s'
        | _ => False) (ld_blt I1 hg hm (by decide +kernel : bootBuiltins "NotImplemented" = some .notImplemented) ⟨rfl, I1⟩ (by decide) (by decide))) fun fl s2 q => ?_)
      cases fl with
      | ret u => exact q
      | next => exact q.elim
      | brk => exact q.elim
      | cont => exact q.elim
    · cases fl with
      | ret u => exact q
      | next => exact q.elim
      | brk => exact q.elim
      | cont => exact q.elim
  refine wpAny_mono body (fun fl s' hs => ?_) fun e s' hs => hs
  cases fl with
  | ret u => exact ⟨hs.1, hs.2.os, hs.2.bare, hs.2.base, hs.2.hok⟩
  | next => exact hs.elim
  | brk => exact hs.elim
  | cont => exact hs.elim
/-- a class whose own __eq__ tells NotImplemented beside what is none of its instances -/
def NiC (P : Program) (w : World) (K : PySem.W.Frag) (mg : Str → Option Value) (base : Heap) (k : Nat) (C : Addr) : Prop :=
  ∃ f, PySem.W.findIn K (.ref C) "__eq__" = some (some (.ref f)) ∧ PySem.W.isFn K (.ref f) = true ∧ PySem.W.findIn K (.ref C) "__ne__" = some (some (.builtin "object.__ne__")) ∧ PySem.W.mroIn K C (.type "object") = some true ∧
    ∀ (A : Around) (outer : List Env) (s : Shared) (H : Hp) (a dx : Addr) (fs : List (Str × V)) (y : V) (u t : Value), Room k A → Env0 P w K mg base A outer s H → H a = some (.ins C dx fs) → Kn K H y t → PySem.W.kitOne K t (.ref C) = some false → RelV y u →
      codeAny (model P w) A (.call (.ref f) ⟨[.ref a, u], []⟩) (NiEnd outer P w H s) s
section
variable {X : Cx} {C : Addr} {k : Nat}
theorem ni_eq {pins : List (Addr × Obj)} {σ : L2.St} {H : Hp} {s : Shared} {A : Around} {f a dx : Addr} {fs : List (Str × V)} {y : V} {u t : Value} {R : Value → Shared → Prop} {E : Value → Shared → Prop}
    (hN : ∀ (A : Around) (outer : List Env) (s : Shared) (H : Hp) (a dx : Addr) (fs : List (Str × V)) (y : V) (u t : Value), Room k A → Env0 X.prog X.w X.K X.mg X.base A outer s H → H a = some (.ins C dx fs) → Kn X.K H y t → PySem.W.kitOne X.K t (.ref C) = some false → RelV y u →
      codeAny (model X.prog X.w) A (.call (.ref f) ⟨[.ref a, u], []⟩) (NiEnd outer X.prog X.w H s) s)
    (hr : Room k A) (hA : A.frames = X.A.frames) (I : L2.Inv X pins σ H s) (ha : H a = some (.ins C dx fs)) (hk : Kn X.K H y t) (hf : PySem.W.kitOne X.K t (.ref C) = some false) (hu : RelV y u)
    (q : ∀ s', L2.Inv X pins σ H s' → R .notImplemented s') : wpAny (model X.prog X.w) A (call (.ref f) [.ref a, u]) R E s := by
  have e := I.env0
  have e0 : Env0 X.prog X.w X.K X.mg X.base A X.stack s H := ⟨by rw [hA]; exact e.frames, e.mod, e.bs, e.bsz, e.funs, e.frf, e.hok, e.bare⟩
  refine wpAny_call (codeAny_mono (hN A X.stack s H a dx fs y u t hr e0 ha hk hf hu) fun r s' hq => ?_)
  cases r with
  | error e => exact hq.elim
  | ok fl =>
    cases fl with
    | ret v =>
      obtain ⟨rfl, os, bare, un, hok⟩ := hq
      obtain ⟨v, H', I', rv, rfl⟩ := I.after (Q := fun _ H' => H' = H) (u := Value.none) ⟨.non, H, os, bare, un, hok, rfl, rfl⟩
      exact q s' I'
    | next => exact False.elim hq
    | brk => exact False.elim hq
    | cont => exact False.elim hq
theorem op_neNI (T : NiC X.prog X.w X.K X.mg X.base k C) (hi : PySem.W.kitOne X.K (.type "int") (.ref C) = some false) (hr : Room (k + 1) X.A) : OpR X (compareOp .NotEq) (fun x y H Q => ∃ a dx fs i, x = .ref a ∧ y = .int i ∧ H a = some (.ins C dx fs) ∧ Q (.bl true) H) := by
  intro pins s σ H x y v u Q I rx ry h
  obtain ⟨f, hs, hf, hne, hm, hN⟩ := T
  obtain ⟨a, dx, fs, i, rfl, rfl, ha, q⟩ := h
  cases rx
  obtain ⟨tk, rfl⟩ := ry
  obtain ⟨mA, O, _⟩ := ins_get I.hok ha
  obtain ⟨od, J, _⟩ := O.look
  show wpAny (model X.prog X.w) X.A (richCompare .NotEq (.ref a) (.int i tk)) (EP X pins σ Q) X.xe s
  have hu := hr.un
  have one : wpAny (model X.prog X.w) X.A (tryCompare (.ref a) "__ne__" (.int i tk)) (fun r s' => r = none ∧ L2.Inv X pins σ H s') X.xe s := by
    unfold tryCompare
    refine wpAny_bind (ifBound_objNe I.kIn J hne ?_)
    refine wpAny_call (codeAny_call_builtin PySem.F.cmp_object.ne.plain PySem.F.cmpEntry_ne (PySem.W.check_slot PySem.F.cmpKind_ne PySem.F.cmpSplit_ne (J.type.andThen (PySem.W.looks_mroIn I.kIn hm)) (PySem.F.cmpArgs_ne _ _) ?_))
    unfold Builtin.«object.__ne__»
    refine wpAny_bind (wpAny_of_eq (a := ((Value.ref a : Value), [Value.int i tk])) (by first | rfl | (simp only [slotArgs]; rfl)) ?_)
    refine wpAny_bind (wpAny_cRoomFor (by show X.A.units + 1 < cLine; omega) ?_)
    refine wpAny_bind (PySem.W.ifBound_K I.kIn J hs hf ?_)
    refine ni_eq hN hr.in1 rfl I ha (y := .int i) kn_int hi ⟨tk, rfl⟩ fun s' I' => ?_
    refine wpAny_pure ?_
    exact wpAny_pure ⟨rfl, I'⟩
  have h0 : oneThing? .NotEq (.ref a) (.int i tk) = none := rfl
  simp only [richCompare, cmpInfo_NotEq, h0]
  refine wpAny_holding (wpAny_bind (wpAny_cRoomFor (by omega) ?_))
  refine wpAny_bind (J.type.here (wpAny_bind (wpAny_typeOf (typeIs_int s i tk) ?_)))
  split
  · refine wpAny_bind ((PySem.W.looks_subIn I.kIn (by rfl : PySem.W.subIn X.K (.type "int") (.ref C) = some false)).here ?_)
    simp only [Bool.false_eq_true, if_false, Bool.not_false, if_true]
    refine wpAny_bind (m := tryCompare (.ref a) _ (.int i tk)) (wpAny_mono one (fun r s' z => ?_) fun _ _ e => e)
    obtain ⟨rfl, I'⟩ := z
    obtain ⟨mA', O', _⟩ := ins_get I'.hok ha
    have ho : s'.heap.get? a = some (PySem.W.instObj C dx) := O'.obj
    refine wpAny_bind (m := tryCompare (.int i tk) _ (.ref a)) (wpAny_tryCompare_declines (typeIs_int s' i tk) PySem.F.slot_int_ne_refl (call_meets PySem.F.slot_int_ne_refl (typeIs_int s' i tk) PySem.F.entry_int_ne (PySem.F.args_int_ne_2 _ _) (int_ne_ins _ _ _ _ _ _) ⟨ho, ⟨rfl, ?_⟩⟩))
    exact wpAny_bind (wpAny_rule (wpAny_bind (wpAny_of_eq (rfl : isSame (.ref a) (.int i tk) = pure false) (wpAny_pure ⟨.bl true, H, I', rfl, q⟩))))
  · rename_i z
    exact absurd (by simp) z
theorem entry_int {M : Model} {A : Around} {E : Value → Shared → Prop} {s : Shared} {x : Addr} {i : Int} {tk : Tok} {Q : Fin → Shared → Prop} (hq : Q (.done (.ret .notImplemented)) s) : wpAny M A (Builtin.«object.__eq__» ⟨[.ref x, .int i tk], []⟩) Q E s := by
  have h1 : isSame (.ref x) (.int i tk) = pure false := rfl
  unfold Builtin.«object.__eq__»
  repeat (first | with_reducible refine wpAny_of_eq h1 ?_ | wp_step)
  exact hq
/-- an instance of a class without own __eq__, beside an int -/
theorem op_neIdI {D : Addr} (T : IdC X.K D) (hne : PySem.W.findIn X.K (.ref D) "__ne__" = some (some (.builtin "object.__ne__"))) (hu : X.A.units + 64 < cLine) : OpR X (compareOp .NotEq) (fun x y H Q => ∃ a dx fs i, x = .ref a ∧ y = .int i ∧ H a = some (.ins D dx fs) ∧ Q (.bl true) H) := by
  intro pins s σ H x y v u Q I rx ry h
  obtain ⟨a, dx, fs, i, rfl, rfl, ha, q⟩ := h
  cases rx
  obtain ⟨tk, rfl⟩ := ry
  obtain ⟨mA, O, _⟩ := ins_get I.hok ha
  obtain ⟨od, J, _⟩ := O.look
  have ho : s.heap.get? a = some (PySem.W.instObj D dx) := O.obj
  show wpAny (model X.prog X.w) X.A (richCompare .NotEq (.ref a) (.int i tk)) (EP X pins σ Q) X.xe s
  have one : wpAny (model X.prog X.w) X.A (tryCompare (.ref a) "__ne__" (.int i tk)) (fun r s' => r = none ∧ s' = s) X.xe s := by
    unfold tryCompare
    refine wpAny_bind (ifBound_objNe I.kIn J hne ?_)
    refine wpAny_call (codeAny_call_builtin PySem.F.cmp_object.ne.plain PySem.F.cmpEntry_ne (PySem.W.check_slot PySem.F.cmpKind_ne PySem.F.cmpSplit_ne (J.type.andThen (PySem.W.looks_mroIn I.kIn T.hm)) (PySem.F.cmpArgs_ne _ _) ?_))
    unfold Builtin.«object.__ne__»
    refine wpAny_bind (wpAny_of_eq (a := ((Value.ref a : Value), [Value.int i tk])) (by first | rfl | (simp only [slotArgs]; rfl)) ?_)
    refine wpAny_bind (wpAny_cRoomFor (by show X.A.units + 1 < cLine; omega) ?_)
    refine wpAny_bind (ifBound_objEq I.kIn J T.he ?_)
    refine wpAny_call (codeAny_call_builtin PySem.F.cmp_object.eq.plain PySem.F.cmpEntry_eq (PySem.W.check_slot PySem.F.cmpKind_eq PySem.F.cmpSplit_eq (J.type.andThen (PySem.W.looks_mroIn I.kIn T.hm)) (PySem.F.cmpArgs_eq _ _) (entry_int ?_)))
    refine wpAny_pure ?_
    exact wpAny_pure ⟨rfl, rfl⟩
  have h0 : oneThing? .NotEq (.ref a) (.int i tk) = none := rfl
  simp only [richCompare, cmpInfo_NotEq, h0]
  refine wpAny_holding (wpAny_bind (wpAny_cRoomFor (by omega) ?_))
  refine wpAny_bind (J.type.here (wpAny_bind (wpAny_typeOf (typeIs_int s i tk) ?_)))
  split
  · refine wpAny_bind ((PySem.W.looks_subIn I.kIn (by rfl : PySem.W.subIn X.K (.type "int") (.ref D) = some false)).here ?_)
    simp only [Bool.false_eq_true, if_false, Bool.not_false, if_true]
    refine wpAny_bind (m := tryCompare (.ref a) _ (.int i tk)) (wpAny_mono one (fun r s' z => ?_) fun _ _ e => e)
    obtain ⟨rfl, rfl⟩ := z
    refine wpAny_bind (m := tryCompare (.int i tk) _ (.ref a)) (wpAny_tryCompare_declines (typeIs_int _ i tk) PySem.F.slot_int_ne_refl (call_meets PySem.F.slot_int_ne_refl (typeIs_int _ i tk) PySem.F.entry_int_ne (PySem.F.args_int_ne_2 _ _) (int_ne_ins _ _ _ _ _ _) ⟨ho, ⟨rfl, ?_⟩⟩))
    exact wpAny_bind (wpAny_rule (wpAny_bind (wpAny_of_eq (rfl : isSame (.ref a) (.int i tk) = pure false) (wpAny_pure ⟨.bl true, H, I, rfl, q⟩))))
  · rename_i z
    exact absurd (by simp) z
theorem op_neBI : OpR X (compareOp .NotEq) (fun x y H Q => ∃ b i, x = .bl b ∧ y = .int i ∧ Q (.bl (!((if b = true then (1 : Int) else 0) == i))) H) := by
  intro pins s σ H x y v u Q I rx ry h
  obtain ⟨b, i, rfl, rfl, q⟩ := h
  cases rx
  obtain ⟨tk, rfl⟩ := ry
  exact RcNeAt.bool_int b i tk X.prog X.w X.xe _ ⟨.bl _, H, I, rfl, q⟩
end
end Up

set_option Elab.async false
set_option linter.all false
set_option pp.maxSteps 600
set_option maxRecDepth 100000
set_option maxHeartbeats 4000000
namespace Up
open PySem PySem.Spec PyProof.Rows L2 PySem.SeqAt HN
/-! ### == and != of instances of classes without an own __eq__, beside anything -/
structure IdCs (K : PySem.W.Frag) (Cs : List Addr) : Prop where
  id : ∀ C ∈ Cs, IdC K C
  ne : ∀ C ∈ Cs, PySem.W.findIn K (.ref C) "__ne__" = some (some (.builtin "object.__ne__"))
  sub : ∀ C ∈ Cs, ∀ C' ∈ Cs, C ≠ C' → PySem.W.subIn K (.ref C) (.ref C') = some false
  subT : ∀ C ∈ Cs, ∀ t ∈ (["NoneType", "bool", "int", "str"] : List String), PySem.W.subIn K (.ref C) (.type t) = some false
/-- None, a truth, an int, a text -/
inductive ScV : V → Value → String → Prop where
  | non : ScV .non .none "NoneType"
  | bl (b : Bool) : ScV (.bl b) (.bool b) "bool"
  | int (i : Int) (t : Tok) : ScV (.int i) (.int i t) "int"
  | str (z : Str) (t : Tok) : ScV (.str z) (.str z t) "str"
def isSc : V → Bool
  | .non => true
  | .bl _ => true
  | .int _ => true
  | .str _ => true
  | _ => false
theorem sc_of {x : V} {v : Value} (h : isSc x = true) (r : RelV x v) : ∃ t, ScV x v t := by
  cases x with
  | non => cases r; exact ⟨_, .non⟩
  | bl b => cases r; exact ⟨_, .bl b⟩
  | int i => obtain ⟨t, rfl⟩ := r; exact ⟨_, .int i t⟩
  | str z => obtain ⟨t, rfl⟩ := r; exact ⟨_, .str z t⟩
  | _ => cases h
theorem ScV.mem {x : V} {v : Value} {t : String} (h : ScV x v t) : t ∈ (["NoneType", "bool", "int", "str"] : List String) := by cases h <;> simp
theorem ScV.ty {x : V} {v : Value} {t : String} (h : ScV x v t) (s : Shared) : s.TypeIs v t := by
  cases h with
  | non => rfl
  | bl b => rfl
  | int i tk => exact typeIs_int s i tk
  | str i tk => exact typeIs_str s i tk
theorem bool_ne_ins (b : Bool) (l : Addr) (c : Value) (dd : Option Addr) (sl : Array (Option Value)) :
    Meets (Builtin.«int.__ne__» ⟨[.bool b, .ref l], []⟩) (fun _ R s => s.heap.get? l = some { cls := c, dict := dd, data := .plain, slots := sl } ∧ R (.ok (.ret .notImplemented)) s) :=
  .of_wp fun prog w A R s h => by obtain ⟨hp, g, d, tk, os⟩ := s; obtain ⟨hl, h⟩ := h; wp_walk using wpAny_loadPart' hl, wpAny_load hl; exact ⟨_, rfl, h⟩
theorem str_ne_ins (b : Str) (u : Tok) (l : Addr) (c : Value) (dd : Option Addr) (sl : Array (Option Value)) :
    Meets (Builtin.«str.__ne__» ⟨[.str b u, .ref l], []⟩) (fun _ R s => s.heap.get? l = some { cls := c, dict := dd, data := .plain, slots := sl } ∧ R (.ok (.ret .notImplemented)) s) :=
  .of_wp fun prog w A R s h => by obtain ⟨hp, g, d, tk, os⟩ := s; obtain ⟨hl, h⟩ := h; wp_walk using wpAny_loadPart' hl, wpAny_load hl; exact ⟨_, rfl, h⟩
theorem bool_eq_ins (b : Bool) (l : Addr) (c : Value) (dd : Option Addr) (sl : Array (Option Value)) :
    Meets (Builtin.«int.__eq__» ⟨[.bool b, .ref l], []⟩) (fun _ R s => s.heap.get? l = some { cls := c, dict := dd, data := .plain, slots := sl } ∧ R (.ok (.ret .notImplemented)) s) :=
  .of_wp fun prog w A R s h => by obtain ⟨hp, g, d, tk, os⟩ := s; obtain ⟨hl, h⟩ := h; wp_walk using wpAny_loadPart' hl, wpAny_load hl; exact ⟨_, rfl, h⟩
theorem str_eq_ins (b : Str) (u : Tok) (l : Addr) (c : Value) (dd : Option Addr) (sl : Array (Option Value)) :
    Meets (Builtin.«str.__eq__» ⟨[.str b u, .ref l], []⟩) (fun _ R s => s.heap.get? l = some { cls := c, dict := dd, data := .plain, slots := sl } ∧ R (.ok (.ret .notImplemented)) s) :=
  .of_wp fun prog w A R s h => by obtain ⟨hp, g, d, tk, os⟩ := s; obtain ⟨hl, h⟩ := h; wp_walk using wpAny_loadPart' hl, wpAny_load hl; exact ⟨_, rfl, h⟩
section
variable {prog : Program} {w : World} {A : Around} {E : Value → Shared → Prop} {s : Shared} {K : PySem.W.Frag} {a b C C' : Addr} {ox oy : Obj} {od oe : Option Obj} {x : V} {v : Value} {t : String} {dx : Addr}
/-- the scalar's own method declines -/
theorem sc_ne {Q : Option Value → Shared → Prop} (h : ScV x v t) (ho : s.heap.get? b = some (PySem.W.instObj C dx)) (q : Q none s) : wpAny (model prog w) A (tryCompare v "__ne__" (.ref b)) Q E s := by
  cases h with
  | non => exact wpAny_tryCompare_declines (show s.TypeIs .none "NoneType" from rfl) PySem.F.slot_NoneType_ne_refl (call_gives PySem.F.slot_NoneType_ne_refl rfl PySem.F.entry_NoneType_ne (PySem.F.args_NoneType_ne_2 _ _) (NoneType___ne___none_ref_0 b) ⟨rfl, q⟩)
  | bl k => exact wpAny_tryCompare_declines (show s.TypeIs (.bool k) "bool" from rfl) PySem.F.slot_bool_ne_refl (call_meets PySem.F.slot_bool_ne_refl (show s.TypeIs (.bool k) "bool" from rfl) PySem.F.entry_int_ne (PySem.F.args_int_ne_2 _ _) (bool_ne_ins _ _ _ _ _) ⟨ho, rfl, q⟩)
  | int i tk => exact wpAny_tryCompare_declines (typeIs_int s i tk) PySem.F.slot_int_ne_refl (call_meets PySem.F.slot_int_ne_refl (typeIs_int s i tk) PySem.F.entry_int_ne (PySem.F.args_int_ne_2 _ _) (int_ne_ins _ _ _ _ _ _) ⟨ho, rfl, q⟩)
  | str i tk => exact wpAny_tryCompare_declines (typeIs_str s i tk) PySem.F.slot_str_ne_refl (call_meets PySem.F.slot_str_ne_refl (typeIs_str s i tk) PySem.F.entry_str_ne (PySem.F.args_str_ne_2 _ _) (str_ne_ins _ _ _ _ _ _) ⟨ho, rfl, q⟩)
theorem sc_eq {Q : Option Value → Shared → Prop} (h : ScV x v t) (ho : s.heap.get? b = some (PySem.W.instObj C dx)) (q : Q none s) : wpAny (model prog w) A (tryCompare v "__eq__" (.ref b)) Q E s := by
  cases h with
  | non => exact wpAny_tryCompare_declines (show s.TypeIs .none "NoneType" from rfl) PySem.F.slot_NoneType_eq_refl (call_gives PySem.F.slot_NoneType_eq_refl rfl PySem.F.entry_NoneType_eq (PySem.F.args_NoneType_eq_2 _ _) (NoneType___eq___none_ref_0 b) ⟨rfl, q⟩)
  | bl k => exact wpAny_tryCompare_declines (show s.TypeIs (.bool k) "bool" from rfl) PySem.F.slot_bool_eq_refl (call_meets PySem.F.slot_bool_eq_refl (show s.TypeIs (.bool k) "bool" from rfl) PySem.F.entry_int_eq (PySem.F.args_int_eq_2 _ _) (bool_eq_ins _ _ _ _ _) ⟨ho, rfl, q⟩)
  | int i tk => exact wpAny_tryCompare_declines (typeIs_int s i tk) PySem.F.slot_int_eq_refl (call_meets PySem.F.slot_int_eq_refl (typeIs_int s i tk) PySem.F.entry_int_eq (PySem.F.args_int_eq_2 _ _) (int_eq_ins _ _ _ _ _ _) ⟨ho, rfl, q⟩)
  | str i tk => exact wpAny_tryCompare_declines (typeIs_str s i tk) PySem.F.slot_str_eq_refl (call_meets PySem.F.slot_str_eq_refl (typeIs_str s i tk) PySem.F.entry_str_eq (PySem.F.args_str_eq_2 _ _) (str_eq_ins _ _ _ _ _ _) ⟨ho, rfl, q⟩)
theorem entry_sc {Q : Fin → Shared → Prop} (h : ScV x v t) (hq : Q (.done (.ret .notImplemented)) s) : wpAny (model prog w) A (Builtin.«object.__eq__» ⟨[.ref a, v], []⟩) Q E s := by
  have h1 : isSame (.ref a) v = pure false := by cases h <;> rfl
  unfold Builtin.«object.__eq__»
  repeat (first | with_reducible refine wpAny_of_eq h1 ?_ | wp_step)
  exact hq
/-- object.__eq__ of an instance -/
theorem ob_sc {Q : Value → Shared → Prop} (X : K.In s.heap) (I : PySem.W.InstAt s.heap a ox C od) (T : IdC K C) (h : ScV x v t) (hq : Q .notImplemented s) :
    wpAny (model prog w) A (call (.builtin "object.__eq__") [.ref a, v]) Q E s :=
  wpAny_call (codeAny_call_builtin PySem.F.cmp_object.eq.plain PySem.F.cmpEntry_eq (PySem.W.check_slot PySem.F.cmpKind_eq PySem.F.cmpSplit_eq (I.type.andThen (PySem.W.looks_mroIn X T.hm)) (PySem.F.cmpArgs_eq _ _) (entry_sc h hq)))
theorem ob_in {Q : Value → Shared → Prop} (X : K.In s.heap) (I : PySem.W.InstAt s.heap a ox C od) (J : PySem.W.InstAt s.heap b oy C' oe) (T : IdC K C) (hab : a ≠ b) (hq : Q .notImplemented s) :
    wpAny (model prog w) A (call (.builtin "object.__eq__") [.ref a, .ref b]) Q E s :=
  wpAny_call (codeAny_call_builtin PySem.F.cmp_object.eq.plain PySem.F.cmpEntry_eq (PySem.W.check_slot PySem.F.cmpKind_eq PySem.F.cmpSplit_eq (I.type.andThen (PySem.W.looks_mroIn X T.hm)) (PySem.F.cmpArgs_eq _ _) (objEq_entry_other hab I.1 J.1 (inst_nt I) hq)))
theorem in_eq_sc {Q : Option Value → Shared → Prop} (X : K.In s.heap) (I : PySem.W.InstAt s.heap a ox C od) (T : IdC K C) (h : ScV x v t) (hq : Q none s) : wpAny (model prog w) A (tryCompare (.ref a) "__eq__" v) Q E s := by
  unfold tryCompare
  exact wpAny_bind (ifBound_objEq X I T.he (ob_sc X I T h (wpAny_pure hq)))
theorem in_eq_in {Q : Option Value → Shared → Prop} (X : K.In s.heap) (I : PySem.W.InstAt s.heap a ox C od) (J : PySem.W.InstAt s.heap b oy C' oe) (T : IdC K C) (hab : a ≠ b) (hq : Q none s) : wpAny (model prog w) A (tryCompare (.ref a) "__eq__" (.ref b)) Q E s := by
  unfold tryCompare
  exact wpAny_bind (ifBound_objEq X I T.he (ob_in X I J T hab (wpAny_pure hq)))
/-- object.__ne__ asks __eq__ -/
theorem in_ne {u : Value} {Q : Option Value → Shared → Prop} (hu : A.units + 1 < cLine) (X : K.In s.heap) (I : PySem.W.InstAt s.heap a ox C od) (T : IdC K C) (hne : PySem.W.findIn K (.ref C) "__ne__" = some (some (.builtin "object.__ne__")))
    (he : ∀ (A' : Around) (R : Value → Shared → Prop) (E' : Value → Shared → Prop), R .notImplemented s → wpAny (model prog w) A' (call (.builtin "object.__eq__") [.ref a, u]) R E' s) (hq : Q none s) : wpAny (model prog w) A (tryCompare (.ref a) "__ne__" u) Q E s := by
  unfold tryCompare
  refine wpAny_bind (ifBound_objNe X I hne ?_)
  refine wpAny_call (codeAny_call_builtin PySem.F.cmp_object.ne.plain PySem.F.cmpEntry_ne (PySem.W.check_slot PySem.F.cmpKind_ne PySem.F.cmpSplit_ne (I.type.andThen (PySem.W.looks_mroIn X T.hm)) (PySem.F.cmpArgs_ne _ _) ?_))
  unfold Builtin.«object.__ne__»
  refine wpAny_bind (wpAny_of_eq (a := ((Value.ref a : Value), [u])) (by first | rfl | (simp only [slotArgs]; rfl)) ?_)
  refine wpAny_bind (wpAny_cRoomFor (by show A.units + 1 < cLine; omega) ?_)
  refine wpAny_bind (ifBound_objEq X I T.he ?_)
  exact he _ _ _ (wpAny_pure (wpAny_pure hq))
theorem in_ne_same {Q : Option Value → Shared → Prop} (hu : A.units + 1 < cLine) (X : K.In s.heap) (I : PySem.W.InstAt s.heap a ox C od) (T : IdC K C) (hne : PySem.W.findIn K (.ref C) "__ne__" = some (some (.builtin "object.__ne__"))) (hq : Q (some (.bool false)) s) : wpAny (model prog w) A (tryCompare (.ref a) "__ne__" (.ref a)) Q E s := by
  unfold tryCompare
  refine wpAny_bind (ifBound_objNe X I hne ?_)
  refine wpAny_call (codeAny_call_builtin PySem.F.cmp_object.ne.plain PySem.F.cmpEntry_ne (PySem.W.check_slot PySem.F.cmpKind_ne PySem.F.cmpSplit_ne (I.type.andThen (PySem.W.looks_mroIn X T.hm)) (PySem.F.cmpArgs_ne _ _) ?_))
  unfold Builtin.«object.__ne__»
  refine wpAny_bind (wpAny_of_eq (a := ((Value.ref a : Value), [Value.ref a])) (by first | rfl | (simp only [slotArgs]; rfl)) ?_)
  refine wpAny_bind (wpAny_cRoomFor (by show A.units + 1 < cLine; omega) ?_)
  refine wpAny_bind (ifBound_objEq X I T.he ?_)
  refine obj_same X I T ?_
  refine wpAny_bind (wpAny_of_eq (a := true) (by first | rfl | (simp only [truthy]; rfl)) ?_)
  exact wpAny_pure (wpAny_pure hq)
/-! the whole comparison -/
theorem rcne_sc_in {Q : Value → Shared → Prop} (hu : A.units + 1 < cLine) (X : K.In s.heap) (J : PySem.W.InstAt s.heap b (PySem.W.instObj C dx) C oe) (T : IdC K C) (hne : PySem.W.findIn K (.ref C) "__ne__" = some (some (.builtin "object.__ne__"))) (hsub : PySem.W.subIn K (.ref C) (.type t) = some false) (h : ScV x v t) (hq : Q (.bool true) s) : wpAny (model prog w) A (richCompare .NotEq v (.ref b)) Q E s := by
  have h0 : oneThing? .NotEq v (.ref b) = none := by cases h <;> rfl
  simp only [richCompare, cmpInfo_NotEq, h0]
  refine wpAny_holding (wpAny_bind (wpAny_cRoomFor (by omega) ?_))
  refine wpAny_bind (wpAny_typeOf (h.ty s) (wpAny_bind (J.type.here ?_)))
  split
  · refine wpAny_bind ((PySem.W.looks_subIn X hsub).here ?_)
    simp only [Bool.false_eq_true, if_false, Bool.not_false, if_true]
    refine wpAny_bind (m := tryCompare v _ (.ref b)) (sc_ne h J.1 ?_)
    refine wpAny_bind (m := tryCompare (.ref b) _ v) (in_ne hu X J T hne (fun A' R E' q => ob_sc X J T h q) ?_)
    exact wpAny_bind (wpAny_rule (wpAny_bind (wpAny_of_eq (a := false) (by cases h <;> rfl) (wpAny_pure hq))))
  · rename_i q
    exact absurd (by cases h <;> simp) q
theorem rcne_in_sc {Q : Value → Shared → Prop} (hu : A.units + 1 < cLine) (X : K.In s.heap) (J : PySem.W.InstAt s.heap b (PySem.W.instObj C dx) C oe) (T : IdC K C) (hne : PySem.W.findIn K (.ref C) "__ne__" = some (some (.builtin "object.__ne__"))) (h : ScV x v t) (hq : Q (.bool true) s) : wpAny (model prog w) A (richCompare .NotEq (.ref b) v) Q E s := by
  have h0 : oneThing? .NotEq (.ref b) v = none := by cases h <;> rfl
  simp only [richCompare, cmpInfo_NotEq, h0]
  refine wpAny_holding (wpAny_bind (wpAny_cRoomFor (by omega) ?_))
  refine wpAny_bind (J.type.here (wpAny_bind (wpAny_typeOf (h.ty s) ?_)))
  split
  · refine wpAny_bind ((PySem.W.looks_subIn X (by cases h <;> rfl : PySem.W.subIn K (.type t) (.ref C) = some false)).here ?_)
    simp only [Bool.false_eq_true, if_false, Bool.not_false, if_true]
    refine wpAny_bind (m := tryCompare (.ref b) _ v) (in_ne hu X J T hne (fun A' R E' q => ob_sc X J T h q) ?_)
    refine wpAny_bind (m := tryCompare v _ (.ref b)) (sc_ne h J.1 ?_)
    exact wpAny_bind (wpAny_rule (wpAny_bind (wpAny_of_eq (a := false) (by cases h <;> rfl) (wpAny_pure hq))))
  · rename_i q
    exact absurd (by cases h <;> simp) q
theorem rcne_in_in {Q : Value → Shared → Prop} (hu : A.units + 1 < cLine) (X : K.In s.heap) (I : PySem.W.InstAt s.heap a ox C od) (J : PySem.W.InstAt s.heap b oy C' oe) (T : IdC K C) (hne : PySem.W.findIn K (.ref C) "__ne__" = some (some (.builtin "object.__ne__"))) (T' : IdC K C') (hne' : PySem.W.findIn K (.ref C') "__ne__" = some (some (.builtin "object.__ne__")))
    (hsub : C ≠ C' → PySem.W.subIn K (.ref C') (.ref C) = some false) (hab : a ≠ b) (hq : Q (.bool true) s) : wpAny (model prog w) A (richCompare .NotEq (.ref a) (.ref b)) Q E s := by
  simp only [richCompare, cmpInfo_NotEq, oneThing_ref]
  refine wpAny_holding (wpAny_bind (wpAny_cRoomFor (by omega) ?_))
  refine wpAny_bind (I.type.here (wpAny_bind (J.type.here ?_)))
  have last : wpAny (model prog w) A (tryCompare (.ref a) "__ne__" (.ref b)) (fun r s' => r = none ∧ s' = s) E s := in_ne hu X I T hne (fun A' R E' q => ob_in X I J T hab q) ⟨rfl, rfl⟩
  have last2 : wpAny (model prog w) A (tryCompare (.ref b) "__ne__" (.ref a)) (fun r s' => r = none ∧ s' = s) E s := in_ne hu X J T' hne' (fun A' R E' q => ob_in X J I T' hab.symm q) ⟨rfl, rfl⟩
  by_cases hC : C = C'
  · subst hC
    simp only [bne_self_eq_false, Bool.false_eq_true, if_false]
    refine wpAny_bind (wpAny_pure (wpAny_bind (m := tryCompare (.ref a) _ (.ref b)) (wpAny_mono last (fun r s' z => ?_) fun _ _ z => z)))
    obtain ⟨rfl, rfl⟩ := z
    simp only [Bool.false_eq_true, if_false, Bool.not_false, if_true]
    refine wpAny_bind (m := tryCompare (.ref b) _ (.ref a)) (wpAny_mono last2 (fun r s' z => ?_) fun _ _ z => z)
    obtain ⟨rfl, rfl⟩ := z
    exact wpAny_bind (wpAny_rule (wpAny_bind (wpAny_isSame_ref_other hab I.1 J.1 (inst_nt I) (wpAny_pure hq))))
  · split
    · refine wpAny_bind ((PySem.W.looks_subIn X (hsub hC)).here ?_)
      simp only [Bool.false_eq_true, if_false, Bool.not_false, if_true]
      refine wpAny_bind (m := tryCompare (.ref a) _ (.ref b)) (wpAny_mono last (fun r s' z => ?_) fun _ _ z => z)
      obtain ⟨rfl, rfl⟩ := z
      refine wpAny_bind (m := tryCompare (.ref b) _ (.ref a)) (wpAny_mono last2 (fun r s' z => ?_) fun _ _ z => z)
      obtain ⟨rfl, rfl⟩ := z
      exact wpAny_bind (wpAny_rule (wpAny_bind (wpAny_isSame_ref_other hab I.1 J.1 (inst_nt I) (wpAny_pure hq))))
    · rename_i q
      exact absurd (by simpa using hC) q
theorem rcne_same {Q : Value → Shared → Prop} (hu : A.units + 1 < cLine) (X : K.In s.heap) (I : PySem.W.InstAt s.heap a ox C od) (T : IdC K C) (hne : PySem.W.findIn K (.ref C) "__ne__" = some (some (.builtin "object.__ne__"))) (hq : Q (.bool false) s) : wpAny (model prog w) A (richCompare .NotEq (.ref a) (.ref a)) Q E s := by
  simp only [richCompare, cmpInfo_NotEq, oneThing_ref]
  refine wpAny_holding (wpAny_bind (wpAny_cRoomFor (by omega) ?_))
  refine wpAny_bind (I.type.here (wpAny_bind (I.type.here ?_)))
  simp only [bne_self_eq_false, Bool.false_eq_true, if_false]
  refine wpAny_bind (wpAny_pure (wpAny_bind (m := tryCompare (.ref a) _ (.ref a)) (in_ne_same hu X I T hne ?_)))
  exact wpAny_pure hq
/-! == -/
theorem rceq_sc_in {Q : Value → Shared → Prop} (hu : A.units + 1 < cLine) (X : K.In s.heap) (J : PySem.W.InstAt s.heap b (PySem.W.instObj C dx) C oe) (T : IdC K C) (hsub : PySem.W.subIn K (.ref C) (.type t) = some false) (h : ScV x v t) (hq : Q (.bool false) s) : wpAny (model prog w) A (richCompare .Eq v (.ref b)) Q E s := by
  have h0 : oneThing? .Eq v (.ref b) = none := by cases h <;> rfl
  simp only [richCompare, cmpInfo_Eq, h0]
  refine wpAny_holding (wpAny_bind (wpAny_cRoomFor (by omega) ?_))
  refine wpAny_bind (wpAny_typeOf (h.ty s) (wpAny_bind (J.type.here ?_)))
  split
  · refine wpAny_bind ((PySem.W.looks_subIn X hsub).here ?_)
    simp only [Bool.false_eq_true, if_false, Bool.not_false, if_true]
    refine wpAny_bind (m := tryCompare v _ (.ref b)) (sc_eq h J.1 ?_)
    refine wpAny_bind (m := tryCompare (.ref b) _ v) (in_eq_sc X J T h ?_)
    exact wpAny_bind (wpAny_rule (wpAny_bind (wpAny_of_eq (a := false) (by cases h <;> rfl) (wpAny_pure hq))))
  · rename_i q
    exact absurd (by cases h <;> simp) q
theorem rceq_in_sc {Q : Value → Shared → Prop} (hu : A.units + 1 < cLine) (X : K.In s.heap) (J : PySem.W.InstAt s.heap b (PySem.W.instObj C dx) C oe) (T : IdC K C) (h : ScV x v t) (hq : Q (.bool false) s) : wpAny (model prog w) A (richCompare .Eq (.ref b) v) Q E s := by
  have h0 : oneThing? .Eq (.ref b) v = none := by cases h <;> rfl
  simp only [richCompare, cmpInfo_Eq, h0]
  refine wpAny_holding (wpAny_bind (wpAny_cRoomFor (by omega) ?_))
  refine wpAny_bind (J.type.here (wpAny_bind (wpAny_typeOf (h.ty s) ?_)))
  split
  · refine wpAny_bind ((PySem.W.looks_subIn X (by cases h <;> rfl : PySem.W.subIn K (.type t) (.ref C) = some false)).here ?_)
    simp only [Bool.false_eq_true, if_false, Bool.not_false, if_true]
    refine wpAny_bind (m := tryCompare (.ref b) _ v) (in_eq_sc X J T h ?_)
    refine wpAny_bind (m := tryCompare v _ (.ref b)) (sc_eq h J.1 ?_)
    exact wpAny_bind (wpAny_rule (wpAny_bind (wpAny_of_eq (a := false) (by cases h <;> rfl) (wpAny_pure hq))))
  · rename_i q
    exact absurd (by cases h <;> simp) q
theorem rceq_in_in {Q : Value → Shared → Prop} (hu : A.units + 1 < cLine) (X : K.In s.heap) (I : PySem.W.InstAt s.heap a ox C od) (J : PySem.W.InstAt s.heap b oy C' oe) (T : IdC K C) (T' : IdC K C')
    (hsub : C ≠ C' → PySem.W.subIn K (.ref C') (.ref C) = some false) (hab : a ≠ b) (hq : Q (.bool false) s) : wpAny (model prog w) A (richCompare .Eq (.ref a) (.ref b)) Q E s := by
  simp only [richCompare, cmpInfo_Eq, oneThing_ref]
  refine wpAny_holding (wpAny_bind (wpAny_cRoomFor (by omega) ?_))
  refine wpAny_bind (I.type.here (wpAny_bind (J.type.here ?_)))
  have last : wpAny (model prog w) A (tryCompare (.ref a) "__eq__" (.ref b)) (fun r s' => r = none ∧ s' = s) E s := in_eq_in X I J T hab ⟨rfl, rfl⟩
  have last2 : wpAny (model prog w) A (tryCompare (.ref b) "__eq__" (.ref a)) (fun r s' => r = none ∧ s' = s) E s := in_eq_in X J I T' hab.symm ⟨rfl, rfl⟩
  by_cases hC : C = C'
  · subst hC
    simp only [bne_self_eq_false, Bool.false_eq_true, if_false]
    refine wpAny_bind (wpAny_pure (wpAny_bind (m := tryCompare (.ref a) _ (.ref b)) (wpAny_mono last (fun r s' z => ?_) fun _ _ z => z)))
    obtain ⟨rfl, rfl⟩ := z
    simp only [Bool.false_eq_true, if_false, Bool.not_false, if_true]
    refine wpAny_bind (m := tryCompare (.ref b) _ (.ref a)) (wpAny_mono last2 (fun r s' z => ?_) fun _ _ z => z)
    obtain ⟨rfl, rfl⟩ := z
    exact wpAny_bind (wpAny_rule (wpAny_bind (wpAny_isSame_ref_other hab I.1 J.1 (inst_nt I) (wpAny_pure hq))))
  · split
    · refine wpAny_bind ((PySem.W.looks_subIn X (hsub hC)).here ?_)
      simp only [Bool.false_eq_true, if_false, Bool.not_false, if_true]
      refine wpAny_bind (m := tryCompare (.ref a) _ (.ref b)) (wpAny_mono last (fun r s' z => ?_) fun _ _ z => z)
      obtain ⟨rfl, rfl⟩ := z
      refine wpAny_bind (m := tryCompare (.ref b) _ (.ref a)) (wpAny_mono last2 (fun r s' z => ?_) fun _ _ z => z)
      obtain ⟨rfl, rfl⟩ := z
      exact wpAny_bind (wpAny_rule (wpAny_bind (wpAny_isSame_ref_other hab I.1 J.1 (inst_nt I) (wpAny_pure hq))))
    · rename_i q
      exact absurd (by simpa using hC) q
end
/-! ### as rules -/
/-- a value that is no sequence: a scalar, or an instance of one of these classes -/
inductive IsV (Cs : List Addr) (H : Hp) : V → Prop where
  | sc {x : V} : isSc x = true → IsV Cs H x
  | ins {C a dx : Addr} {fs : List (Str × V)} : C ∈ Cs → H a = some (.ins C dx fs) → IsV Cs H (.ref a)
/-- at least one is an instance -/
def rNeIS (Cs : List Addr) : R2 := fun x y H Q => IsV Cs H x ∧ IsV Cs H y ∧ (isSc x = true → isSc y = false) ∧ Q (.bl (!decide (x = y))) H
def rEqIS (Cs : List Addr) : R2 := fun x y H Q => IsV Cs H x ∧ IsV Cs H y ∧ (isSc x = true → isSc y = false) ∧ Q (.bl (decide (x = y))) H
theorem sc_ne_ref {x : V} {a : Addr} (h : isSc x = true) : x ≠ .ref a := fun z => by subst z; cases h
section
variable {X : Cx} {Cs : List Addr}
theorem op_neIS (T : IdCs X.K Cs) (hu : X.A.units + 64 < cLine) : OpR X (compareOp .NotEq) (rNeIS Cs) := by
  intro pins s σ H x y v u Q I rx ry ⟨hx, hy, hn, q⟩
  have hu0 : X.A.units + 1 < cLine := by omega
  show wpAny (model X.prog X.w) X.A (richCompare .NotEq v u) (EP X pins σ Q) X.xe s
  cases hx with
  | sc hx =>
    obtain ⟨t, sv⟩ := sc_of hx rx
    cases hy with
    | sc hy => rw [hn hx] at hy; cases hy
    | @ins C b dx fs hC hb =>
      cases ry
      obtain ⟨mB, O, _⟩ := ins_get I.hok hb
      obtain ⟨oe, J, _⟩ := O.look
      rw [decide_eq_false (sc_ne_ref hx)] at q
      exact rcne_sc_in hu0 I.kIn J (T.id C hC) (T.ne C hC) (T.subT C hC t sv.mem) sv ⟨.bl true, H, I, rfl, q⟩
  | @ins C a dx fs hC ha =>
    cases rx
    obtain ⟨mA, O, _⟩ := ins_get I.hok ha
    obtain ⟨od, J, _⟩ := O.look
    cases hy with
    | sc hy =>
      obtain ⟨t, sv⟩ := sc_of hy ry
      rw [decide_eq_false (fun z => sc_ne_ref hy z.symm)] at q
      exact rcne_in_sc hu0 I.kIn J (T.id C hC) (T.ne C hC) sv ⟨.bl true, H, I, rfl, q⟩
    | @ins C' b dy gs hC' hb =>
      cases ry
      obtain ⟨mB, O2, _⟩ := ins_get I.hok hb
      obtain ⟨oe, J2, _⟩ := O2.look
      by_cases hab : a = b
      · subst hab
        rw [decide_eq_true rfl] at q
        exact rcne_same hu0 I.kIn J (T.id C hC) (T.ne C hC) ⟨.bl false, H, I, rfl, q⟩
      · rw [decide_eq_false (fun z => hab (by injection z))] at q
        exact rcne_in_in hu0 I.kIn J J2 (T.id C hC) (T.ne C hC) (T.id C' hC') (T.ne C' hC') (fun z => T.sub C' hC' C hC (fun y => z y.symm)) hab ⟨.bl true, H, I, rfl, q⟩
theorem op_eqIS (T : IdCs X.K Cs) (hu : X.A.units + 64 < cLine) : OpR X (compareOp .Eq) (rEqIS Cs) := by
  intro pins s σ H x y v u Q I rx ry ⟨hx, hy, hn, q⟩
  have hu0 : X.A.units + 1 < cLine := by omega
  show wpAny (model X.prog X.w) X.A (richCompare .Eq v u) (EP X pins σ Q) X.xe s
  cases hx with
  | sc hx =>
    obtain ⟨t, sv⟩ := sc_of hx rx
    cases hy with
    | sc hy => rw [hn hx] at hy; cases hy
    | @ins C b dx fs hC hb =>
      cases ry
      obtain ⟨mB, O, _⟩ := ins_get I.hok hb
      obtain ⟨oe, J, _⟩ := O.look
      rw [decide_eq_false (sc_ne_ref hx)] at q
      exact rceq_sc_in hu0 I.kIn J (T.id C hC) (T.subT C hC t sv.mem) sv ⟨.bl false, H, I, rfl, q⟩
  | @ins C a dx fs hC ha =>
    cases rx
    obtain ⟨mA, O, _⟩ := ins_get I.hok ha
    obtain ⟨od, J, _⟩ := O.look
    cases hy with
    | sc hy =>
      obtain ⟨t, sv⟩ := sc_of hy ry
      rw [decide_eq_false (fun z => sc_ne_ref hy z.symm)] at q
      exact rceq_in_sc hu0 I.kIn J (T.id C hC) sv ⟨.bl false, H, I, rfl, q⟩
    | @ins C' b dy gs hC' hb =>
      cases ry
      obtain ⟨mB, O2, _⟩ := ins_get I.hok hb
      obtain ⟨oe, J2, _⟩ := O2.look
      by_cases hab : a = b
      · subst hab
        rw [decide_eq_true rfl] at q
        exact rc_same (by omega) I.kIn J (T.id C hC) ⟨.bl true, H, I, rfl, q⟩
      · rw [decide_eq_false (fun z => hab (by injection z))] at q
        exact rceq_in_in hu0 I.kIn J J2 (T.id C hC) (T.id C' hC') (fun z => T.sub C' hC' C hC (fun y => z y.symm)) hab ⟨.bl false, H, I, rfl, q⟩
end
end Up

set_option Elab.async false
set_option linter.all false
set_option pp.maxSteps 600
set_option maxRecDepth 100000
set_option maxHeartbeats 4000000
namespace Up
open PySem PySem.Spec PyProof.Rows L2 PySem.SeqAt HN
/-! ### == of an instance whose own __eq__ tells NotImplemented, beside what is none of its class -/
/-- a scalar, or an instance of one of the classes Cs, beside the class at C -/
inductive Oth (K : PySem.W.Frag) (C : Addr) (Cs : List Addr) (H : Hp) : V → Prop where
  | sc {x : V} : isSc x = true → Oth K C Cs H x
  | ins {D a dx : Addr} {fs : List (Str × V)} : D ∈ Cs → H a = some (.ins D dx fs) → Oth K C Cs H (.ref a)
structure NiF (K : PySem.W.Frag) (C : Addr) (Cs : List Addr) : Prop where
  ids : IdCs K Cs
  own : ∀ D ∈ Cs, OwnC K D
  kT : ∀ t ∈ (["NoneType", "bool", "int", "str"] : List String), PySem.W.kitOne K (.type t) (.ref C) = some false
  sT : ∀ t ∈ (["NoneType", "bool", "int", "str"] : List String), PySem.W.subIn K (.ref C) (.type t) = some false
  kC : ∀ D ∈ Cs, PySem.W.kitOne K (.ref D) (.ref C) = some false
  s1 : ∀ D ∈ Cs, PySem.W.subIn K (.ref D) (.ref C) = some false
  s2 : ∀ D ∈ Cs, PySem.W.subIn K (.ref C) (.ref D) = some false
  ne : ∀ D ∈ Cs, D ≠ C
section
variable {X : Cx} {C : Addr} {k : Nat} {Cs : List Addr}
theorem ScV.kn {x : V} {v : Value} {t : String} {K : PySem.W.Frag} {H : Hp} (h : ScV x v t) : Kn K H x (.type t) := by
  cases h with
  | non => exact kn_non
  | bl b => exact kn_bl
  | int i tk => exact kn_int
  | str i tk => exact kn_str
theorem ScV.rel {x : V} {v : Value} {t : String} (h : ScV x v t) : RelV x v := by
  cases h with
  | non => exact rfl
  | bl b => exact rfl
  | int i tk => exact ⟨tk, rfl⟩
  | str i tk => exact ⟨tk, rfl⟩
/-- its own __eq__, asked -/
theorem ni_try {pins : List (Addr × Obj)} {σ : L2.St} {H : Hp} {s : Shared} {a dx : Addr} {fs : List (Str × V)} {y : V} {u t : Value} {Q : Option Value → Shared → Prop} {E : Value → Shared → Prop} (T : NiC X.prog X.w X.K X.mg X.base k C) (hr : Room k X.A) (I : L2.Inv X pins σ H s) (ha : H a = some (.ins C dx fs)) (hk : Kn X.K H y t) (hf : PySem.W.kitOne X.K t (.ref C) = some false) (hu : RelV y u)
    (q : ∀ s', L2.Inv X pins σ H s' → Q none s') : wpAny (model X.prog X.w) X.A (tryCompare (.ref a) "__eq__" u) Q E s := by
  obtain ⟨f, hs, hfn, hne, hm, hN⟩ := T
  obtain ⟨mA, O, _⟩ := ins_get I.hok ha
  obtain ⟨od, J, _⟩ := O.look
  unfold tryCompare
  refine wpAny_bind (PySem.W.ifBound_K I.kIn J hs hfn ?_)
  refine ni_eq hN hr rfl I ha hk hf hu fun s' I' => ?_
  exact wpAny_pure (q s' I')
def rEqNI (K : PySem.W.Frag) (C : Addr) (Cs : List Addr) : R2 := fun x y H Q => ((∃ a dx fs, x = .ref a ∧ H a = some (.ins C dx fs) ∧ Oth K C Cs H y) ∨ (∃ a dx fs, y = .ref a ∧ H a = some (.ins C dx fs) ∧ Oth K C Cs H x)) ∧ Q (.bl false) H
theorem op_eqNI (T : NiC X.prog X.w X.K X.mg X.base k C) (F : NiF X.K C Cs) (hr : Room k X.A) (hu : X.A.units + 64 < cLine) : OpR X (compareOp .Eq) (rEqNI X.K C Cs) := by
  intro pins s σ H x y v u Q I rx ry ⟨h, q⟩
  show wpAny (model X.prog X.w) X.A (richCompare .Eq v u) (EP X pins σ Q) X.xe s
  rcases h with ⟨a, dx, fs, rfl, ha, ho⟩ | ⟨a, dx, fs, rfl, ha, ho⟩
  · cases rx
    obtain ⟨mA, O, _⟩ := ins_get I.hok ha
    obtain ⟨od, J, _⟩ := O.look
    cases ho with
    | sc hy =>
      obtain ⟨t, sv⟩ := sc_of hy ry
      have h0 : oneThing? .Eq (.ref a) u = none := by cases sv <;> rfl
      simp only [richCompare, cmpInfo_Eq, h0]
      refine wpAny_holding (wpAny_bind (wpAny_cRoomFor (by omega) ?_))
      refine wpAny_bind (J.type.here (wpAny_bind (wpAny_typeOf (sv.ty s) ?_)))
      split
      · refine wpAny_bind ((PySem.W.looks_subIn I.kIn (by cases sv <;> rfl : PySem.W.subIn X.K (.type t) (.ref C) = some false)).here ?_)
        simp only [Bool.false_eq_true, if_false, Bool.not_false, if_true]
        refine wpAny_bind (m := tryCompare (.ref a) _ u) (ni_try T hr I ha sv.kn (F.kT t sv.mem) ry fun s' I' => ?_)
        obtain ⟨mA', O', _⟩ := ins_get I'.hok ha
        refine wpAny_bind (m := tryCompare u _ (.ref a)) (sc_eq sv O'.obj ?_)
        exact wpAny_bind (wpAny_rule (wpAny_bind (wpAny_of_eq (a := false) (by cases sv <;> rfl) (wpAny_pure ⟨.bl false, H, I', rfl, q⟩))))
      · rename_i z
        exact absurd (by cases sv <;> simp) z
    | @ins D b dy gs hD hb =>
      cases ry
      obtain ⟨mB, O2, _⟩ := ins_get I.hok hb
      obtain ⟨oe, J2, _⟩ := O2.look
      have hab : a ≠ b := fun z => by
        rw [z, hb] at ha
        injection ha with ha
        injection ha with ha
        exact F.ne D hD ha
      simp only [richCompare, cmpInfo_Eq, oneThing_ref]
      refine wpAny_holding (wpAny_bind (wpAny_cRoomFor (by omega) ?_))
      refine wpAny_bind (J.type.here (wpAny_bind (J2.type.here ?_)))
      split
      · refine wpAny_bind ((PySem.W.looks_subIn I.kIn (F.s1 D hD)).here ?_)
        simp only [Bool.false_eq_true, if_false, Bool.not_false, if_true]
        refine wpAny_bind (m := tryCompare (.ref a) _ (.ref b)) (ni_try T hr I ha (kn_ins (F.own D hD) hb) (F.kC D hD) rfl fun s' I' => ?_)
        obtain ⟨mA', O', _⟩ := ins_get I'.hok ha
        obtain ⟨od', J', _⟩ := O'.look
        obtain ⟨mB', O2', _⟩ := ins_get I'.hok hb
        obtain ⟨oe', J2', _⟩ := O2'.look
        refine wpAny_bind (m := tryCompare (.ref b) _ (.ref a)) (in_eq_in I'.kIn J2' J' (F.ids.id D hD) hab.symm ?_)
        exact wpAny_bind (wpAny_rule (wpAny_bind (wpAny_isSame_ref_other hab J'.1 J2'.1 (inst_nt J') (wpAny_pure ⟨.bl false, H, I', rfl, q⟩))))
      · rename_i z
        exact absurd (by simpa using fun e => F.ne D hD e.symm) z
  · cases ry
    obtain ⟨mA, O, _⟩ := ins_get I.hok ha
    obtain ⟨od, J, _⟩ := O.look
    cases ho with
    | sc hy =>
      obtain ⟨t, sv⟩ := sc_of hy rx
      have h0 : oneThing? .Eq v (.ref a) = none := by cases sv <;> rfl
      simp only [richCompare, cmpInfo_Eq, h0]
      refine wpAny_holding (wpAny_bind (wpAny_cRoomFor (by omega) ?_))
      refine wpAny_bind (wpAny_typeOf (sv.ty s) (wpAny_bind (J.type.here ?_)))
      split
      · refine wpAny_bind ((PySem.W.looks_subIn I.kIn (F.sT t sv.mem)).here ?_)
        simp only [Bool.false_eq_true, if_false, Bool.not_false, if_true]
        refine wpAny_bind (m := tryCompare v _ (.ref a)) (sc_eq sv O.obj ?_)
        refine wpAny_bind (m := tryCompare (.ref a) _ v) (ni_try T hr I ha sv.kn (F.kT t sv.mem) rx fun s' I' => ?_)
        exact wpAny_bind (wpAny_rule (wpAny_bind (wpAny_of_eq (a := false) (by cases sv <;> rfl) (wpAny_pure ⟨.bl false, H, I', rfl, q⟩))))
      · rename_i z
        exact absurd (by cases sv <;> simp) z
    | @ins D b dy gs hD hb =>
      cases rx
      obtain ⟨mB, O2, _⟩ := ins_get I.hok hb
      obtain ⟨oe, J2, _⟩ := O2.look
      have hab : b ≠ a := fun z => by
        rw [← z, hb] at ha
        injection ha with ha
        injection ha with ha
        exact F.ne D hD ha
      simp only [richCompare, cmpInfo_Eq, oneThing_ref]
      refine wpAny_holding (wpAny_bind (wpAny_cRoomFor (by omega) ?_))
      refine wpAny_bind (J2.type.here (wpAny_bind (J.type.here ?_)))
      split
      · refine wpAny_bind ((PySem.W.looks_subIn I.kIn (F.s2 D hD)).here ?_)
        simp only [Bool.false_eq_true, if_false, Bool.not_false, if_true]
        refine wpAny_bind (m := tryCompare (.ref b) _ (.ref a)) (in_eq_in I.kIn J2 J (F.ids.id D hD) hab ?_)
        refine wpAny_bind (m := tryCompare (.ref a) _ (.ref b)) (ni_try T hr I ha (kn_ins (F.own D hD) hb) (F.kC D hD) rfl fun s' I' => ?_)
        obtain ⟨mA', O', _⟩ := ins_get I'.hok ha
        obtain ⟨od', J', _⟩ := O'.look
        obtain ⟨mB', O2', _⟩ := ins_get I'.hok hb
        obtain ⟨oe', J2', _⟩ := O2'.look
        exact wpAny_bind (wpAny_rule (wpAny_bind (wpAny_isSame_ref_other hab J2'.1 J'.1 (inst_nt J2') (wpAny_pure ⟨.bl false, H, I', rfl, q⟩))))
      · rename_i z
        exact absurd (by simpa using fun e => F.ne D hD e) z
/-! ### text * int -/
def mulStr (x : Str) (n : Nat) : Str := ⟨(List.replicate n x.cps).foldl (· ++ ·) #[]⟩
theorem op_mulS : OpR X (binaryOp .Mult) (fun x y H Q => ∃ (z : Str) (n : Int), x = .str z ∧ y = .int n ∧ 2 ≤ n ∧ n ≤ 1000 ∧ 1 ≤ z.length ∧ z.length ≤ 10 ∧ (mulStr z n.toNat).length ≤ sizeLine ∧ Q (.str (mulStr z n.toNat)) H) := by
  intro pins s σ H x y v u Q I rx ry h
  obtain ⟨z, n, rfl, rfl, h1, h2, h3, h4, h5, q⟩ := h
  obtain ⟨t, rfl⟩ := rx
  obtain ⟨tk, rfl⟩ := ry
  have e1 : (n == 1 || z.length == 0) = false := by
    rw [Bool.or_eq_false_iff]
    exact ⟨by simp; omega, by simp; omega⟩
  refine PySem.P.mul_str (by rw [decide_eq_false (by omega), decide_eq_false (by omega)]; rfl) (fun _ _ => ?_) (fun _ _ => ?_) ?_
  · have : (2 : Int) ^ 62 ≤ (2 ^ 63 - 1) / n ∨ (100 : Int) ≤ (2 ^ 63 - 1) / n := Or.inr ((Int.le_ediv_iff_mul_le (by omega)).mpr (by omega))
    omega
  · have hx : z.length * n.toNat ≤ 10 * 1000 := Nat.mul_le_mul h4 (by omega)
    exact decide_eq_false (by show ¬ z.length * n.toNat > sizeLine; have : (10 * 1000 : Nat) ≤ sizeLine := by decide
                              omega)
  · rw [if_neg (by omega), e1]
    exact ⟨h5, .str (mulStr z n.toNat), H, I.tok _, ⟨_, rfl⟩, q⟩
end
end Up

set_option Elab.async false
set_option linter.all false
set_option maxRecDepth 100000
set_option maxHeartbeats 4000000
namespace Up
open PySem PySem.Spec PyProof.Rows L2
/-- an expression that the proof never comes to -/
def tNevE : TE := fun _ _ _ => False
theorem pe_never {X : Cx} {e : Expr} : PE X e tNevE := ⟨fun _ _ _ _ _ _ h => h.elim⟩
/-- a test, a value read once with a middle term -/
def tCutT (t : TT) : TT := fun σ H R => ∃ P : Bool → Hp → Prop, t σ H P ∧ ∀ b H', P b H' → R b H'
theorem pt_cut {X : Cx} {e : Expr} {t : TT} (h : PT X e t) : PT X e (tCutT t) := ⟨fun pins s σ H Q I ⟨P, h1, h2⟩ => wpAny_mono (h.run pins s σ H P I h1) (fun b s' ⟨H', I', p⟩ => ⟨H', I', h2 _ _ p⟩) fun _ _ e => e⟩
def tCutE (t : TE) : TE := fun σ H R => ∃ P : VK, t σ H P ∧ ∀ b H', P b H' → R b H'
theorem pe_cut {X : Cx} {e : Expr} {t : TE} (h : PE X e t) : PE X e (tCutE t) := ⟨fun pins s σ H Q I ⟨P, h1, h2⟩ => wpAny_mono (h.run pins s σ H P I h1) (fun b s' ⟨v, H', I', r, p⟩ => ⟨v, H', I', r, h2 _ _ p⟩) fun _ _ e => e⟩
theorem g_cutT {t : TT} {σ : L2.St} {H : Hp} {R : Bool → Hp → Prop} (P : Bool → Hp → Prop) (h1 : t σ H P) (h2 : ∀ b H', P b H' → R b H') : tCutT t σ H R := ⟨P, h1, h2⟩
theorem g_cutE {t : TE} {σ : L2.St} {H : Hp} {R : VK} (P : VK) (h1 : t σ H P) (h2 : ∀ b H', P b H' → R b H') : tCutE t σ H R := ⟨P, h1, h2⟩
theorem g_chain {r r' : R2} {ta tb tc : TE} {σ : L2.St} {H : Hp} {Q : VK} (h : ta σ H fun x H1 => tb σ H1 fun y H2 => r x y H2 fun z H3 => ∃ k, z = .bl k ∧ (if k = true then tc σ H3 fun w' H4 => r' y w' H4 Q else Q (.bl false) H3)) : tChain r r' ta tb tc σ H Q := h
theorem g_par3 {i j l : Nat} {ta : TA} {D : Ends} {σ : L2.St} {H : Hp} (h : ta σ H fun vs H1 => ∃ u v w, vs = [u, v, w] ∧ D.nx (((σ.set i (some u)).set j (some v)).set l (some w)) H1) : tPar3 i j l ta D σ H := h
theorem g_par3' {a b c : V} {T : V → V → V → Prop} (h : T a b c) : ∃ u v w, [a, b, c] = [u, v, w] ∧ T u v w := ⟨a, b, c, rfl, h⟩
theorem g_while {c : TT} {tb : TS} {D : Ends} {σ : L2.St} {H : Hp} (W : Nat → L2.St → Hp → Prop) (m0 : Nat) (h0 : W m0 σ H) (hs : ∀ m σ H, W m σ H →
    c σ H fun b H1 => if b = true then ∃ N : L2.St → Hp → Prop, (∀ σ' H', N σ' H' → ∃ m', m' < m ∧ W m' σ' H') ∧ tb { D with nx := N, ct := N, bk := D.nx } σ H1 else D.nx σ H1) : tWhile c tb D σ H := ⟨W, ⟨m0, h0⟩, hs⟩
theorem g_wbody {tb : TS} {D : Ends} {σ : L2.St} {H : Hp} {W : Nat → L2.St → Hp → Prop} {m : Nat} (h : tb { D with nx := fun σ' H' => ∃ m', m' < m ∧ W m' σ' H', ct := fun σ' H' => ∃ m', m' < m ∧ W m' σ' H', bk := D.nx } σ H) :
    ∃ N : L2.St → Hp → Prop, (∀ σ' H', N σ' H' → ∃ m', m' < m ∧ W m' σ' H') ∧ tb { D with nx := N, ct := N, bk := D.nx } σ H := ⟨_, fun _ _ z => z, h⟩
section
variable {K : PySem.W.Frag} {H : Hp} {Q : VK} {x y : V}
theorem g_eqV (hs : scal x y = true) (h : Q (.bl (decide (x = y))) H) : oEq K x y H Q := .inl ⟨hs, h⟩
theorem g_neV (hs : scal x y = true) (h : Q (.bl (!decide (x = y))) H) : oNe K x y H Q := .inl ⟨hs, h⟩
end
/-- an int or a text -/
def IS (t : V) : Prop := (∃ n, t = .int n) ∨ ∃ x, t = .str x
theorem IS.int (n : Int) : IS (.int n) := .inl ⟨n, rfl⟩
theorem IS.str (n : Str) : IS (.str n) := .inr ⟨n, rfl⟩
theorem IS.scal {t u : V} (ht : IS t) (hu : IS u) : scal t u = true := by
  rcases ht with ⟨n, rfl⟩ | ⟨n, rfl⟩ <;> rcases hu with ⟨m, rfl⟩ | ⟨m, rfl⟩ <;> rfl
theorem IS.flat {t : V} (ht : IS t) : flatV t = true := by
  rcases ht with ⟨n, rfl⟩ | ⟨n, rfl⟩ <;> rfl
theorem IS.eqV {t u : V} (ht : IS t) (hu : IS u) : eqV t u = decide (t = u) := by
  rcases ht with ⟨n, rfl⟩ | ⟨n, rfl⟩ <;> rcases hu with ⟨m, rfl⟩ | ⟨m, rfl⟩
  · show (n == m) = _
    by_cases h : n = m
    · subst h; simp
    · have : (n == m) = false := beq_eq_false_iff_ne.mpr h
      rw [this]; simp [h]
  · show false = _
    simp
  · show false = _
    simp
  · show (n == m) = _
    by_cases h : n = m
    · subst h; simp
    · have : (n == m) = false := beq_eq_false_iff_ne.mpr h
      rw [this]; simp [h]
/-- x in (a, b) -/
theorem IS.in2 {x a b : V} (hx : IS x) (ha : IS a) (hb : IS b) : inV x [a, b] = decide (a = x ∨ b = x) := by
  unfold inV
  simp only [List.any_cons, List.any_nil, Bool.or_false]
  rw [ha.eqV hx, hb.eqV hx]
  by_cases h1 : a = x <;> by_cases h2 : b = x <;> simp [h1, h2]
theorem g_in2 {K : PySem.W.Frag} {H : Hp} {Q : VK} {x a b : V} {p : Addr} (hp : H p = some (.tup [a, b])) (hx : IS x) (ha : IS a) (hb : IS b) (q : Q (.bl (decide (a = x ∨ b = x))) H) : rIn K false x (.ref p) H Q :=
  ⟨p, _, rfl, .inr (SqT.of hp), hx.flat, by simp [ha.flat, hb.flat], by rw [hx.in2 ha hb]; exact q⟩
def dV : V → PyData
  | .int n => .int n
  | .str x => .str x
  | _ => .none
theorem IS.dp {K : PySem.W.Frag} {H : Hp} {t : V} (ht : IS t) : Dp K H t (dV t) := by
  rcases ht with ⟨n, rfl⟩ | ⟨n, rfl⟩
  · exact .int n
  · exact .str n
theorem IS.eqv {t u : V} (ht : IS t) (hu : IS u) : PyData.eqv (dV t) (dV u) = decide (t = u) := by
  rw [← ht.eqV hu]
  rcases ht with ⟨n, rfl⟩ | ⟨n, rfl⟩ <;> rcases hu with ⟨m, rfl⟩ | ⟨m, rfl⟩ <;> simp [dV, PyData.eqv, L2.eqV]
end Up

set_option Elab.async false
set_option linter.all false
set_option maxRecDepth 100000
set_option maxHeartbeats 4000000
namespace Up
open PySem PySem.Spec PyProof.Rows L2
/-! ### a list beside an empty one -/
def oEqE (K : PySem.W.Frag) : R2 := fun x y H Q => ∃ a b xs, x = .ref a ∧ y = .ref b ∧ SqL K H a xs ∧ SqL K H b [] ∧ Q (.bl xs.isEmpty) H
def oNeE (K : PySem.W.Frag) : R2 := fun x y H Q => ∃ a b xs, x = .ref a ∧ y = .ref b ∧ SqL K H a xs ∧ SqL K H b [] ∧ Q (.bl (!xs.isEmpty)) H
theorem op_eqE {X : Cx} (hu : X.A.units + 64 < cLine) : OpR X (compareOp .Eq) (oEqE X.K) := by
  intro pins s σ H x y v u Q I rx ry h
  obtain ⟨a, b, xs, rfl, rfl, ha, hb, q⟩ := h
  cases rx
  cases ry
  obtain ⟨its, r1, p1, _⟩ := I.list ha
  obtain ⟨jts, r2, p2, _⟩ := I.list hb
  have l1 := r1.length
  have l2 := r2.length
  by_cases e : xs = []
  · subst e
    have z1 : its.toArray.size = 0 := by rw [List.size_toArray, ← l1]; rfl
    refine SeqAt.eq_listAt (e := fun _ => true) p1.isList p2.isList (by rw [z1, List.size_toArray, ← l2]; rfl) (by omega) (fun j h1 => absurd h1 (by omega)) ?_
    rw [z1]
    exact ⟨.bl true, H, I, rfl, q⟩
  · refine SeqAt.eq_list_lengthsAt p1.isList p2.isList ?_ (by omega) ?_
    · rw [List.size_toArray, List.size_toArray, ← l1, ← l2]
      cases xs with
      | nil => exact absurd rfl e
      | cons _ _ => rfl
    · cases xs with
      | nil => exact absurd rfl e
      | cons _ _ => exact ⟨.bl false, H, I, rfl, q⟩
theorem op_neE {X : Cx} (hu : X.A.units + 64 < cLine) : OpR X (compareOp .NotEq) (oNeE X.K) := by
  intro pins s σ H x y v u Q I rx ry h
  obtain ⟨a, b, xs, rfl, rfl, ha, hb, q⟩ := h
  cases rx
  cases ry
  obtain ⟨its, r1, p1, _⟩ := I.list ha
  obtain ⟨jts, r2, p2, _⟩ := I.list hb
  have l1 := r1.length
  have l2 := r2.length
  by_cases e : xs = []
  · subst e
    have z1 : its.toArray.size = 0 := by rw [List.size_toArray, ← l1]; rfl
    refine SeqAt.RcNeAt.lists (e := fun _ => true) p1.isList p2.isList (by rw [z1, List.size_toArray, ← l2]; rfl) (by omega) (fun j h1 => absurd h1 (by omega)) _ _ _ _ ?_
    rw [z1]
    exact ⟨.bl false, H, I, rfl, q⟩
  · refine SeqAt.RcNeAt.lists_lengths p1.isList p2.isList ?_ (by omega) _ _ _ _ ?_
    · rw [List.size_toArray, List.size_toArray, ← l1, ← l2]
      cases xs with
      | nil => exact absurd rfl e
      | cons _ _ => rfl
    · cases xs with
      | nil => exact absurd rfl e
      | cons _ _ => exact ⟨.bl true, H, I, rfl, q⟩
theorem g_eqE {K : PySem.W.Frag} {H : Hp} {Q : VK} {a b : Addr} {xs : List V} (ha : H a = some (.lst xs)) (hb : H b = some (.lst [])) (q : Q (.bl xs.isEmpty) H) : oEqE K (.ref a) (.ref b) H Q := ⟨a, b, xs, rfl, rfl, SqL.of ha, SqL.of hb, q⟩
theorem g_neE {K : PySem.W.Frag} {H : Hp} {Q : VK} {a b : Addr} {xs : List V} (ha : H a = some (.lst xs)) (hb : H b = some (.lst [])) (q : Q (.bl (!xs.isEmpty)) H) : oNeE K (.ref a) (.ref b) H Q := ⟨a, b, xs, rfl, rfl, SqL.of ha, SqL.of hb, q⟩
/-! ### xs[i] op= e -/
def rGetL (K : PySem.W.Frag) : V → V → Hp → VK → Prop := fun x y H Q => ∃ p xs i z, x = .ref p ∧ y = .int i ∧ SqL K H p xs ∧ 0 ≤ i ∧ atI xs i = some z ∧ Q z H
theorem pget_list {X : Cx} : PGet X (rGetL X.K) := by
  intro pins s σ H x y v u Q I rx ry h
  obtain ⟨p, xs, i, z, rfl, rfl, hq, h0, he, q⟩ := h
  cases rx
  obtain ⟨t, rfl⟩ := ry
  obtain ⟨its, r, pl, hz⟩ := I.list hq
  obtain ⟨j, h1, h2, h3, h4, h5⟩ := atI_get he
  obtain ⟨w, ew, rw'⟩ := r.get h2
  have hl := r.length
  have hn := line63
  have hj : i.toNat = j := by
    rw [seqIndex_of h0 h5] at h1
    exact Option.some.inj h1
  exact wpAny_getItem_list pl.isList h0 (by omega) (by rw [hj]; simpa using ew) ⟨z, H, I, rw', q⟩
theorem g_augS {to ti te : TE} {tget : V → V → Hp → VK → Prop} {tip : TIp} {tset : TSet} {D : Ends} {σ : L2.St} {H : Hp} (h : to σ H fun o H1 => ti σ H1 fun i H2 => tget o i H2 fun x H3 => te σ H3 fun y H4 => tip x y H4 fun z H5 => tset o i z H5 fun H6 => D.nx σ H6) : tAugS to ti te tget tip tset D σ H := h
theorem g_getL {K : PySem.W.Frag} {H : Hp} {Q : VK} {p : Addr} {xs : List V} {i : Int} {z : V} (h : H p = some (.lst xs)) (h0 : 0 ≤ i) (e : atI xs i = some z) (q : Q z H) : rGetL K (.ref p) (.int i) H Q := ⟨p, xs, i, z, rfl, rfl, SqL.of h, h0, e, q⟩
theorem g_ipI {f : Int → Int → Int} {i j : Int} {H : Hp} {Q : VK} (q : Q (.int (f i j)) H) : ipI f (.int i) (.int j) H Q := ⟨i, j, rfl, rfl, q⟩
def ipM : TIp := fun x y H Q => ∃ i j, x = .int i ∧ y = .int j ∧ IntMulOk i j ∧ Q (.int (i * j)) H
theorem ip_mul {X : Cx} : PIp X .Mult ipM := by
  intro pins s σ H x y v u Q I r1 r2 h
  obtain ⟨i, j, e1, e2, hm, q⟩ := h
  subst e1; subst e2
  obtain ⟨t, rfl⟩ := r1
  obtain ⟨t', rfl⟩ := r2
  exact imul_int ⟨.int _, H, I.tok _, ⟨_, rfl⟩, q⟩ hm
theorem g_ipM {i j : Int} {H : Hp} {Q : VK} (hm : IntMulOk i j) (q : Q (.int (i * j)) H) : ipM (.int i) (.int j) H Q := ⟨i, j, rfl, rfl, hm, q⟩
theorem g_ord {c : Nat} {H : Hp} {Q : VK} (q : Q (.int (c : Nat)) H) : (fun xs H Q => ∃ x, xs = [V.str x] ∧ x.length = 1 ∧ Q (.int (x.cps.getD 0 0 : Nat)) H : List V → Hp → VK → Prop) [.str ⟨#[c]⟩] H Q := ⟨_, rfl, rfl, q⟩
/-! ### other readings -/
theorem g_nt {A B : Prop} (h : B) : if (!true) = true then A else B := h
theorem g_nf {A B : Prop} (h : A) : if (!false) = true then A else B := h

theorem g_bm {K : PySem.W.Frag} {T : String} {r : V → List V → Hp → VK → Prop} {to : TE} {t : TA} {σ : L2.St} {H : Hp} {Q : VK} (h : to σ H fun x H1 => tyV K T x H1 ∧ t σ H1 fun vs H2 => r x vs H2 Q) : tBM K T r to t σ H Q := h
theorem g_app {H : Hp} {Q : VK} {l : Addr} {xs : List V} {y : V} (h : H l = some (.lst xs)) (hz : xs.length < sizeLine) (q : ∀ H', H' l = some (.lst (xs ++ [y])) → (∀ b, b ≠ l → H' b = H b) → Q .non H') : rAppend (.ref l) [y] H Q := ⟨l, xs, y, rfl, rfl, h, hz, q _ upd_same fun b hb => upd_ne hb⟩
theorem g_ext {H : Hp} {Q : VK} {l b : Addr} {xs zs : List V} (h : H l = some (.lst xs)) (hb : H b = some (.lst zs)) (hz : xs.length + zs.length ≤ sizeLine) (q : ∀ H', H' l = some (.lst (xs ++ zs)) → (∀ b, b ≠ l → H' b = H b) → Q .non H') : rExtend (.ref l) [.ref b] H Q := ⟨l, b, xs, zs, rfl, rfl, h, hb, hz, q _ upd_same fun b hb => upd_ne hb⟩
theorem tyL {K : PySem.W.Frag} {H : Hp} {p : Addr} {xs : List V} (h : H p = some (.lst xs)) : tyV K "list" (.ref p) H := .inl ⟨rfl, _, SqL.of h⟩
theorem g_iStr {te : TE} {σ : L2.St} {H : Hp} {R : It → Hp → Prop} (h : te σ H fun v H1 => ∃ x, v = .str x ∧ R (Its x) H1) : iStr te σ H R := h
theorem atI_of {xs : List V} {i : Int} {v : V} (h0 : 0 ≤ i) (h : xs[i.toNat]? = some v) : atI xs i = some v := by
  have hl : i.toNat < xs.length := by
    by_cases e : i.toNat < xs.length
    · exact e
    · rw [List.getElem?_eq_none (by omega)] at h; cases h
  unfold atI
  have e : ixN xs.length i = some i.toNat := by unfold ixN; rw [if_pos h0, if_pos (by omega)]
  rw [e]
  exact h
theorem ixN_of {n : Nat} {i : Int} (h0 : 0 ≤ i) (h : i < n) : ixN n i = some i.toNat := by unfold ixN; rw [if_pos h0, if_pos (by omega)]
theorem g_aug {i : Nat} {te : TE} {tip : TIp} {D : Ends} {σ : L2.St} {H : Hp} (h : ∃ v, σ[i]? = some (some v) ∧ te σ H fun y H1 => tip v y H1 fun z H2 => D.nx (σ.set i (some z)) H2) : tAug i te tip D σ H := h
theorem g_fldaug {K : PySem.W.Frag} {ta tv : TE} {rd : R2} {f : Str} {D : Ends} {σ : L2.St} {H : Hp} (h : ta σ H fun x H1 => ∃ a C dx fs v, x = .ref a ∧ H1 a = some (.ins C dx fs) ∧ Cls K C ∧ NoAttr K C f ∧ fs.lookup f = some v ∧ tv σ H1 fun y H2 => rd v y H2 fun z H3 => ∃ dx' fs', H3 a = some (.ins C dx' fs') ∧ fs'.length < 1000 ∧ D.nx σ (upd H3 a (.ins C dx' (putF f z fs')))) : sFldAug K ta tv rd f D σ H := h
theorem pg_tupE {X : Cx} (K : PySem.W.Frag) {es : List Expr} {k : Nat} {t : TGs} {n : Nat} {pos : Pos} (hK : X.K = K) (hc : X.calm = true) (h : PGs X es t)
    (hn : (assignEach es X.env).length = n := by rfl) (hst : (assignEach es X.env).findIdx? (·.1) = none := by rfl) : PG X (.Tuple es k pos) (gTup K n t) := hK ▸ pg_tup hc h hn hst
/-! ### loops over enumerate, over a text -/
theorem for_enum {K : PySem.W.Frag} {a : Addr} {xs : List V} {g : TG} {tb : TS} {D : Ends} {σ : L2.St} {H : Hp} (Pv : Nat → L2.St → Hp → Prop) (h0 : Pv 0 σ H) (hl : ∀ i σ H, i ≤ xs.length → Pv i σ H → SqL K H a xs)
    (hs : ∀ i x σ H T, xs[i]? = some x → Pv i σ H → H T = none → g (.ref T) σ (upd H T (.tup [.int (i : Nat), x])) fun σ2 H2 => tb { D with nx := Pv (i + 1), ct := Pv (i + 1), bk := D.nx } σ2 H2) (hd : ∀ σ H, Pv xs.length σ H → D.nx σ H) :
    ∃ W : Nat → Nat → L2.St → Hp → Prop, (∃ m, W 0 m σ H) ∧ ∀ i m σ H, W i m σ H →
      ((Ite K a).stop i H ∧ D.nx σ H) ∨ ((Ite K a).go i H ∧ ∃ N : L2.St → Hp → Prop, (∀ σ' H', N σ' H' → ∃ m', m' < m ∧ W (i + 1) m' σ' H') ∧ ∀ x H', (Ite K a).yld i H x H' → g x σ H' fun σ2 H2 => tb { D with nx := N, ct := N, bk := D.nx } σ2 H2) := by
  refine ⟨fun i m σ H => m = xs.length - i ∧ i ≤ xs.length ∧ Pv i σ H, ⟨xs.length, by simp, Nat.zero_le _, h0⟩, ?_⟩
  rintro i m σ H ⟨rfl, hi, p⟩
  have q := hl i σ H hi p
  by_cases hlt : i < xs.length
  · refine .inr ⟨⟨xs, xs[i], q, by simp [hlt]⟩, Pv (i + 1), fun σ' H' p' => ⟨xs.length - (i + 1), by omega, rfl, hlt, p'⟩, fun x H' y => ?_⟩
    obtain ⟨T, y, rfl, hT, rfl, hy⟩ := y
    exact hs i y σ _ T (hy xs q) p hT
  · have e : i = xs.length := by omega
    subst e
    exact .inl ⟨⟨xs, q, Nat.le_refl _⟩, hd σ H p⟩
theorem lc_enum {K : PySem.W.Frag} {a : Addr} {xs : List V} {g : TG} {tt : TT} {te : TE} {vs : List Nat} {σ : L2.St} {H1 : Hp} {D : Addr} {Qd : Hp → Prop} (Pv : Nat → Hp → Prop) (h0 : Pv 0 (upd H1 D (.lst []))) (hl : ∀ i H, i ≤ xs.length → Pv i H → SqL K H a xs)
    (hs : ∀ i x H T, xs[i]? = some x → Pv i H → H T = none → g (.ref T) (wipe σ vs) (upd H T (.tup [.int (i : Nat), x])) fun σ2 H2 => wipe σ2 vs = wipe σ vs ∧ tt σ2 H2 fun b H3 =>
      if b = true then te σ2 H3 fun y H4 => ∃ acc, H4 D = some (.lst acc) ∧ acc.length < sizeLine ∧ Pv (i + 1) (upd H4 D (.lst (acc ++ [y]))) else Pv (i + 1) H3) (hd : ∀ H, Pv xs.length H → Qd H) :
    ∃ W : Nat → Nat → Hp → Prop, (∃ m, W 0 m (upd H1 D (.lst []))) ∧ ∀ i m H, W i m H →
      ((Ite K a).stop i H ∧ Qd H) ∨ ((Ite K a).go i H ∧ ∃ Nx : Hp → Prop, (∀ H', Nx H' → ∃ m', m' < m ∧ W (i + 1) m' H') ∧ ∀ x H', (Ite K a).yld i H x H' → g x (wipe σ vs) H' fun σ2 H2 => wipe σ2 vs = wipe σ vs ∧ tt σ2 H2 fun b H3 =>
        if b = true then te σ2 H3 fun y H4 => ∃ acc, H4 D = some (.lst acc) ∧ acc.length < sizeLine ∧ Nx (upd H4 D (.lst (acc ++ [y]))) else Nx H3) := by
  refine ⟨fun i m H => m = xs.length - i ∧ i ≤ xs.length ∧ Pv i H, ⟨xs.length, by simp, Nat.zero_le _, h0⟩, ?_⟩
  rintro i m H ⟨rfl, hi, p⟩
  have q := hl i H hi p
  by_cases hlt : i < xs.length
  · refine .inr ⟨⟨xs, xs[i], q, by simp [hlt]⟩, Pv (i + 1), fun H' p' => ⟨xs.length - (i + 1), by omega, rfl, hlt, p'⟩, fun x H' y => ?_⟩
    obtain ⟨T, y, rfl, hT, rfl, hy⟩ := y
    exact hs i y _ T (hy xs q) p hT
  · have e : i = xs.length := by omega
    subst e
    exact .inl ⟨⟨xs, q, Nat.le_refl _⟩, hd H p⟩
theorem for_str {x : Str} {g : TG} {tb : TS} {D : Ends} {σ : L2.St} {H : Hp} (Pv : Nat → L2.St → Hp → Prop) (h0 : Pv 0 σ H)
    (hs : ∀ i c σ H, x.cps[i]? = some c → Pv i σ H → g (.str ⟨#[c]⟩) σ H fun σ2 H2 => tb { D with nx := Pv (i + 1), ct := Pv (i + 1), bk := D.nx } σ2 H2) (hd : ∀ σ H, Pv x.cps.size σ H → D.nx σ H) :
    ∃ W : Nat → Nat → L2.St → Hp → Prop, (∃ m, W 0 m σ H) ∧ ∀ i m σ H, W i m σ H →
      ((Its x).stop i H ∧ D.nx σ H) ∨ ((Its x).go i H ∧ ∃ N : L2.St → Hp → Prop, (∀ σ' H', N σ' H' → ∃ m', m' < m ∧ W (i + 1) m' σ' H') ∧ ∀ x' H', (Its x).yld i H x' H' → g x' σ H' fun σ2 H2 => tb { D with nx := N, ct := N, bk := D.nx } σ2 H2) := by
  refine ⟨fun i m σ H => m = x.cps.size - i ∧ i ≤ x.cps.size ∧ Pv i σ H, ⟨x.cps.size, by simp, Nat.zero_le _, h0⟩, ?_⟩
  rintro i m σ H ⟨rfl, hi, p⟩
  by_cases hlt : i < x.cps.size
  · refine .inr ⟨hlt, Pv (i + 1), fun σ' H' p' => ⟨x.cps.size - (i + 1), by omega, rfl, hlt, p'⟩, fun x' H' y => ?_⟩
    obtain ⟨rfl, c, hc, rfl⟩ := y
    exact hs i c σ _ hc p
  · have e : i = x.cps.size := by omega
    subst e
    exact .inl ⟨Nat.le_refl _, hd σ H p⟩
end Up

set_option Elab.async false
set_option linter.all false
set_option maxRecDepth 100000
set_option maxHeartbeats 4000000
namespace Up
open PySem PySem.Spec PyProof.Rows L2
/-! ### calls with keywords: o.m(e, k = v), C(k = v) -/
def tMethK (C : Addr) (m : Str) (n l : Nat) (sp : Sp) (gV : List V → List V → List V) (E : XK) (ta : TE) (t tk : TA) : TE := fun σ H Q => ta σ H fun x H1 => ∃ a dx fs, x = .ref a ∧ H1 a = some (.ins C dx fs) ∧ fs.lookup m = none ∧
  t σ H1 fun vs H2 => tk σ H2 fun zs H3 => vs.length + 1 = n ∧ zs.length = l ∧ sp (gV (x :: vs) zs) H3 Q E
def MakeRK (C : Addr) (sp : Sp) (gV : List V → List V → List V) (vs zs : List V) (H : Hp) (Q : VK) (E : XK) : Prop := ∀ x dx H', H x = none → H dx = none → dx ≠ x → Same H H' → H' x = some (.ins C dx []) → (∀ b, b ≠ x → b ≠ dx → H' b = H b) →
  sp (gV (.ref x :: vs) zs) H' (fun v H2 => v = .non ∧ Q (.ref x) H2) E
def tMakeKN (C : Addr) (n l : Nat) (sp : Sp) (gV : List V → List V → List V) (E : XK) (t tk : TA) : TE := fun σ H Q => t σ H fun vs H1 => tk σ H1 fun zs H2 => vs.length = n ∧ zs.length = l ∧ MakeRK C sp gV vs zs H2 Q E
section
variable (P : Program) (w : World) (K : PySem.W.Frag) (mg : Str → Option Value) (base : Heap)
def MtK (CX : CXT) (k : Nat) (C : Addr) (m : Str) (ps : List Str) (n : Nat) (ks : List Str) (gV : List V → List V → List V) (sp : Sp) : Prop :=
  ∃ f fd g, FnOk P w K mg base CX k f fd ps sp ∧ Meth K C m f ∧ KBn K fd ps n ks g gV ∧ Cls K C
def CnK (CX : CXT) (k : Nat) (x : Str) (C : Addr) (ps : List Str) (n : Nat) (ks : List Str) (gV : List V → List V → List V) (sp : Sp) : Prop :=
  ∃ f fd g, FnOk P w K mg base CX k f fd ps sp ∧ Mk K C f ∧ mg x = some (.ref C) ∧ KBn K fd ps (n + 1) ks g gV
end
section
variable {X : Cx} {CX : CXT} {k n : Nat} {C : Addr} {x m : Str} {ps ks : List Str} {sp : Sp} {E : XK} {p pos apos : Pos} {e o : Expr} {es : List Expr} {kws : List Keyword} {ta : TE} {t tk : TA} {gV : List V → List V → List V}
theorem pe_mtK {pl : Sem Bool} (F : MtK X.prog X.w X.K X.mg X.base CX k C m ps n ks gV sp) (hr : Room k X.A) (hx : Passes CX X E) (he : PE X o ta) (ha : PA X (e :: es) t) (hkw : PK X kws tk)
    (hall : (backToKw pos (keywordEach kws X.env)).all (·.1.isSome) = true := by rfl) (hks : (backToKw pos (keywordEach kws X.env)).filterMap (·.1) = ks := by rfl)
    (hst : starEach (e :: es) X.env = (false, eval e X.env) :: starEach es X.env := by rfl) (hpl : ((backTo pos (starEach (e :: es) X.env)).any (·.1) || (backToKw pos (keywordEach kws X.env)).any (·.1.isNone)) = false := by rfl)
    (ht : eval (.Call (.Attribute o m apos) (e :: es) kws pos) X.env = (do
      let ov ← eval o X.env
      standAt apos.atName
      let (f, first) ← holding [ov] (getMethod ov m pl)
      callWith pos f first (backTo pos (starEach (e :: es) X.env)) (backToKw pos (keywordEach kws X.env))) := by rfl) :
    PE X (.Call (.Attribute o m apos) (e :: es) kws pos) (tMethK C m n ks.length sp gV E ta t tk) := by
  obtain ⟨f, fd, g, F, hm, hb, c⟩ := F
  refine ⟨fun pins s σ H Q I h => ?_⟩
  refine PySem.W.methodCall_KW (pl := pl) (thn (he.run pins s σ H _ I h) fun u s1 ⟨x, H1, I1, rx, a, dx, fs, ex, ea, l, q⟩ => ?_) ht
  subst ex
  obtain rfl : u = Value.ref a := rx
  refine getmeth_ok I1 ea c hm l ?_
  refine PySem.W.callWith_KW (first := [.ref a]) (h₀ := X.base) I.ok.mod.kin hm.kp hall (thn (ha.run pos pins s1 σ H1 _ I1 q) fun us s2 ⟨vs, H2, I2, r, q2⟩ => ?_) hpl hst
  refine thn (hkw.run pos pins s2 σ H2 _ I2 q2) fun ws s3 ⟨zs, H3, I3, rz, l1, l2, q3⟩ => ⟨I3.kIn, ?_⟩
  rw [hks]
  exact run_fnN (us := .ref a :: us) (vs := .ref a :: vs) F hr hb hx I3 (.cons rfl r) rz l1 l2 q3
theorem pe_mtK0 {pl : Sem Bool} (F : MtK X.prog X.w X.K X.mg X.base CX k C m ps n ks gV sp) (hr : Room k X.A) (hx : Passes CX X E) (he : PE X o ta) (hkw : PK X kws tk)
    (hall : (backToKw pos (keywordEach kws X.env)).all (·.1.isSome) = true := by rfl) (hks : (backToKw pos (keywordEach kws X.env)).filterMap (·.1) = ks := by rfl)
    (hpl : ((backTo pos (starEach [] X.env)).any (·.1) || (backToKw pos (keywordEach kws X.env)).any (·.1.isNone)) = false := by rfl)
    (ht : eval (.Call (.Attribute o m apos) [] kws pos) X.env = (do
      let ov ← eval o X.env
      standAt apos.atName
      let (f, first) ← holding [ov] (getMethod ov m pl)
      callWith pos f first (backTo pos (starEach [] X.env)) (backToKw pos (keywordEach kws X.env))) := by rfl) :
    PE X (.Call (.Attribute o m apos) [] kws pos) (tMethK C m n ks.length sp gV E ta tNil tk) := by
  obtain ⟨f, fd, g, F, hm, hb, c⟩ := F
  refine ⟨fun pins s σ H Q I h => ?_⟩
  refine PySem.W.methodCall_KW (pl := pl) (thn (he.run pins s σ H _ I h) fun u s1 ⟨x, H1, I1, rx, a, dx, fs, ex, ea, l, q⟩ => ?_) ht
  subst ex
  obtain rfl : u = Value.ref a := rx
  refine getmeth_ok I1 ea c hm l ?_
  refine PySem.W.callWith_KW0 (first := [.ref a]) (h₀ := X.base) I.ok.mod.kin hm.kp hall ?_ hpl
  refine thn (hkw.run pos pins s1 σ H1 _ I1 q) fun ws s3 ⟨zs, H3, I3, rz, l1, l2, q3⟩ => ⟨I3.kIn, ?_⟩
  rw [hks]
  exact run_fnN (us := [.ref a]) (vs := [.ref a]) F hr hb hx I3 (.cons rfl .nil) rz l1 l2 q3
theorem pe_cnK0 (F : CnK X.prog X.w X.K X.mg X.base CX k x C ps 0 ks gV sp) (hr : Room (k + 1) X.A) (hx : Passes CX X E) (hkw : PK X kws tk) (hg : Gl X x := by rfl)
    (hall : (backToKw pos (keywordEach kws X.env)).all (·.1.isSome) = true := by rfl) (hks : (backToKw pos (keywordEach kws X.env)).filterMap (·.1) = ks := by rfl) (hdb : (x == ("__debug__" : Str)) = false := by decide)
    (hpl : ((backTo pos (starEach [] X.env)).any (·.1) || (backToKw pos (keywordEach kws X.env)).any (·.1.isNone)) = false := by rfl) :
    PE X (.Call (.Name x p) [] kws pos) (tMakeKN C 0 ks.length sp gV E tNil tk) := by
  obtain ⟨f, fd, g, F, M, hm, hb⟩ := F
  refine ⟨fun pins s σ H Q I h => ?_⟩
  refine wpAny_Call_Name_kw (ld_glob I hg hm ?_ hdb)
  refine PySem.W.callWith_KW0 (h₀ := X.base) I.ok.mod.kin M.kp hall ?_ hpl
  refine thn (hkw.run pos pins s σ H _ I h) fun ws s2 ⟨zs, H2, I2, rz, l1, l2, q2⟩ => ⟨I2.kIn, ?_⟩
  rw [hks]
  refine run_makeK (us := []) (vs := []) M F hr hb hx I2 .nil rz rfl l2 fun y dy n1 n2 ne => q2 y dy _ n1 n2 ne (fun b u z => ?_) upd_same fun b hb1 hb2 => ?_
  · rw [upd_ne (ne_of_none z n1), upd_ne (ne_of_none z n2)]; exact z
  · rw [upd_ne hb1, upd_ne hb2]
end
/-- no defaults -/
theorem kbnN {K : PySem.W.Frag} {x qual : Str} {params : Arguments} {body : List Stmt} {scope : Scope} {f : Addr} {fd : FuncData} {ps : List Str} {n : Nat} {ks : List Str} {g : {α : Type} → List α → List α → List α} (F : FunD K x qual params body scope [] [] f fd)
    (hrel : ∀ {vs zs : List V} {us ws : List Value}, Vals vs us → Vals zs ws → Vals (g vs zs) (g us ws))
    (h : ∀ (kV doc pm : Value) (an : Option Addr) (cdv ct : Value) (us ws : List Value), us.length = n → ws.length = ks.length → bindArgs (PySem.W.fnOf x qual params body scope .none kV doc pm an cdv ct) ⟨us, ks.zip ws⟩ = pure (ps.zip (g us ws))) : KBn K fd ps n ks (fun us ws => g us ws) (fun vs zs => g vs zs) := by
  obtain ⟨oc, od, dV, kV, doc, pm, an, cdv, ct, osl, rfl, lk, hcd, hD, hK⟩ := F.ex
  rcases hD with ⟨_, rfl⟩ | ⟨e, _⟩
  · exact ⟨fun s us ws X l1 l2 => .of_eq (h kV doc pm an cdv ct us ws l1 l2), fun r1 r2 => hrel r1 r2⟩
  · exact absurd rfl e
theorem g_iRng2 {ta : TA} {σ : L2.St} {H : Hp} {R : It → Hp → Prop} (h : ta σ H fun vs H1 => ∃ i j : Int, vs = [.int i, .int j] ∧ (-(2 ^ 62) ≤ i ∧ i < 2 ^ 62 ∧ -(2 ^ 62) ≤ j ∧ j < 2 ^ 62) ∧ R (Itr i (j - i).toNat) H1) : iRng2 ta σ H R := h
section
variable {σ : L2.St} {H : Hp} {Q : VK} {C : Addr} {m : Str} {n l : Nat} {sp : Sp} {gV : List V → List V → List V} {E : XK} {ta : TE} {t tk : TA}
theorem g_methK (h : ta σ H fun x H1 => ∃ a dx fs, x = .ref a ∧ H1 a = some (.ins C dx fs) ∧ fs.lookup m = none ∧ t σ H1 fun vs H2 => tk σ H2 fun zs H3 => vs.length + 1 = n ∧ zs.length = l ∧ sp (gV (x :: vs) zs) H3 Q E) : tMethK C m n l sp gV E ta t tk σ H Q := h
theorem g_makeK (h : t σ H fun vs H1 => tk σ H1 fun zs H2 => vs.length = n ∧ zs.length = l ∧ MakeRK C sp gV vs zs H2 Q E) : tMakeKN C n l sp gV E t tk σ H Q := h
end
end Up

set_option Elab.async false
set_option linter.all false
set_option maxRecDepth 100000
set_option maxHeartbeats 4000000
namespace Up
open PySem PySem.Spec PyProof.Rows L2
/-! ### x is True, x is False; f-strings; xs[::-1] -/
def rIsBool : R2 := fun x y H Q => ∃ b, y = .bl b ∧ Q (.bl (decide (x = .bl b))) H
def rNotBool : R2 := fun x y H Q => ∃ b, y = .bl b ∧ Q (.bl (!decide (x = .bl b))) H
section
variable {X : Cx}
theorem op_isBool : OpR X (compareOp .Is) rIsBool := by
  intro pins s σ H x y v u Q I rx ry h
  obtain ⟨b, rfl, q⟩ := h
  cases (show u = Value.bool b from ry)
  by_cases e : x = .bl b
  · subst e
    cases (show v = Value.bool b from rx)
    exact wpAny_is_self rfl ⟨.bl true, H, I, rfl, by simpa using q⟩
  · have ne : v ≠ Value.bool b := fun z => by
      subst z
      cases x with
      | bl c => exact e (by cases (show Value.bool b = Value.bool c from rx); rfl)
      | _ => first | (obtain ⟨t, z⟩ := rx; cases z) | cases rx
    exact wpAny_is_other (by cases x <;> first | (obtain ⟨t, rfl⟩ := rx; rfl) | (cases rx; rfl)) ne ⟨.bl false, H, I, rfl, by simpa [e] using q⟩
theorem op_notBool : OpR X (compareOp .IsNot) rNotBool := by
  intro pins s σ H x y v u Q I rx ry h
  obtain ⟨b, rfl, q⟩ := h
  cases (show u = Value.bool b from ry)
  by_cases e : x = .bl b
  · subst e
    cases (show v = Value.bool b from rx)
    exact wpAny_isNot_self rfl ⟨.bl false, H, I, rfl, by simpa using q⟩
  · have ne : v ≠ Value.bool b := fun z => by
      subst z
      cases x with
      | bl c => exact e (by cases (show Value.bool b = Value.bool c from rx); rfl)
      | _ => first | (obtain ⟨t, z⟩ := rx; cases z) | cases rx
    exact wpAny_isNot_other (by cases x <;> first | (obtain ⟨t, rfl⟩ := rx; rfl) | (cases rx; rfl)) ne ⟨.bl true, H, I, rfl, by simpa [e] using q⟩
end
theorem upd_sm {H H4 : Hp} {p : Addr} {o : HO} (S : Same H H4) (h : H p = none) : Same H (upd H4 p o) := fun b u e => by rw [upd_ne (ne_of_none e h)]; exact S b u e
section
variable {σ : L2.St} {H : Hp} {Q : VK} {te : TE}
theorem g_isBool {x : V} {b : Bool} (h : Q (.bl (decide (x = .bl b))) H) : rIsBool x (.bl b) H Q := ⟨b, rfl, h⟩
theorem g_notBool {x : V} {b : Bool} (h : Q (.bl (!decide (x = .bl b))) H) : rNotBool x (.bl b) H Q := ⟨b, rfl, h⟩
theorem g_joined {ts : List TE} (h : tJs ts Str.empty σ H fun out H1 => Q (.str out) H1) : (fun σ H Q => tJs ts Str.empty σ H fun out H1 => Q (.str out) H1 : TE) σ H Q := h
theorem g_js {t : TE} {ts : List TE} {acc : Str} {R : Str → Hp → Prop} (h : t σ H fun x H1 => ∃ y : Str, x = .str y ∧ (acc ++ y).length ≤ sizeLine ∧ tJs ts (acc ++ y) σ H1 R) : tJs (t :: ts) acc σ H R := h
theorem g_js0 {acc : Str} {R : Str → Hp → Prop} (h : R acc H) : tJs [] acc σ H R := h
theorem g_jsS {acc a : Str} {T : Str → Prop} (hz : (acc ++ a).length ≤ sizeLine) (h : T a) : ∃ y : Str, V.str a = .str y ∧ (acc ++ y).length ≤ sizeLine ∧ T y := ⟨a, rfl, hz, h⟩
theorem g_fmt (h : te σ H fun x H1 => (∃ y : Str, x = .str y ∧ y.length ≤ sizeLine ∧ Q (.str y) H1) ∨ ∃ i : Int, x = .int i ∧ i.natAbs.log2 < 1920 ∧ Q (.str (toString i)) H1) : tFmt te σ H Q := h
theorem g_fmtS {y : Str} {T : Str → Prop} {U : Prop} (hz : y.length ≤ sizeLine) (h : T y) : (∃ y', V.str y = .str y' ∧ y'.length ≤ sizeLine ∧ T y') ∨ U := .inl ⟨y, rfl, hz, h⟩
theorem g_revL {K : PySem.W.Frag} (h : te σ H fun x H1 => ∃ a xs, x = .ref a ∧ SqL K H1 a xs ∧ ∀ p, H1 p = none → Q (.ref p) (upd H1 p (.lst xs.reverse))) : tRevL K te σ H Q := h
theorem g_callTy {r : List V → Hp → VK → Prop} {t : TA} (h : t σ H fun vs H1 => r vs H1 Q) : tCB r t σ H Q := h
theorem fstr_msg (x : Str) : ((Str.empty ++ x : Str)) = x := by
  show (⟨#[] ++ x.cps⟩ : Str) = x
  rw [Array.empty_append]
theorem un1 {n : Nat} (h : n + 64 < cLine) : n + 1 < cLine := by omega
theorem g_dgetR {td ty : TE} (h : td σ H fun x H1 => ty σ H1 fun y H2 => ∃ a v, x = .ref a ∧ DGet H2 a y (some v) ∧ Q v H2) : tDGet td ty σ H Q := h
/-- t[lo:hi], not the whole -/
def oSlT (K : PySem.W.Frag) : V → Option Int → Option Int → Hp → VK → Prop := fun x lo hi H Q => ∃ a xs, x = .ref a ∧ SqT K H a xs ∧ ¬ (HT.sIx xs.length 0 lo = 0 ∧ HT.sIx xs.length xs.length hi = xs.length) ∧ NewAt H (.tup (cutV xs lo hi)) Q
theorem sl_tupN {X : Cx} : SlR X (oSlT X.K) := by
  intro pins s σ H x v vl vu lo hi sl Q I rx hs pl pu h
  obtain ⟨a, xs, e, hq, hw, q⟩ := h
  exact sl_tup pins s σ H x v vl vu lo hi sl Q I rx hs pl pu ⟨a, xs, e, hq, hw, q.all⟩
theorem g_self {x : V} {A B : Prop} (h : A) : if decide (x = x) = true then A else B := by rw [if_pos (by simp)]; exact h
theorem g_selfN {x : V} {A B : Prop} (h : B) : if (!decide (x = x)) = true then A else B := by rw [if_neg (by simp)]; exact h
theorem g_rN {a : Addr} {A B : Prop} (h : B) : if decide (V.ref a = V.non) = true then A else B := by rw [if_neg (by simp)]; exact h
theorem g_rNN {a : Addr} {A B : Prop} (h : A) : if (!decide (V.ref a = V.non)) = true then A else B := by rw [if_pos (by simp)]; exact h
theorem g_iN {a : Int} {A B : Prop} (h : B) : if decide (V.int a = V.non) = true then A else B := by rw [if_neg (by simp)]; exact h
theorem g_iNN {a : Int} {A B : Prop} (h : A) : if (!decide (V.int a = V.non)) = true then A else B := by rw [if_pos (by simp)]; exact h
theorem g_sN {a : Str} {A B : Prop} (h : B) : if decide (V.str a = V.non) = true then A else B := by rw [if_neg (by simp)]; exact h
theorem g_sNN {a : Str} {A B : Prop} (h : A) : if (!decide (V.str a = V.non)) = true then A else B := by rw [if_pos (by simp)]; exact h
theorem g_bN {a : Bool} {A B : Prop} (h : B) : if decide (V.bl a = V.non) = true then A else B := by rw [if_neg (by simp)]; exact h
theorem g_bNN {a : Bool} {A B : Prop} (h : A) : if (!decide (V.bl a = V.non)) = true then A else B := by rw [if_pos (by simp)]; exact h
end
end Up

set_option Elab.async false
set_option linter.all false
set_option maxRecDepth 100000
set_option maxHeartbeats 4000000
set_option exponentiation.threshold 200000
namespace Up
open PySem PySem.Spec PyProof.Rows L2
/-! ### text * int, any int -/
def repS (z : Str) (n : Int) : Str := if n < 1 then Str.empty else if (n == 1 || z.length == 0) = true then z else mulStr z n.toNat
def oMulT : R2 := fun x y H Q => ∃ (z : Str) (n : Int), x = .str z ∧ y = .int n ∧ -100000 ≤ n ∧ n ≤ 100000 ∧ z.length ≤ 10 ∧ z.length * n.toNat ≤ 100000 ∧ (mulStr z n.toNat).length ≤ 100000 ∧ Q (.str (repS z n)) H
section
variable {X : Cx}
theorem op_mulT : OpR X (binaryOp .Mult) oMulT := by
  intro pins s σ H x y v u Q I rx ry h
  obtain ⟨z, n, rfl, rfl, h1, h2, h4, h5, h6, q⟩ := h
  obtain ⟨t, rfl⟩ := rx
  obtain ⟨tk, rfl⟩ := ry
  refine PySem.P.mul_str (by rw [decide_eq_false (by omega), decide_eq_false (by omega)]; rfl) (fun _ _ => ?_) (fun _ _ => ?_) ?_
  · have : (10 : Int) ≤ (2 ^ 63 - 1) / n := (Int.le_ediv_iff_mul_le (by omega)).mpr (by omega)
    omega
  · exact decide_eq_false (by show ¬ z.length * n.toNat > sizeLine; have : (100000 : Nat) ≤ sizeLine := by decide
                              omega)
  · unfold repS at q
    split
    · rename_i h
      rw [if_pos h] at q
      exact ⟨by decide, .str Str.empty, H, I.tok _, ⟨_, rfl⟩, q⟩
    · rename_i h
      rw [if_neg h] at q
      split
      · rename_i h3
        rw [if_pos h3] at q
        exact ⟨.str z, H, I, ⟨_, rfl⟩, q⟩
      · rename_i h3
        rw [if_neg h3] at q
        exact ⟨Nat.le_trans h6 (by decide), .str (mulStr z n.toNat), H, I.tok _, ⟨_, rfl⟩, q⟩
end
theorem mul_arr (c : Array Nat) : ∀ (n : Nat) (a : Array Nat), ((List.replicate n c).foldl (· ++ ·) a).size = a.size + n * c.size
  | 0, a => by simp
  | n + 1, a => by
    rw [List.replicate_succ, List.foldl_cons, mul_arr c n, Array.size_append, Nat.succ_mul]
    omega
theorem mul_len (z : Str) (n : Nat) : (mulStr z n).length = n * z.length := by
  show ((List.replicate n z.cps).foldl (· ++ ·) #[]).size = _
  rw [mul_arr]
  show 0 + n * z.cps.size = n * z.cps.size
  omega
theorem add_len (a b : Str) : (a ++ b).length = a.length + b.length := by
  show (a.cps ++ b.cps).size = _
  rw [Array.size_append]
  rfl
theorem rep_len (z : Str) (n : Int) : (repS z n).length = n.toNat * z.length := by
  unfold repS
  split
  · rename_i h
    rw [show n.toNat = 0 by omega, Nat.zero_mul]
    rfl
  · split
    · rename_i h
      rw [Bool.or_eq_true] at h
      rcases h with h | h
      · rw [show n.toNat = 1 by have := beq_iff_eq.mp h; omega, Nat.one_mul]
      · rw [beq_iff_eq.mp h, Nat.mul_zero]
    · exact mul_len z _
theorem g_mulT {H : Hp} {Q : VK} {z : Str} {n : Int} (h1 : -100000 ≤ n) (h2 : n ≤ 100000) (h3 : z.length ≤ 10) (h4 : z.length * n.toNat ≤ 100000) (q : Q (.str (repS z n)) H) : oMulT (.str z) (.int n) H Q :=
  ⟨z, n, rfl, rfl, h1, h2, h3, h4, by rw [mul_len, Nat.mul_comm]; exact h4, q⟩
/-! texts as values -/
section
variable {σ : L2.St} {H : Hp} {Q : VK} {te to ta tb : TE}
theorem g_m1 {r : V → List V → Hp → VK → Prop} (h : to σ H fun x H1 => (∃ a, x = .str a) ∧ te σ H1 fun y H2 => r x [y] H2 Q) : tM1 r to te σ H Q := h
theorem g_orT {K : PySem.W.Frag} (h : ta σ H fun x H1 => ∃ k, TruV K x H1 k ∧ if k = true then Q x H1 else tb σ H1 Q) : tOrT K ta tb σ H Q := h
theorem g_slS {z : Str} {lo hi : Option Int} (hz : z.length ≤ sizeLine) (q : Q (.str (cutS z lo hi)) H) : rSlS (.str z) lo hi H Q := ⟨z, rfl, hz, q⟩
end
end Up

set_option Elab.async false
set_option linter.all false
set_option maxRecDepth 100000
set_option maxHeartbeats 4000000
namespace Up
open PySem PySem.Spec PyProof.Rows L2
local macro_rules | `(tactic| walk_at "u") => `(tactic| first
  | with_reducible refine g_seq ?_
  | with_reducible refine g_asg ?_
  | with_reducible refine g_op ?_
  | ((with_reducible show tVar _ _ _ _); apply g_var; exact rfl)
  | with_reducible refine g_c ?_
  | with_reducible refine g_name ?_
  | with_reducible refine g_ifs ?_
  | with_reducible refine g_tt ?_
  | with_reducible refine g_tB ?_
  | with_reducible refine g_bl ?_
  | with_reducible refine g_ret ?_
  | with_reducible refine g_cb ?_
  | with_reducible refine g_cons ?_
  | with_reducible refine g_nil ?_
  | with_reducible refine g_call ?_
  | with_reducible refine g_and ?_
  | with_reducible refine g_or ?_
  | with_reducible refine g_not ?_
  | with_reducible refine g_andV ?_
  | with_reducible refine g_orV ?_
  | with_reducible refine g_notV ?_
  | with_reducible refine g_if ?_
  | with_reducible refine g_un ?_
  | with_reducible refine g_neg ?_
  | with_reducible refine g_addI ?_
  | with_reducible refine g_subI ?_
  | with_reducible refine g_subB ?_
  | with_reducible refine g_I0 ?_
  | with_reducible refine g_cmpI ?_
  | with_reducible refine g_eqI ?_
  | with_reducible refine g_neI ?_
  | with_reducible refine g_eqS ?_
  | with_reducible refine g_neS ?_
  | with_reducible refine g_eqB ?_
  | with_reducible refine g_neB ?_
  | with_reducible refine g_bits ?_
  | with_reducible refine g_bitsI ?_
  | with_reducible refine g_fld ?_
  | with_reducible refine g_tup ?_
  | with_reducible refine g_lst ?_
  | with_reducible refine g_gtup ?_
  | with_reducible refine g_make ?_
  | with_reducible refine g_lc ?_
  | with_reducible refine g_yesT ?_
  | with_reducible refine g_intI ?_
  | with_reducible refine g_intB ?_
  | with_reducible refine g_max2 ?_
  | with_reducible refine g_abs1 ?_
  | with_reducible refine g_for ?_
  | with_reducible refine g_iList ?_
  | with_reducible refine g_iTup ?_
  | with_reducible refine g_iRng1 ?_
  | with_reducible refine g_iEnum ?_
  | with_reducible refine g_slice ?_
  | with_reducible refine g_po0 ?_
  | with_reducible refine g_po1 ?_
  | with_reducible refine g_gsub ?_
  | with_reducible refine g_par ?_
  | with_reducible refine g_par2 ?_
  | with_reducible refine g_rfl ?_
  | with_reducible refine g_meth ?_
  | with_reducible refine g_gcons ?_
  | with_reducible refine g_gnil ?_
  | with_reducible refine g_gfld ?_
  | with_reducible refine g_sfld ?_
  | with_reducible refine g_drop ?_
  | with_reducible refine g_next ?_
  | with_reducible refine iteT ?_
  | with_reducible refine iteF ?_)
local macro_rules | `(tactic| walk_at "go") => `(tactic| (repeat walk_at "u"))

section
variable {P : Program} {w : World} {K : PySem.W.Frag} {mg : Str → Option Value} {base : Heap}
/-! is_plain -/
theorem sc_isplain : FnScope ["number"] ["number"] (defScope s_isplain) := ⟨rfl, rfl, rfl, by decide +kernel, rfl, by decide +kernel, by decide +kernel⟩
def sp_isplain (K : PySem.W.Frag) : Sp := fun vs H Q _ => ∃ x t, vs = [x] ∧ Kn K H x t ∧ Q (.bl (isI x)) H
theorem ok_isplain {f : Addr} {fd : FuncData} (F : FunD K "is_plain" "is_plain" (defArgs s_isplain) (defBody s_isplain) (defScope s_isplain) [] [] f fd) (B : Blt mg) : FnOk P w K mg base CX0 1 f fd ["number"] (sp_isplain K) := by
  refine F.ok sc_isplain (fun vs H Q E h => ?_) (fun cdv A outer s H vs Q E hr h => ?_)
  · obtain ⟨x, t, rfl, _⟩ := h; rfl
  · obtain ⟨x, t, rfl, hk, q⟩ := h
    refine ⟨_, PSs.nox (pss_one (ps_ret (pe_and (pe_callB call_isi (by rfl) B.isinstance (by decide +kernel) (pa_cons (pv 0) (pa_cons (pe_tyInt B) pa_nil))) (pe_one (pe_not (pe_callB call_isi (by rfl) B.isinstance (by decide +kernel) (pa_cons (pv 0) (pa_cons (pe_tyBool B) pa_nil)))))))), ?_⟩
    walk_at "go"
    refine g_isiInt hk ?_
    walk_at "go"
    cases x <;> first | exact iteF q | (refine iteT ?_; walk_at "go"; refine g_isiBool hk ?_; walk_at "go"; exact q)
/-! reduced -/
theorem sc_reduced : FnScope ["top", "power", "less"] ["top", "power"] (defScope s_reduced) := ⟨rfl, rfl, rfl, by decide +kernel, rfl, by decide +kernel, by decide +kernel⟩
/-- the lowest bit's place -/
def lowB (n : Int) : Int := ((Builtin.Int.intBits (Builtin.bitAnd n (0 - n)) : Nat) : Int) - 1
def redV : V → Int → V × Int
  | .int n, p => if n = 0 then (.int 0, 0) else (.int (n / 2 ^ (lowB n).toNat), p + lowB n)
  | v, _ => (v, 0)
def isIN (x : V) : Prop := x = .str "inf" ∨ x = .str "nan"
theorem inf_nan : ¬ (("inf" : Str) = "nan") := by decide +kernel
def sp_reduced : Sp := fun vs H Q _ => ∃ x p, vs = [x, .int p] ∧ (isIN x ∨ ∃ n, x = .int n ∧ (n ≠ 0 → 0 ≤ lowB n)) ∧ RetT H [(redV x p).1, .int (redV x p).2] Q
theorem ok_reduced {f : Addr} {fd : FuncData} (F : FunD K "reduced" "reduced" (defArgs s_reduced) (defBody s_reduced) (defScope s_reduced) [] [] f fd) (B : Blt mg) : FnOk P w K mg base CX0 1 f fd ["top", "power"] sp_reduced := by
  refine F.ok sc_reduced (fun vs H Q E h => ?_) (fun cdv A outer s H vs Q E hr h => ?_)
  · obtain ⟨x, t, rfl, _⟩ := h; rfl
  · obtain ⟨x, p, rfl, hx, q⟩ := h
    refine ⟨_, PSs.nox (pss_cons (ps_if (PW.pt (pw_or (pt_cmpR op_in_seq (pv 0) (pe_tupN (pa_cons pe_str (pa_cons pe_str pa_nil))) (by rfl)) (pw_or1 (pt_cmpR (op_oEq hr.units) (pv 0) pe_int (nomark _))))) (pss_one (ps_ret (pe_tupN (pa_cons (pv 0) (pa_cons pe_int pa_nil))))) pss_nil)
  (pss_cons (ps_set (i := 2) sc_reduced.nd rfl (Or.inl rfl) (pe_op op_oSub (pe_bits (pe_op op_oAnd (pv 0) (pe_op op_oSub pe_int (pv 0)))) pe_int))
  (pss_one (ps_ret (pe_tupN (pa_cons (pe_op op_oShr (pv 0) (pv 2)) (pa_cons (pe_op op_oAdd (pv 1) (pv 2)) pa_nil))))))), ?_⟩
    walk_at "go"
    refine g_new (sz rfl) fun a H1 na s1 ha _ => ?_
    rcases hx with (rfl | rfl) | ⟨n, rfl, hn⟩
    · refine ⟨a, _, rfl, .inr (SqT.of ha), rfl, rfl, ?_⟩
      walk_at "go"
      refine iteT ?_
      walk_at "go"
      refine g_new (sz rfl) fun b H2 nb s2 hb _ => ?_
      exact q _ _ (s1.free nb) (s1.trans s2) hb
    · refine ⟨a, _, rfl, .inr (SqT.of ha), rfl, rfl, ?_⟩
      walk_at "go"
      refine iteT ?_
      walk_at "go"
      refine g_new (sz rfl) fun b H2 nb s2 hb _ => ?_
      exact q _ _ (s1.free nb) (s1.trans s2) hb
    · refine ⟨a, _, rfl, .inr (SqT.of ha), rfl, rfl, ?_⟩
      walk_at "go"
      refine iteF ?_
      walk_at "go"
      refine g_ite (fun h0 => ?_) fun h0 => ?_
      · walk_at "go"
        refine g_new (sz rfl) fun b H2 nb s2 hb _ => ?_
        subst h0
        exact q _ _ (s1.free nb) (s1.trans s2) hb
      · walk_at "go"
        refine g_II (hn h0) ?_
        walk_at "go"
        refine g_new (sz rfl) fun b H2 nb s2 hb _ => ?_
        have e : redV (.int n) p = (.int (n / 2 ^ (lowB n).toNat), p + lowB n) := if_neg h0
        rw [e] at q
        exact q _ _ (s1.free nb) (s1.trans s2) hb
/-! fits -/
theorem sc_fits : FnScope ["top", "power"] ["top", "power"] (defScope s_fits) := ⟨rfl, rfl, rfl, by decide +kernel, rfl, by decide +kernel, by decide +kernel⟩
def fitsB (n p : Int) : Bool := (decide (n < 9007199254740992) && (decide (-1074 ≤ p) && decide (((Builtin.Int.intBits n : Nat) : Int) + p ≤ 1024))) || decide (n = 0)
def sp_fits : Sp := fun vs H Q _ => ∃ n p, vs = [.int n, .int p] ∧ Q (.bl (fitsB n p)) H
theorem ok_fits {f : Addr} {fd : FuncData} (F : FunD K "fits" "fits" (defArgs s_fits) (defBody s_fits) (defScope s_fits) [] [] f fd) (B : Blt mg) (i_ROOM : ∃ t, mg "ROOM" = some (.int 9007199254740992 t)) (i_LOWEST : ∃ t, mg "LOWEST" = some (.int (-1074) t)) (i_TOO_GREAT : ∃ t, mg "TOO_GREAT" = some (.int 1024 t)) :
    FnOk P w K mg base CX0 1 f fd ["top", "power"] sp_fits := by
  refine F.ok sc_fits (fun vs H Q E h => ?_) (fun cdv A outer s H vs Q E hr h => ?_)
  · obtain ⟨x, t, rfl, _⟩ := h; rfl
  · obtain ⟨n, p, rfl, q⟩ := h
    refine ⟨_, PSs.nox (pss_one (ps_ret (pe_or (pe_and (pe_cmpR op_oLt (pv 0) (pe_gint i_ROOM) (nomark _)) (pe_and (pe_cmpR op_oGe (pv 1) (pe_gint i_LOWEST) (nomark _)) (pe_one (pe_cmpR op_oLe (pe_op op_oAdd (pe_bits (pv 0)) (pv 1)) (pe_gint i_TOO_GREAT) (nomark _))))) (pe_one (pe_cmpR (op_oEq hr.units) (pv 0) pe_int (nomark _)))))), ?_⟩
    walk_at "go"
    unfold fitsB at q
    refine g_ite (fun h1 => ?_) fun h1 => ?_
    · walk_at "go"
      refine g_ite (fun h2 => ?_) fun h2 => ?_
      · walk_at "go"
        refine g_ite (fun h3 => ?_) fun h3 => ?_
        · simp only [h1, h2, h3, decide_true, Bool.and_self, Bool.true_or] at q
          exact q
        · walk_at "go"
          simp only [h1, h2, h3, decide_true, decide_false, Bool.and_false, Bool.and_self, Bool.false_or] at q
          exact q
      · walk_at "go"
        simp only [h1, h2, decide_true, decide_false, Bool.and_false, Bool.false_and, Bool.false_or] at q
        exact q
    · walk_at "go"
      simp only [h1, decide_false, Bool.false_and, Bool.false_or] at q
      exact q
/-! sign_of -/
theorem sc_signof : FnScope ["is_negative"] ["is_negative"] (defScope s_signof) := ⟨rfl, rfl, rfl, by decide +kernel, rfl, by decide +kernel, by decide +kernel⟩
def sgnB (b : Bool) : Int := if b then -1 else 1
def sp_signof : Sp := fun vs H Q _ => ∃ b, vs = [.bl b] ∧ Q (.int (sgnB b)) H
theorem ok_signof {f : Addr} {fd : FuncData} (F : FunD K "sign_of" "sign_of" (defArgs s_signof) (defBody s_signof) (defScope s_signof) [] [] f fd) : FnOk P w K mg base CX0 1 f fd ["is_negative"] sp_signof := by
  refine F.ok sc_signof (fun vs H Q E h => ?_) (fun cdv A outer s H vs Q E hr h => ?_)
  · obtain ⟨x, rfl, _⟩ := h; rfl
  · obtain ⟨b, rfl, q⟩ := h
    refine ⟨_, PSs.nox (pss_one (ps_ret (pe_ifExp (pt_val (pv 0)) (pe_un un_neg pe_int) pe_int))), ?_⟩
    walk_at "go"
    cases b
    · refine iteF ?_; walk_at "go"; exact q
    · refine iteT ?_; walk_at "go"; exact q
end
end Up

set_option Elab.async false
set_option linter.all false
set_option maxRecDepth 100000
set_option maxHeartbeats 4000000
namespace Up
open PySem
/-! ### numbers of bits, the lowest bit -/
def bitsN (n : Nat) : Nat := if n = 0 then 0 else n.log2 + 1
theorem intBits_nat (n : Nat) : Builtin.Int.intBits (n : Int) = bitsN n := by
  unfold Builtin.Int.intBits bitsN
  by_cases h : n = 0
  · subst h; rfl
  · rw [if_neg h, if_neg (by simpa using h)]
    simp
theorem intBits_neg (n : Int) : Builtin.Int.intBits n = bitsN n.natAbs := by
  unfold Builtin.Int.intBits bitsN
  by_cases h : n = 0
  · subst h; rfl
  · rw [if_neg (by simpa using h), if_neg (by simpa using h)]
theorem bits_lt (n : Nat) : n < 2 ^ bitsN n := by
  unfold bitsN
  by_cases h : n = 0
  · subst h; decide
  · rw [if_neg h]; exact Nat.lt_log2_self
theorem bits_ge {n : Nat} (h : n ≠ 0) : 2 ^ (bitsN n - 1) ≤ n := by
  unfold bitsN
  rw [if_neg h]
  exact Nat.log2_self_le h
theorem bits_le {n k : Nat} (h : n < 2 ^ k) : bitsN n ≤ k := by
  unfold bitsN
  by_cases h0 : n = 0
  · rw [if_pos h0]; exact Nat.zero_le _
  · rw [if_neg h0]
    exact (Nat.log2_lt h0).mpr h
theorem le_bits {n k : Nat} (h : 2 ^ k ≤ n) : k + 1 ≤ bitsN n := by
  rcases Nat.lt_or_ge k (bitsN n) with h1 | h1
  · exact h1
  · have h2 := bits_lt n
    have h3 : 2 ^ bitsN n ≤ 2 ^ k := Nat.pow_le_pow_right (by decide) h1
    omega
theorem bits_pow (k : Nat) : bitsN (2 ^ k) = k + 1 := by
  have h1 := le_bits (n := 2 ^ k) (k := k) (Nat.le_refl _)
  have h2 := bits_le (n := 2 ^ k) (k := k + 1) (Nat.pow_lt_pow_right (by decide) (Nat.lt_succ_self k))
  omega
theorem bits_pos {n : Nat} (h : n ≠ 0) : 1 ≤ bitsN n := by
  unfold bitsN; rw [if_neg h]; omega
def tz (n : Nat) : Nat := if h : n = 0 then 0 else if n % 2 = 1 then 0 else tz (n / 2) + 1
termination_by n
decreasing_by omega
theorem tz_odd {n : Nat} (h : n % 2 = 1) : tz n = 0 := by
  unfold tz
  rw [dif_neg (by omega), if_pos h]
theorem tz_even {n : Nat} (h0 : n ≠ 0) (h : n % 2 = 0) : tz n = tz (n / 2) + 1 := by
  rw [tz, dif_neg h0, if_neg (by omega)]
theorem land_two (a b : Nat) : a &&& b = 2 * ((a / 2) &&& (b / 2)) + (a % 2) * (b % 2) := by
  have h1 : (a &&& b) / 2 = (a / 2) &&& (b / 2) := Nat.and_div_two ..
  have h2 : (a &&& b) % 2 = (a % 2) * (b % 2) := by
    have e := Nat.and_mod_two_pow (a := a) (b := b) (n := 1)
    simp only [Nat.pow_one] at e
    rw [e]
    rcases Nat.mod_two_eq_zero_or_one a with ha | ha <;> rcases Nat.mod_two_eq_zero_or_one b with hb | hb <;> rw [ha, hb] <;> rfl
  omega
theorem land_pred : ∀ (n : Nat), n ≠ 0 → n &&& (n - 1) = n - 2 ^ tz n ∧ 2 ^ tz n ≤ n ∧ n / 2 ^ tz n % 2 = 1 ∧ n / 2 ^ tz n * 2 ^ tz n = n := by
  intro n
  induction n using Nat.strongRecOn with
  | _ n ih =>
    intro h0
    rcases Nat.mod_two_eq_zero_or_one n with he | ho
    · obtain ⟨i1, i2, i3, i4⟩ := ih (n / 2) (by omega) (by omega)
      rw [tz_even h0 he, Nat.pow_succ]
      have e2 : (n - 1) / 2 = n / 2 - 1 := by omega
      have ep : n / (2 ^ tz (n / 2) * 2) = n / 2 / 2 ^ tz (n / 2) := by rw [Nat.mul_comm, Nat.div_div_eq_div_mul]
      refine ⟨?_, by omega, by rw [ep]; exact i3, ?_⟩
      · rw [land_two n (n - 1), e2, i1, he, Nat.zero_mul]
        omega
      · rw [ep, ← Nat.mul_assoc, i4]
        omega
    · rw [tz_odd ho]
      refine ⟨?_, by omega, by simpa using ho, by simp⟩
      rw [land_two n (n - 1)]
      have e2 : (n - 1) / 2 = n / 2 := by omega
      have e3 : (n - 1) % 2 = 0 := by omega
      rw [e2, e3, Nat.and_self, Nat.mul_zero]
      omega
theorem low_bit {n : Nat} (h : n ≠ 0) : Builtin.bitAnd (n : Int) (0 - (n : Int)) = ((2 ^ tz n : Nat) : Int) := by
  rw [PyProof.Rows.bitAnd_pn (by omega) (by omega)]
  have e : (Builtin.bitNot (0 - (n : Int))).toNat = n - 1 := by unfold Builtin.bitNot; omega
  obtain ⟨i1, i2, _⟩ := land_pred n h
  rw [e, Int.toNat_natCast, i1]
  omega
theorem low_bits {n : Nat} (h : n ≠ 0) : ((Builtin.Int.intBits (Builtin.bitAnd (n : Int) (0 - (n : Int))) : Nat) : Int) - 1 = (tz n : Int) := by
  rw [low_bit h, intBits_nat, bits_pow]
  omega
theorem bits_shift {n : Nat} (h : n ≠ 0) : bitsN (n / 2 ^ tz n) + tz n = bitsN n := by
  obtain ⟨_, _, i3, i4⟩ := land_pred n h
  have hm : n / 2 ^ tz n ≠ 0 := by intro z; rw [z] at i3; omega
  generalize n / 2 ^ tz n = m at *
  generalize tz n = v at *
  have h1 := bits_lt m
  have h2 := bits_ge hm
  have h3 := bits_pos hm
  have a : bitsN n ≤ bitsN m + v := bits_le (by
    rw [← i4, Nat.pow_add]
    exact Nat.mul_lt_mul_of_pos_right h1 (Nat.two_pow_pos _))
  have b : bitsN m - 1 + v + 1 ≤ bitsN n := le_bits (by
    rw [← i4, Nat.pow_add]
    exact Nat.mul_le_mul_right _ h2)
  omega
end Up

set_option Elab.async false
set_option linter.all false
set_option maxRecDepth 100000
set_option maxHeartbeats 4000000
namespace Up
open PySem PySem.Spec PyProof.Rows L2
local macro_rules | `(tactic| walk_at "u") => `(tactic| first
  | with_reducible refine g_seq ?_
  | with_reducible refine g_asg ?_
  | with_reducible refine g_op ?_
  | ((with_reducible show tVar _ _ _ _); apply g_var; exact rfl)
  | with_reducible refine g_c ?_
  | with_reducible refine g_name ?_
  | with_reducible refine g_ifs ?_
  | with_reducible refine g_tt ?_
  | with_reducible refine g_tB ?_
  | with_reducible refine g_bl ?_
  | with_reducible refine g_ret ?_
  | with_reducible refine g_cb ?_
  | with_reducible refine g_cons ?_
  | with_reducible refine g_nil ?_
  | with_reducible refine g_call ?_
  | with_reducible refine g_and ?_
  | with_reducible refine g_or ?_
  | with_reducible refine g_not ?_
  | with_reducible refine g_andV ?_
  | with_reducible refine g_orV ?_
  | with_reducible refine g_notV ?_
  | with_reducible refine g_if ?_
  | with_reducible refine g_un ?_
  | with_reducible refine g_neg ?_
  | with_reducible refine g_addI ?_
  | with_reducible refine g_subI ?_
  | with_reducible refine g_subB ?_
  | with_reducible refine g_I0 ?_
  | with_reducible refine g_cmpI ?_
  | with_reducible refine g_eqI ?_
  | with_reducible refine g_neI ?_
  | with_reducible refine g_eqS ?_
  | with_reducible refine g_neS ?_
  | with_reducible refine g_eqB ?_
  | with_reducible refine g_neB ?_
  | with_reducible refine g_bits ?_
  | with_reducible refine g_bitsI ?_
  | with_reducible refine g_fld ?_
  | with_reducible refine g_tup ?_
  | with_reducible refine g_lst ?_
  | with_reducible refine g_gtup ?_
  | with_reducible refine g_make ?_
  | with_reducible refine g_lc ?_
  | with_reducible refine g_yesT ?_
  | with_reducible refine g_intI ?_
  | with_reducible refine g_intB ?_
  | with_reducible refine g_max2 ?_
  | with_reducible refine g_abs1 ?_
  | with_reducible refine g_for ?_
  | with_reducible refine g_iList ?_
  | with_reducible refine g_iTup ?_
  | with_reducible refine g_iRng1 ?_
  | with_reducible refine g_iEnum ?_
  | with_reducible refine g_slice ?_
  | with_reducible refine g_po0 ?_
  | with_reducible refine g_po1 ?_
  | with_reducible refine g_gsub ?_
  | with_reducible refine g_par ?_
  | with_reducible refine g_par2 ?_
  | with_reducible refine g_rfl ?_
  | with_reducible refine g_meth ?_
  | with_reducible refine g_gcons ?_
  | with_reducible refine g_gnil ?_
  | with_reducible refine g_gfld ?_
  | with_reducible refine g_sfld ?_
  | with_reducible refine g_drop ?_
  | with_reducible refine g_next ?_
  | with_reducible refine iteT ?_
  | with_reducible refine iteF ?_)
local macro_rules | `(tactic| walk_at "go") => `(tactic| (repeat walk_at "u"))

/-! ### Float: what its instances are -/
def flF (s : Int) (t : V) (p : Int) : List (Str × V) := [("sign", .int s), ("top", t), ("power", .int p)]
theorem fl_put (s : Int) (t : V) (p : Int) : putF "power" (.int p) (putF "top" t (putF "sign" (.int s) [])) = flF s t p := rfl
theorem fl_sign (s : Int) (t : V) (p : Int) : (flF s t p).lookup ("sign" : Str) = some (.int s) := rfl
theorem fl_top (s : Int) (t : V) (p : Int) : (flF s t p).lookup ("top" : Str) = some t := rfl
theorem fl_power (s : Int) (t : V) (p : Int) : (flF s t p).lookup ("power" : Str) = some (.int p) := rfl
def FlAt (C : Addr) (H : Hp) (a : Addr) (s : Int) (t : V) (p : Int) : Prop := ∃ dx, H a = some (.ins C dx (flF s t p))
theorem FlAt.same {C : Addr} {H H' : Hp} {a : Addr} {s : Int} {t : V} {p : Int} (h : FlAt C H a s t p) (e : Same H H') : FlAt C H' a s t p := by
  obtain ⟨dx, h⟩ := h
  exact ⟨dx, e _ _ h⟩
/-- a right float's parts -/
def FinOk (n p : Int) : Prop := 0 ≤ n ∧ n < 2 ^ 53 ∧ -1074 ≤ p ∧ ((Builtin.Int.intBits n : Nat) : Int) + p ≤ 1024 ∧ (n = 0 → p = 0) ∧ (n ≠ 0 → n % 2 = 1)
def FlOk (s : Int) (t : V) (p : Int) : Prop := (s = 1 ∨ s = -1) ∧ ((t = .str "nan" ∧ s = 1 ∧ p = 0) ∨ (t = .str "inf" ∧ p = 0) ∨ ∃ n, t = .int n ∧ FinOk n p)
/-- what the text says of the class Float, at C -/
structure FlC (K : PySem.W.Frag) (mg : Str → Option Value) (C : Addr) : Prop where
  own : OwnC K C
  nS : NoAttr K C "sign"
  nT : NoAttr K C "top"
  nP : NoAttr K C "power"
  mg : mg "Float" = some (.ref C)
  yes : PySem.W.kitOne K (.ref C) (.ref C) = some true
  fi : PySem.W.kitOne K (.type "int") (.ref C) = some false
  fb : PySem.W.kitOne K (.type "bool") (.ref C) = some false
  fs : PySem.W.kitOne K (.type "str") (.ref C) = some false
  fn : PySem.W.kitOne K (.type "NoneType") (.ref C) = some false
  fl : PySem.W.kitOne K (.type "list") (.ref C) = some false
  ft : PySem.W.kitOne K (.type "tuple") (.ref C) = some false
  fd : PySem.W.kitOne K (.type "dict") (.ref C) = some false
section
variable {P : Program} {w : World} {K : PySem.W.Frag} {mg : Str → Option Value} {base : Heap} {C : Addr}
/-- what Float(s, top, p) asks, and the parts that it gets -/
def MkOk (s : Int) (top : V) (p : Int) : Prop := (s = 1 ∨ s = -1) ∧ ((top = .str "nan" ∧ s = 1 ∧ p = 0) ∨ (top = .str "inf" ∧ p = 0) ∨ ∃ n : Nat, top = .int n ∧ ∃ m, (redV top p).1 = .int m ∧ fitsB m (redV top p).2 = true)
theorem sc_Float_init : FnScope ["self", "sign", "top", "power"] ["self", "sign", "top", "power"] (defScope s_Float_init) := ⟨rfl, rfl, rfl, by decide +kernel, rfl, by decide +kernel, by decide +kernel⟩
def sp_Finit (C : Addr) : Sp := fun vs H Q _ => ∃ a dx s top p, vs = [.ref a, .int s, top, .int p] ∧ H a = some (.ins C dx []) ∧ MkOk s top p ∧
  ∀ H', (∀ b o, b ≠ a → H b = some o → H' b = some o) → H' a = some (.ins C dx (flF s (redV top p).1 (redV top p).2)) → Q .non H'
theorem lowB_nat {n : Nat} (h : n ≠ 0) : lowB (n : Int) = (tz n : Int) := low_bits h
theorem ok_Finit {f : Addr} {fd : FuncData} (F : FunD K "__init__" "Float.__init__" (defArgs s_Float_init) (defBody s_Float_init) (defScope s_Float_init) [] [] f fd) (B : Blt mg) (T : FlC K mg C) (c_isplain : Fn P w K mg base CX0 1 "is_plain" ["number"] [] (sp_isplain K)) (c_reduced : Fn P w K mg base CX0 1 "reduced" ["top", "power"] [] sp_reduced)
    (c_fits : Fn P w K mg base CX0 1 "fits" ["top", "power"] [] sp_fits) : FnOk P w K mg base CX0 2 f fd ["self", "sign", "top", "power"] (sp_Finit C) := by
  refine F.ok sc_Float_init (fun vs H Q E h => ?_) (fun cdv A outer s H vs Q E hr h => ?_)
  · obtain ⟨a, dx, s, top, p, rfl, _⟩ := h; rfl
  · obtain ⟨a, dx, sg, top, p, rfl, ha, ⟨hs, hk⟩, q⟩ := h
    refine ⟨_, PSs.nox (pss_cons (ps_if (PW.pt (pw_or (pt_not (pt_val (pe_fn c_isplain (hr.mono (by first | decide | omega)) pass0 (pa_cons (pv 1) pa_nil)))) (pw_or1 (pt_cmpR op_notIn_seq (pv 1) (pe_tupN (pa_cons pe_int (pa_cons (pe_un un_neg pe_int) pa_nil))) (by rfl))))) (pss_one ps_never) pss_nil)
  (C8.pss_cut (ps_if (PW.pt (pw_and (pt_val (pe_callB call_isi (by rfl) B.isinstance (by decide +kernel) (pa_cons (pv 2) (pa_cons (pe_tyStr B) pa_nil)))) (pw_and1 (pt_cmpR op_in_seq (pv 2) (pe_tupN (pa_cons pe_str (pa_cons pe_str pa_nil))) (by rfl))))) (pss_cons (ps_if (PW.pt (pw_and (pt_cmpR (op_oEq hr.units) (pv 2) pe_str (nomark _)) (pw_and1 (pt_cmpR (op_oEq hr.units) (pv 1) (pe_un un_neg pe_int) (nomark _))))) (pss_one ps_never) pss_nil)
  (pss_one (ps_if (PW.pt (pw_or (pt_not (pt_val (pe_fn c_isplain (hr.mono (by first | decide | omega)) pass0 (pa_cons (pv 3) pa_nil)))) (pw_or1 (pt_cmpR (op_oNe hr.units) (pv 3) pe_int (nomark _))))) (pss_one ps_never) pss_nil))) (pss_one (ps_if (PW.pt (pw_or (pt_not (pt_val (pe_fn c_isplain (hr.mono (by first | decide | omega)) pass0 (pa_cons (pv 2) pa_nil)))) (pw_or1 (pt_cmpR op_oLt (pv 2) pe_int (nomark _))))) (pss_one ps_never) (pss_one (ps_if (pt_not (pt_val (pe_fn c_isplain (hr.mono (by first | decide | omega)) pass0 (pa_cons (pv 3) pa_nil)))) (pss_one ps_never) pss_nil)))))
  (pss_cons (ps_fld (pv 0) (pv 1) rfl)
  (pss_cons (ps_asg (pe_fn c_reduced (hr.mono (by first | decide | omega)) pass0 (pa_cons (pv 2) (pa_cons (pv 3) pa_nil))) (pg_tup rfl (pgs_cons (pg_fld (pv 0)) (pgs_cons (pg_fld (pv 0)) pgs_nil))))
  (pss_one (ps_if (PW.pt (pw_and (pt_cmpR op_notIn_seq (pe_fld (pv 0) rfl) (pe_tupN (pa_cons pe_str (pa_cons pe_str pa_nil))) (by rfl)) (pw_and1 (pt_not (pt_val (pe_fn c_fits (hr.mono (by first | decide | omega)) pass0 (pa_cons (pe_fld (pv 0) rfl) (pa_cons (pe_fld (pv 0) rfl) pa_nil)))))))) (pss_one ps_never) pss_nil)))))), ?_⟩
    walk_at "go"
    refine ⟨_, _, rfl, kn_int, ?_⟩
    walk_at "go"
    refine iteF ?_
    walk_at "go"
    refine g_new (sz rfl) fun a1 H1 na1 s1 ha1 _ => ?_
    refine ⟨a1, _, rfl, .inr (SqT.of ha1), rfl, rfl, ?_⟩
    walk_at "go"
    have hin : (if true = true then !inV (V.int sg) [V.int 1, V.int (-1)] else inV (V.int sg) [V.int 1, V.int (-1)]) = false := by
      rcases hs with rfl | rfl <;> rfl
    rw [hin]
    walk_at "go"
    refine g_cut (fun σ' H2 => σ' = [some (.ref a), some (.int sg), some top, some (.int p)] ∧ Same H1 H2 ∧ (isIN top ∨ ∃ n : Int, top = .int n ∧ (n ≠ 0 → 0 ≤ lowB n)) ∧ (isIN top ∧ (redV top p).1 = top ∨ ∃ m, (redV top p).1 = .int m ∧ fitsB m (redV top p).2 = true)) ?_ ?_
    · walk_at "go"
      rcases hk with ⟨rfl, rfl, rfl⟩ | ⟨rfl, rfl⟩ | ⟨n, rfl, m, hm, hf⟩
      · refine g_isiStr kn_str ?_
        walk_at "go"
        refine iteT ?_
        walk_at "go"
        refine g_new (sz rfl) fun a2 H2 na2 s2 ha2 _ => ?_
        refine ⟨a2, _, rfl, .inr (SqT.of ha2), rfl, rfl, ?_⟩
        walk_at "go"
        refine iteT ?_
        walk_at "go"
        refine g_yes rfl ?_
        walk_at "go"
        refine g_no (by decide) ?_
        walk_at "go"
        refine ⟨_, _, rfl, kn_int, ?_⟩
        walk_at "go"
        refine iteF ?_
        walk_at "go"
        refine iteF ?_
        walk_at "go"
        exact ⟨rfl, s2, .inl (.inr rfl), .inl ⟨.inr rfl, rfl⟩⟩
      · refine g_isiStr kn_str ?_
        walk_at "go"
        refine iteT ?_
        walk_at "go"
        refine g_new (sz rfl) fun a2 H2 na2 s2 ha2 _ => ?_
        refine ⟨a2, _, rfl, .inr (SqT.of ha2), rfl, rfl, ?_⟩
        walk_at "go"
        refine iteT ?_
        walk_at "go"
        refine g_no (by decide +kernel) ?_
        walk_at "go"
        refine ⟨_, _, rfl, kn_int, ?_⟩
        walk_at "go"
        refine iteF ?_
        walk_at "go"
        refine iteF ?_
        walk_at "go"
        exact ⟨rfl, s2, .inl (.inl rfl), .inl ⟨.inl rfl, rfl⟩⟩
      · refine g_isiStr kn_int ?_
        walk_at "go"
        refine iteF ?_
        walk_at "go"
        refine ⟨_, _, rfl, kn_int, ?_⟩
        walk_at "go"
        refine iteF ?_
        walk_at "go"
        refine g_no (by omega) ?_
        walk_at "go"
        refine ⟨_, _, rfl, kn_int, ?_⟩
        walk_at "go"
        refine iteF ?_
        walk_at "go"
        refine ⟨rfl, Same.refl _, .inr ⟨_, rfl, fun h => ?_⟩, .inr ⟨m, hm, hf⟩⟩
        rw [lowB_nat (by omega)]
        omega
    · rintro σ' H2 ⟨rfl, s2, hx, hy⟩
      have h2 := s2 _ _ (s1 _ _ ha)
      walk_at "go"
      refine ⟨a, C, dx, _, rfl, h2, T.own.cl, T.nS, Nat.le_of_ble_eq_true rfl, ?_⟩
      walk_at "go"
      refine ⟨_, _, rfl, hx, fun H3 a3 na3 s3 ha3 => ?_⟩
      have h3 : H3 a = some (.ins C dx (putF "sign" (.int sg) [])) := s3 _ _ upd_same
      have n3 : a3 ≠ a := fun z => by rw [z, upd_same] at na3; cases na3
      walk_at "go"
      refine ⟨a3, _, rfl, SqT.of ha3, rfl, ?_⟩
      walk_at "go"
      refine ⟨a, C, dx, _, rfl, h3, T.own.cl, T.nT, Nat.le_of_ble_eq_true rfl, ?_⟩
      walk_at "go"
      refine ⟨a, C, dx, _, rfl, upd_same, T.own.cl, T.nP, Nat.le_of_ble_eq_true rfl, ?_⟩
      walk_at "go"
      generalize e4 : upd (upd H3 a (.ins C dx (putF "top" (redV top p).1 (putF "sign" (.int sg) [])))) a (.ins C dx (putF "power" (.int (redV top p).2) (putF "top" (redV top p).1 (putF "sign" (.int sg) [])))) = H4
      have h4 : H4 a = some (.ins C dx (flF sg (redV top p).1 (redV top p).2)) := by rw [← e4]; exact upd_same
      have k4 : ∀ b o, b ≠ a → H b = some o → H4 b = some o := fun b o hb e => by
        rw [← e4, upd_ne hb, upd_ne hb]
        exact s3 _ _ (by rw [upd_ne hb]; exact s2 _ _ (s1 _ _ e))
      refine ⟨a, C, dx, _, _, rfl, h4, T.own.cl, T.nT, fl_top _ _ _, ?_⟩
      walk_at "go"
      refine g_new (sz rfl) fun a5 H5 na5 s5 ha5 _ => ?_
      have fin : ∀ H6, Same H5 H6 → Q .non H6 := fun H6 s6 => q H6 (fun b o hb e => s6 _ _ (s5 _ _ (k4 b o hb e))) (s6 _ _ (s5 _ _ h4))
      rcases hy with ⟨hn, hr⟩ | ⟨m, hm, hf⟩
      · rw [hr]
        refine ⟨a5, _, rfl, .inr (SqT.of ha5), by rcases hn with rfl | rfl <;> rfl, rfl, ?_⟩
        walk_at "go"
        have e : (if true = true then !inV top [V.str "inf", V.str "nan"] else inV top [V.str "inf", V.str "nan"]) = false := by
          rcases hn with rfl | rfl <;> decide +kernel
        rw [e]
        walk_at "go"
        exact fin _ (Same.refl _)
      · rw [hm]
        refine ⟨a5, _, rfl, .inr (SqT.of ha5), rfl, rfl, ?_⟩
        walk_at "go"
        have e : (if true = true then !inV (.int m) [V.str "inf", V.str "nan"] else inV (.int m) [V.str "inf", V.str "nan"]) = true := rfl
        rw [e]
        walk_at "go"
        refine ⟨a, C, dx, _, _, rfl, s5 _ _ h4, T.own.cl, T.nT, fl_top _ _ _, ?_⟩
        walk_at "go"
        refine ⟨a, C, dx, _, _, rfl, s5 _ _ h4, T.own.cl, T.nP, fl_power _ _ _, ?_⟩
        walk_at "go"
        refine ⟨m, _, by rw [hm]; rfl, ?_⟩
        walk_at "go"
        rw [hf]
        walk_at "go"
        exact fin _ (Same.refl _)
end
end Up

set_option Elab.async false
set_option linter.all false
set_option maxRecDepth 100000
set_option maxHeartbeats 4000000
namespace Up
open PySem
/-! ### the nearest float to a fraction: power, scaled parts, rounding -/
def nrP (t b : Nat) : Int := if (-1074 : Int) > (bitsN t : Int) - (bitsN b : Int) - 53 then -1074 else (bitsN t : Int) - (bitsN b : Int) - 53
def nrT (t : Nat) (p : Int) : Nat := if p < 0 then t * 2 ^ (0 - p).toNat else t
def nrB (b : Nat) (p : Int) : Nat := if p < 0 then b else b * 2 ^ p.toNat
def nrBig (t b : Nat) : Bool := decide (9007199254740992 ≤ nrT t (nrP t b) / nrB b (nrP t b))
def nrB2 (t b : Nat) : Nat := if nrBig t b then nrB b (nrP t b) * 2 else nrB b (nrP t b)
def nrP2 (t b : Nat) : Int := if nrBig t b then nrP t b + 1 else nrP t b
def nrQ (t b : Nat) : Nat := nrT t (nrP t b) / nrB2 t b
def nrR (t b : Nat) : Nat := nrT t (nrP t b) % nrB2 t b
def nrUp (t b : Nat) : Bool := decide (nrB2 t b < 2 * nrR t b) || (decide (2 * nrR t b = nrB2 t b) && decide (nrQ t b % 2 = 1))
def nrW (t b : Nat) : Nat := if nrUp t b then nrQ t b + 1 else nrQ t b
theorem nrP_lo (t b : Nat) : -1074 ≤ nrP t b := by unfold nrP; split <;> omega
theorem nrP_ge (t b : Nat) : (bitsN t : Int) - (bitsN b : Int) - 53 ≤ nrP t b := by unfold nrP; split <;> omega
theorem nrP_hi {t b : Nat} : nrP t b ≤ bitsN t := by unfold nrP; split <;> omega
theorem nrB_pos {b : Nat} (hb : 0 < b) (p : Int) : 0 < nrB b p := by
  unfold nrB; split
  · exact hb
  · exact Nat.mul_pos hb (Nat.two_pow_pos _)
theorem nrB2_pos {t b : Nat} (hb : 0 < b) : 0 < nrB2 t b := by
  unfold nrB2; split
  · exact Nat.mul_pos (nrB_pos hb _) (by decide)
  · exact nrB_pos hb _
/-- the scaled quotient is below 2 ^ 54 -/
theorem nr_lt54 {t b : Nat} (hb : 0 < b) : nrT t (nrP t b) / nrB b (nrP t b) < 2 ^ 54 := by
  rw [Nat.div_lt_iff_lt_mul (nrB_pos hb _)]
  have h1 := bits_lt t
  have h2 := bits_ge (n := b) (by omega)
  have h3 := bits_pos (n := b) (by omega)
  have h4 := nrP_ge t b
  unfold nrT nrB
  by_cases hp : nrP t b < 0
  · rw [if_pos hp, if_pos hp]
    have e1 : t * 2 ^ (0 - nrP t b).toNat < 2 ^ (bitsN t) * 2 ^ (0 - nrP t b).toNat := Nat.mul_lt_mul_of_pos_right h1 (Nat.two_pow_pos _)
    rw [← Nat.pow_add] at e1
    have e2 : 2 ^ (bitsN t + (0 - nrP t b).toNat) ≤ 2 ^ (54 + (bitsN b - 1)) := Nat.pow_le_pow_right (by decide) (by omega)
    rw [Nat.pow_add 2 54] at e2
    have e3 : 2 ^ 54 * 2 ^ (bitsN b - 1) ≤ 2 ^ 54 * b := Nat.mul_le_mul_left _ h2
    omega
  · rw [if_neg hp, if_neg hp]
    have e2 : 2 ^ bitsN t ≤ 2 ^ (54 + ((bitsN b - 1) + (nrP t b).toNat)) := Nat.pow_le_pow_right (by decide) (by omega)
    rw [Nat.pow_add 2 54, Nat.pow_add 2 (bitsN b - 1)] at e2
    have e3 : 2 ^ (bitsN b - 1) * 2 ^ (nrP t b).toNat ≤ b * 2 ^ (nrP t b).toNat := Nat.mul_le_mul_right _ h2
    have e4 : 2 ^ 54 * (2 ^ (bitsN b - 1) * 2 ^ (nrP t b).toNat) ≤ 2 ^ 54 * (b * 2 ^ (nrP t b).toNat) := Nat.mul_le_mul_left _ e3
    omega
theorem nrQ_lt {t b : Nat} (hb : 0 < b) : nrQ t b < 2 ^ 53 := by
  have h := nr_lt54 (t := t) hb
  unfold nrQ nrB2
  by_cases hg : nrBig t b = true
  · rw [if_pos hg, ← Nat.div_div_eq_div_mul]
    omega
  · rw [if_neg hg]
    have h2 : ¬ 9007199254740992 ≤ nrT t (nrP t b) / nrB b (nrP t b) := fun z => hg (decide_eq_true z)
    omega
theorem nrW_le {t b : Nat} (hb : 0 < b) : nrW t b ≤ 2 ^ 53 := by
  have h := nrQ_lt (t := t) hb
  unfold nrW; split <;> omega
theorem nrP2_lo (t b : Nat) : -1074 ≤ nrP2 t b := by
  have := nrP_lo t b
  unfold nrP2; split <;> omega
theorem nrB2_bits {t b m : Nat} (h1 : bitsN t ≤ m) (h2 : bitsN b ≤ m) (hb : 0 < b) : nrB2 t b < 2 ^ (m + 1) := by
  have h3 := bits_lt b
  have h4 := bits_pos (n := b) (by omega)
  have hB : nrB b (nrP t b) < 2 ^ m := by
    unfold nrB
    by_cases hp : nrP t b < 0
    · rw [if_pos hp]
      exact Nat.lt_of_lt_of_le h3 (Nat.pow_le_pow_right (by decide) h2)
    · rw [if_neg hp]
      have hx : nrP t b = (bitsN t : Int) - (bitsN b : Int) - 53 := by
        have hp' := hp
        unfold nrP at hp' ⊢
        split at hp' <;> rename_i hc
        · omega
        · rw [if_neg hc]
      have e1 : b * 2 ^ (nrP t b).toNat < 2 ^ bitsN b * 2 ^ (nrP t b).toNat := Nat.mul_lt_mul_of_pos_right h3 (Nat.two_pow_pos _)
      rw [← Nat.pow_add] at e1
      exact Nat.lt_of_lt_of_le e1 (Nat.pow_le_pow_right (by decide) (by omega))
  unfold nrB2
  rw [Nat.pow_succ]
  split <;> omega
end Up

set_option Elab.async false
set_option linter.all false
set_option maxRecDepth 100000
set_option maxHeartbeats 4000000
set_option exponentiation.threshold 200000
namespace Up
open PySem PySem.Spec PyProof.Rows L2
local macro_rules | `(tactic| walk_at "u") => `(tactic| first
  | with_reducible refine g_seq ?_
  | with_reducible refine g_asg ?_
  | with_reducible refine g_op ?_
  | ((with_reducible show tVar _ _ _ _); apply g_var; exact rfl)
  | with_reducible refine g_c ?_
  | with_reducible refine g_name ?_
  | with_reducible refine g_ifs ?_
  | with_reducible refine g_tt ?_
  | with_reducible refine g_tB ?_
  | with_reducible refine g_bl ?_
  | with_reducible refine g_ret ?_
  | with_reducible refine g_cb ?_
  | with_reducible refine g_cons ?_
  | with_reducible refine g_nil ?_
  | with_reducible refine g_call ?_
  | with_reducible refine g_and ?_
  | with_reducible refine g_or ?_
  | with_reducible refine g_not ?_
  | with_reducible refine g_andV ?_
  | with_reducible refine g_orV ?_
  | with_reducible refine g_notV ?_
  | with_reducible refine g_if ?_
  | with_reducible refine g_un ?_
  | with_reducible refine g_neg ?_
  | with_reducible refine g_addI ?_
  | with_reducible refine g_subI ?_
  | with_reducible refine g_subB ?_
  | with_reducible refine g_I0 ?_
  | with_reducible refine g_cmpI ?_
  | with_reducible refine g_eqI ?_
  | with_reducible refine g_neI ?_
  | with_reducible refine g_eqS ?_
  | with_reducible refine g_neS ?_
  | with_reducible refine g_eqB ?_
  | with_reducible refine g_neB ?_
  | with_reducible refine g_bits ?_
  | with_reducible refine g_bitsI ?_
  | with_reducible refine g_fld ?_
  | with_reducible refine g_tup ?_
  | with_reducible refine g_lst ?_
  | with_reducible refine g_gtup ?_
  | with_reducible refine g_make ?_
  | with_reducible refine g_lc ?_
  | with_reducible refine g_yesT ?_
  | with_reducible refine g_intI ?_
  | with_reducible refine g_intB ?_
  | with_reducible refine g_max2 ?_
  | with_reducible refine g_abs1 ?_
  | with_reducible refine g_for ?_
  | with_reducible refine g_iList ?_
  | with_reducible refine g_iTup ?_
  | with_reducible refine g_iRng1 ?_
  | with_reducible refine g_iEnum ?_
  | with_reducible refine g_slice ?_
  | with_reducible refine g_po0 ?_
  | with_reducible refine g_po1 ?_
  | with_reducible refine g_gsub ?_
  | with_reducible refine g_par ?_
  | with_reducible refine g_par2 ?_
  | with_reducible refine g_rfl ?_
  | with_reducible refine g_meth ?_
  | with_reducible refine g_gcons ?_
  | with_reducible refine g_gnil ?_
  | with_reducible refine g_gfld ?_
  | with_reducible refine g_sfld ?_
  | with_reducible refine g_drop ?_
  | with_reducible refine g_next ?_
  | with_reducible refine iteT ?_
  | with_reducible refine iteF ?_)
local macro_rules | `(tactic| walk_at "go") => `(tactic| (repeat walk_at "u"))

/-! ### parts of a float that was made -/
theorem red_nat {n : Nat} (h : n ≠ 0) (p : Int) : redV (.int n) p = (.int ((n / 2 ^ tz n : Nat) : Int), p + (tz n : Int)) := by
  have e : redV (.int n) p = (.int ((n : Int) / 2 ^ (lowB n).toNat), p + lowB n) := if_neg (by omega)
  rw [e, lowB_nat h]
  simp
theorem red_zero (p : Int) : redV (.int 0) p = (.int 0, 0) := rfl
theorem fits_of {n : Nat} {p : Int} (h1 : n ≤ 2 ^ 53) (h2 : -1074 ≤ p) (h3 : (bitsN n : Int) + p ≤ 1024) : ∃ m, (redV (.int n) p).1 = .int m ∧ fitsB m (redV (.int n) p).2 = true := by
  by_cases h0 : n = 0
  · subst h0
    exact ⟨0, rfl, by show fitsB 0 0 = true; decide⟩
  · rw [red_nat h0]
    refine ⟨_, rfl, ?_⟩
    obtain ⟨_, i2, i3, i4⟩ := land_pred n h0
    have hb := bits_shift h0
    have hle : n / 2 ^ tz n ≤ n := Nat.div_le_self _ _
    unfold fitsB
    rw [intBits_nat]
    have a1 : ((n / 2 ^ tz n : Nat) : Int) < 9007199254740992 := by
      have : n / 2 ^ tz n ≠ 2 ^ 53 := by intro z; rw [z] at i3; exact absurd i3 (by decide)
      omega
    have a2 : -1074 ≤ p + (tz n : Int) := by omega
    have a3 : ((bitsN (n / 2 ^ tz n) : Nat) : Int) + (p + (tz n : Int)) ≤ 1024 := by omega
    rw [decide_eq_true a1, decide_eq_true a2, decide_eq_true a3]
    rfl
theorem mk_flok {s : Int} {top : V} {p : Int} (h : MkOk s top p) : FlOk s (redV top p).1 (redV top p).2 := by
  obtain ⟨hs, h⟩ := h
  refine ⟨hs, ?_⟩
  rcases h with ⟨rfl, h1, rfl⟩ | ⟨rfl, rfl⟩ | ⟨n, rfl, m, hm, hf⟩
  · exact .inl ⟨rfl, h1, rfl⟩
  · exact .inr (.inl ⟨rfl, rfl⟩)
  · refine .inr (.inr ⟨m, hm, ?_⟩)
    by_cases h0 : n = 0
    · subst h0
      have e : m = 0 := by
        have : (V.int 0) = V.int m := hm
        injection this with z
        exact z.symm
      subst e
      show FinOk 0 0
      exact ⟨by decide, by decide, by decide, by decide, fun _ => rfl, fun z => absurd rfl z⟩
    · rw [red_nat h0] at hm hf ⊢
      obtain ⟨_, i2, i3, i4⟩ := land_pred n h0
      have e : ((n / 2 ^ tz n : Nat) : Int) = m := by injection hm
      have hne : m ≠ 0 := by
        intro z
        rw [z] at e
        have : n / 2 ^ tz n = 0 := by exact_mod_cast e
        rw [this] at i3
        exact absurd i3 (by decide)
      unfold fitsB at hf
      simp only [decide_eq_false hne, Bool.or_false, Bool.and_eq_true, decide_eq_true_eq] at hf
      exact ⟨e ▸ Int.natCast_nonneg _, hf.1, hf.2.1, hf.2.2, fun z => absurd z hne, fun _ => by rw [← e]; omega⟩
theorem mk_of_flok {s : Int} {n : Nat} {p : Int} (hs : s = 1 ∨ s = -1) (h1 : n ≤ 2 ^ 53) (h2 : -1074 ≤ p) (h3 : (bitsN n : Int) + p ≤ 1024) : MkOk s (.int n) p := ⟨hs, .inr (.inr ⟨n, rfl, fits_of h1 h2 h3⟩)⟩
/-! ### numbers as values -/
inductive Nm where
  | i (n : Int)
  | f (s : Int) (t : V) (p : Int)
def NumAt (C : Addr) (H : Hp) (v : V) : Nm → Prop
  | .i n => v = .int n
  | .f s t p => ∃ a, v = .ref a ∧ FlAt C H a s t p ∧ FlOk s t p
theorem NumAt.same {C : Addr} {H H' : Hp} {v : V} : ∀ {n : Nm}, NumAt C H v n → Same H H' → NumAt C H' v n
  | .i _, h, _ => h
  | .f _ _ _, ⟨a, e, h, k⟩, s => ⟨a, e, h.same s, k⟩
abbrev RetF (C : Addr) (H : Hp) (s : Int) (t : V) (p : Int) (Q : VK) : Prop := ∀ H' a, H a = none → Same H H' → FlAt C H' a s t p → Q (.ref a) H'
section
variable {P : Program} {w : World} {K : PySem.W.Frag} {mg : Str → Option Value} {base : Heap} {C : Addr}
/-- Float(s, top, p) -/
theorem mkF {H : Hp} {Q : VK} {E : XK} {s : Int} {top : V} {p : Int} (hk : MkOk s top p) (q : RetF C H s (redV top p).1 (redV top p).2 Q) :
    MakeR C (sp_Finit C) ([.int s, top, .int p] ++ []) H Q E := by
  intro x dx H' nx ndx ne s1 hx _
  exact ⟨x, dx, s, top, p, rfl, hx, hk, fun H2 k h2 => ⟨rfl, q H2 x nx (fun b o e => k b o (ne_of_none e nx) (s1 _ _ e)) ⟨dx, h2⟩⟩⟩
abbrev CnF (P : Program) (w : World) (K : PySem.W.Frag) (mg : Str → Option Value) (base : Heap) (C : Addr) : Prop := Cn P w K mg base CX0 2 "Float" C ["self", "sign", "top", "power"] [] (sp_Finit C)
/-! is_finite -/
theorem sc_Float_isfinite : FnScope ["self"] ["self"] (defScope s_Float_isfinite) := ⟨rfl, rfl, rfl, by decide +kernel, rfl, by decide +kernel, by decide +kernel⟩
def sp_isfinite (C : Addr) : Sp := fun vs H Q _ => ∃ a s t p, vs = [.ref a] ∧ FlAt C H a s t p ∧ FlOk s t p ∧ Q (.bl (isI t)) H
theorem FlOk.kn {s : Int} {t : V} {p : Int} {H : Hp} (h : FlOk s t p) : ∃ u, Kn K H t u ∧ isB t = false := by
  rcases h.2 with ⟨rfl, _⟩ | ⟨rfl, _⟩ | ⟨n, rfl, _⟩
  · exact ⟨_, kn_str, rfl⟩
  · exact ⟨_, kn_str, rfl⟩
  · exact ⟨_, kn_int, rfl⟩
theorem ok_isfinite {f : Addr} {fd : FuncData} (F : FunD K "is_finite" "Float.is_finite" (defArgs s_Float_isfinite) (defBody s_Float_isfinite) (defScope s_Float_isfinite) [] [] f fd) (B : Blt mg) (T : FlC K mg C) : FnOk P w K mg base CX0 1 f fd ["self"] (sp_isfinite C) := by
  refine F.ok sc_Float_isfinite (fun vs H Q E h => ?_) (fun cdv A outer s H vs Q E hr h => ?_)
  · obtain ⟨a, s, t, p, rfl, _⟩ := h; rfl
  · obtain ⟨a, sg, t, p, rfl, ⟨dx, ha⟩, ho, q⟩ := h
    refine ⟨_, PSs.nox (pss_one (ps_ret (pe_callB call_isi (by rfl) B.isinstance (by decide +kernel) (pa_cons (pe_fld (pv 0) rfl) (pa_cons (pe_tyInt B) pa_nil))))), ?_⟩
    walk_at "go"
    refine ⟨a, C, dx, _, _, rfl, ha, T.own.cl, T.nT, fl_top _ _ _, ?_⟩
    walk_at "go"
    obtain ⟨u, kn, hb⟩ := ho.kn (K := K) (H := H)
    refine g_isiInt kn ?_
    rw [hb, Bool.or_false]
    exact q
/-! ratio -/
theorem sc_Float_ratio : FnScope ["self"] ["self"] (defScope s_Float_ratio) := ⟨rfl, rfl, rfl, by decide +kernel, rfl, by decide +kernel, by decide +kernel⟩
def ratN (s n p : Int) : Int := if p < 0 then s * n else s * (n * 2 ^ p.toNat)
def ratD (p : Int) : Int := if p < 0 then 2 ^ (0 - p).toNat else 1
def sp_ratio (C : Addr) : Sp := fun vs H Q _ => ∃ a s n p, vs = [.ref a] ∧ FlAt C H a s (.int n) p ∧ FlOk s (.int n) p ∧ RetT H [.int (ratN s n p), .int (ratD p)] Q
theorem fin_of {s n p : Int} (h : FlOk s (.int n) p) : FinOk n p := by
  rcases h.2 with ⟨z, _⟩ | ⟨z, _⟩ | ⟨m, e, h⟩
  · cases z
  · cases z
  · injection e with e; subst e; exact h
theorem FinOk.hi {n p : Int} (h : FinOk n p) : p ≤ 1024 := by
  obtain ⟨h1, _, _, h4, h5⟩ := h
  by_cases h0 : n = 0
  · rw [h5.1 h0]; decide
  · have := bits_pos (n := n.natAbs) (by omega)
    rw [intBits_neg] at h4
    omega
theorem sgn_mul {s x : Int} (hs : s = 1 ∨ s = -1) : IntMulOk s x := .of_left (by rcases hs with rfl | rfl <;> decide)
theorem shl_small {i j : Int} (h0 : 0 ≤ j) (h : j ≤ 100000) (hi : i.natAbs < 2 ^ 100000) : CShl i j := by
  refine ⟨h0, ?_⟩
  rw [intBits_neg]
  have := bits_le hi
  omega
theorem lt_pow_mono {n a b : Nat} (h : n < 2 ^ a) (hab : a ≤ b) : n < 2 ^ b := Nat.lt_of_lt_of_le h (Nat.pow_le_pow_right (by decide) hab)
theorem ok_ratio {f : Addr} {fd : FuncData} (F : FunD K "ratio" "Float.ratio" (defArgs s_Float_ratio) (defBody s_Float_ratio) (defScope s_Float_ratio) [] [] f fd) (B : Blt mg) (T : FlC K mg C) : FnOk P w K mg base CX0 1 f fd ["self"] (sp_ratio C) := by
  refine F.ok sc_Float_ratio (fun vs H Q E h => ?_) (fun cdv A outer s H vs Q E hr h => ?_)
  · obtain ⟨a, s, t, p, rfl, _⟩ := h; rfl
  · obtain ⟨a, sg, n, p, rfl, ⟨dx, ha⟩, ho, q⟩ := h
    have hf := fin_of ho
    have hhi := hf.hi
    obtain ⟨f1, f2, f3, f4, f5⟩ := hf
    unfold ratN ratD at q
    refine ⟨_, PSs.nox (pss_cons (ps_if (pt_cmpR op_oLt (pe_fld (pv 0) rfl) pe_int (nomark _)) (pss_one (ps_ret (pe_tupN (pa_cons (pe_op op_oMul (pe_fld (pv 0) rfl) (pe_fld (pv 0) rfl)) (pa_cons (pe_op op_oShl pe_int (pe_op op_oSub pe_int (pe_fld (pv 0) rfl))) pa_nil))))) pss_nil)
  (pss_one (ps_ret (pe_tupN (pa_cons (pe_op op_oMul (pe_fld (pv 0) rfl) (pe_op op_oShl (pe_fld (pv 0) rfl) (pe_fld (pv 0) rfl))) (pa_cons pe_int pa_nil)))))), ?_⟩
    walk_at "go"
    refine ⟨a, C, dx, _, _, rfl, ha, T.own.cl, T.nP, fl_power _ _ _, ?_⟩
    walk_at "go"
    refine g_ite (fun hp => ?_) fun hp => ?_
    · walk_at "go"
      refine ⟨a, C, dx, _, _, rfl, ha, T.own.cl, T.nS, fl_sign _ _ _, ?_⟩
      walk_at "go"
      refine ⟨a, C, dx, _, _, rfl, ha, T.own.cl, T.nT, fl_top _ _ _, ?_⟩
      refine g_mulI (sgn_mul ho.1) ?_
      walk_at "go"
      refine ⟨a, C, dx, _, _, rfl, ha, T.own.cl, T.nP, fl_power _ _ _, ?_⟩
      walk_at "go"
      refine g_II (shl_small (by omega) (by omega) (lt_pow_mono (a := 1) (by decide) (by decide))) ?_
      walk_at "go"
      refine g_new (sz rfl) fun b H2 nb s2 hb _ => ?_
      rw [if_pos hp, if_pos hp] at q
      rw [Int.one_mul] at hb
      exact q _ _ nb s2 hb
    · walk_at "go"
      refine ⟨a, C, dx, _, _, rfl, ha, T.own.cl, T.nS, fl_sign _ _ _, ?_⟩
      walk_at "go"
      refine ⟨a, C, dx, _, _, rfl, ha, T.own.cl, T.nT, fl_top _ _ _, ?_⟩
      walk_at "go"
      refine ⟨a, C, dx, _, _, rfl, ha, T.own.cl, T.nP, fl_power _ _ _, ?_⟩
      walk_at "go"
      refine g_II (shl_small (by omega) (by omega) (lt_pow_mono (a := 53) (by omega) (by decide))) ?_
      refine g_mulI (sgn_mul ho.1) ?_
      walk_at "go"
      refine g_new (sz rfl) fun b H2 nb s2 hb _ => ?_
      rw [if_neg hp, if_neg hp] at q
      exact q _ _ nb s2 hb
/-! infinity -/
theorem sc_infinity : FnScope ["sign"] ["sign"] (defScope s_infinity) := ⟨rfl, rfl, rfl, by decide +kernel, rfl, by decide +kernel, by decide +kernel⟩
def sp_infinity (C : Addr) : Sp := fun vs H Q _ => ∃ s, vs = [.int s] ∧ (s = 1 ∨ s = -1) ∧ RetF C H s (.str "inf") 0 Q
theorem mk_inf {s : Int} (hs : s = 1 ∨ s = -1) : MkOk s (.str "inf") 0 := ⟨hs, .inr (.inl ⟨rfl, rfl⟩)⟩
theorem ok_infinity {f : Addr} {fd : FuncData} (F : FunD K "infinity" "infinity" (defArgs s_infinity) (defBody s_infinity) (defScope s_infinity) [] [] f fd) (c_Float : CnF P w K mg base C) : FnOk P w K mg base CX0 4 f fd ["sign"] (sp_infinity C) := by
  refine F.ok sc_infinity (fun vs H Q E h => ?_) (fun cdv A outer s H vs Q E hr h => ?_)
  · obtain ⟨a, rfl, _⟩ := h; rfl
  · obtain ⟨sg, rfl, hs, q⟩ := h
    refine ⟨_, PSs.nox (pss_one (ps_ret (pe_cn c_Float (hr.mono (by first | decide | omega)) pass0 (pa_cons (pv 0) (pa_cons pe_str (pa_cons pe_int pa_nil)))))), ?_⟩
    walk_at "go"
    exact mkF (mk_inf hs) q
/-! nearest -/
theorem sc_nearest : FnScope ["sign", "top", "bottom", "power", "whole", "rest"] ["sign", "top", "bottom"] (defScope s_nearest) := ⟨rfl, rfl, rfl, by decide +kernel, rfl, by decide +kernel, by decide +kernel⟩
/-- what is handed to Float -/
def nearV (t b : Nat) : V × Int := if t = 0 then (.int 0, 0) else if (bitsN (nrW t b) : Int) + nrP2 t b > 1024 then (.str "inf", 0) else (.int (nrW t b : Int), nrP2 t b)
theorem near_mk {s : Int} {t b : Nat} (hs : s = 1 ∨ s = -1) (hb : 0 < b) : MkOk s (nearV t b).1 (nearV t b).2 := by
  unfold nearV
  by_cases h0 : t = 0
  · rw [if_pos h0]
    exact mk_of_flok (n := 0) hs (by decide) (by decide) (by decide)
  · rw [if_neg h0]
    by_cases h1 : (bitsN (nrW t b) : Int) + nrP2 t b > 1024
    · rw [if_pos h1]
      exact mk_inf hs
    · rw [if_neg h1]
      exact mk_of_flok hs (nrW_le hb) (nrP2_lo t b) (by omega)
def sp_nearest (C : Addr) : Sp := fun vs H Q _ => ∃ (s : Int) (t b : Nat), vs = [.int s, .int t, .int b] ∧ (s = 1 ∨ s = -1) ∧ 0 < b ∧ bitsN t ≤ 6000 ∧ bitsN b ≤ 6000 ∧ RetF C H s (redV (nearV t b).1 (nearV t b).2).1 (redV (nearV t b).1 (nearV t b).2).2 Q
theorem fdiv_nat (a b : Nat) : (a : Int).fdiv (b : Int) = ((a / b : Nat) : Int) := by
  rw [Int.fdiv_eq_ediv_of_nonneg _ (by omega)]; rfl
theorem log2_lt {b k : Nat} (h : b < 2 ^ k) (hk : 0 < k) : b.log2 < k := by
  by_cases h0 : b = 0
  · subst h0; simpa using hk
  · exact (Nat.log2_lt h0).mpr h
theorem land_one (n : Nat) : Builtin.bitAnd (n : Int) 1 = ((n % 2 : Nat) : Int) := by
  rw [PyProof.Rows.bitAnd_pp (by omega) (by decide)]
  show ((n &&& 1 : Nat) : Int) = _
  rw [Nat.and_one_is_mod]
theorem ok_nearest {f : Addr} {fd : FuncData} (F : FunD K "nearest" "nearest" (defArgs s_nearest) (defBody s_nearest) (defScope s_nearest) [] [] f fd) (B : Blt mg) (i_ROOM : ∃ t, mg "ROOM" = some (.int 9007199254740992 t)) (i_LOWEST : ∃ t, mg "LOWEST" = some (.int (-1074) t)) (i_TOO_GREAT : ∃ t, mg "TOO_GREAT" = some (.int 1024 t))
    (c_Float : CnF P w K mg base C) (c_infinity : Fn P w K mg base CX0 4 "infinity" ["sign"] [] (sp_infinity C)) : FnOk P w K mg base CX0 5 f fd ["sign", "top", "bottom"] (sp_nearest C) := by
  refine F.ok sc_nearest (fun vs H Q E h => ?_) (fun cdv A outer s H vs Q E hr h => ?_)
  · obtain ⟨_, _, _, rfl, _⟩ := h; rfl
  · obtain ⟨sg, t, b, rfl, hs, hb, ht, hbb, q⟩ := h
    have mk := near_mk (t := t) (b := b) hs hb
    refine ⟨_, PSs.nox (pss_cons (ps_if (pt_cmpR (op_oEq hr.units) (pv 1) pe_int (nomark _)) (pss_one (ps_ret (pe_cn c_Float (hr.mono (by first | decide | omega)) pass0 (pa_cons (pv 0) (pa_cons pe_int (pa_cons pe_int pa_nil)))))) pss_nil)
  (pss_cons (ps_set (i := 3) sc_nearest.nd rfl (Or.inl rfl) (pe_callB (call_max2 rfl) (by rfl) B.max (by decide +kernel) (pa_cons (pe_op op_oSub (pe_op op_oSub (pe_bits (pv 1)) (pe_bits (pv 2))) pe_int) (pa_cons (pe_gint i_LOWEST) pa_nil))))
  (C8.pss_cut (ps_if (pt_cmpR op_oLt (pv 3) pe_int (nomark _)) (pss_one (ps_set (i := 1) sc_nearest.nd rfl (Or.inl rfl) (pe_op op_oShl (pv 1) (pe_op op_oSub pe_int (pv 3))))) (pss_one (ps_set (i := 2) sc_nearest.nd rfl (Or.inl rfl) (pe_op op_oShl (pv 2) (pv 3)))))
  (C8.pss_cut (ps_if (pt_cmpR op_oGe (pe_op op_oDiv (pv 1) (pv 2)) (pe_gint i_ROOM) (nomark _)) (pss_cons (ps_set (i := 2) sc_nearest.nd rfl (Or.inl rfl) (pe_op op_oShl (pv 2) pe_int))
  (pss_one (ps_set (i := 3) sc_nearest.nd rfl (Or.inl rfl) (pe_op op_oAdd (pv 3) pe_int)))) pss_nil)
  (pss_cons (ps_asg (pe_callB call_divmodK (by rfl) B.divmod (by decide +kernel) (pa_cons (pv 1) (pa_cons (pv 2) pa_nil))) (pg_tup rfl (pgs_cons (pg_name (i := 4) sc_nearest.nd rfl (Or.inl rfl)) (pgs_cons (pg_name (i := 5) sc_nearest.nd rfl (Or.inl rfl)) pgs_nil))))
  (C8.pss_cut (ps_if (PW.pt (pw_or (pt_cmpR op_oGt (pe_op op_oMul pe_int (pv 5)) (pv 2) (nomark _)) (pw_or1 (PW.pt (pw_and (pt_cmpR (op_oEq hr.units) (pe_op op_oMul pe_int (pv 5)) (pv 2) (nomark _)) (pw_and1 (pt_cmpR (op_oEq hr.units) (pe_op op_oAnd (pv 4) pe_int) pe_int (nomark _)))))))) (pss_one (ps_set (i := 4) sc_nearest.nd rfl (Or.inl rfl) (pe_op op_oAdd (pv 4) pe_int))) pss_nil)
  (pss_cons (ps_if (pt_cmpR op_oGt (pe_op op_oAdd (pe_bits (pv 4)) (pv 3)) (pe_gint i_TOO_GREAT) (nomark _)) (pss_one (ps_ret (pe_fn c_infinity (hr.mono (by first | decide | omega)) pass0 (pa_cons (pv 0) pa_nil)))) pss_nil)
  (pss_one (ps_ret (pe_cn c_Float (hr.mono (by first | decide | omega)) pass0 (pa_cons (pv 0) (pa_cons (pv 4) (pa_cons (pv 3) pa_nil))))))))))))), ?_⟩
    walk_at "go"
    refine g_ite (fun h0 => ?_) fun h0 => ?_
    · walk_at "go"
      have h0 : t = 0 := by omega
      have e : nearV t b = (.int 0, 0) := if_pos h0
      rw [e] at q mk
      exact mkF mk q
    · have h0 : t ≠ 0 := by omega
      walk_at "go"
      rw [intBits_nat, intBits_nat]
      have eP : (if (-1074 : Int) > ((bitsN t : Nat) : Int) - ((bitsN b : Nat) : Int) - 53 then (-1074 : Int) else ((bitsN t : Nat) : Int) - ((bitsN b : Nat) : Int) - 53) = nrP t b := rfl
      rw [eP]
      have p1 := nrP_lo t b
      have p2 := nrP_hi (t := t) (b := b)
      walk_at "go"
      refine g_cut (fun σ' H2 => σ' = [some (.int sg), some (.int (nrT t (nrP t b) : Nat)), some (.int (nrB b (nrP t b) : Nat)), some (.int (nrP t b)), none, none] ∧ H = H2) ?_ ?_
      · walk_at "go"
        refine g_ite (fun hp => ?_) fun hp => ?_
        · walk_at "go"
          refine g_II (shl_small (by omega) (by omega) (lt_pow_mono (bits_lt t) (by omega))) ?_
          walk_at "go"
          refine ⟨?_, rfl⟩
          unfold nrT nrB
          rw [if_pos hp, if_pos hp]
          simp [L2.start]
        · walk_at "go"
          refine g_II (shl_small (by omega) (by omega) (lt_pow_mono (bits_lt b) (by omega))) ?_
          walk_at "go"
          refine ⟨?_, rfl⟩
          unfold nrT nrB
          rw [if_neg hp, if_neg hp]
          simp [L2.start]
      · rintro σ' _ ⟨rfl, rfl⟩
        have hB := nrB_pos hb (nrP t b)
        have hB2 := nrB2_pos (t := t) hb
        have hbit := nrB2_bits (m := 6000) ht hbb hb
        have hbit1 : nrB b (nrP t b) < 2 ^ 6001 := by
          unfold nrB2 at hbit
          split at hbit <;> omega
        walk_at "go"
        refine g_cut (fun σ' H2 => σ' = [some (.int sg), some (.int (nrT t (nrP t b) : Nat)), some (.int (nrB2 t b : Nat)), some (.int (nrP2 t b)), none, none] ∧ H = H2) ?_ ?_
        · walk_at "go"
          refine g_divI (by omega) (by rw [Int.natAbs_natCast]; exact Nat.lt_trans (log2_lt hbit1 (by decide)) (by decide)) ?_
          rw [fdiv_nat]
          walk_at "go"
          refine g_ite (fun hg => ?_) fun hg => ?_
          · have hg' : nrBig t b = true := decide_eq_true (Int.ofNat_le.mp (show ((9007199254740992 : Nat) : Int) ≤ _ from hg))
            walk_at "go"
            refine g_II (shl_small (by decide) (by decide) (lt_pow_mono hbit1 (by decide))) ?_
            walk_at "go"
            refine ⟨?_, rfl⟩
            unfold nrB2 nrP2
            rw [if_pos hg', if_pos hg']
            simp
          · have hg' : ¬ nrBig t b = true := fun z => hg (Int.ofNat_le.mpr (of_decide_eq_true z))
            walk_at "go"
            refine ⟨?_, rfl⟩
            unfold nrB2 nrP2
            rw [if_neg hg', if_neg hg']
        · rintro σ' _ ⟨rfl, rfl⟩
          walk_at "go"
          refine ⟨_, _, rfl, ⟨by omega, by rw [Int.natAbs_natCast]; exact Nat.lt_trans (log2_lt hbit (by decide)) (by decide)⟩, fun a H2 na s2 ha _ => ?_⟩
          walk_at "go"
          refine ⟨a, _, rfl, SqT.of ha, rfl, ?_⟩
          walk_at "go"
          have eQ : ((nrT t (nrP t b) : Nat) : Int) / ((nrB2 t b : Nat) : Int) = ((nrQ t b : Nat) : Int) := rfl
          have eR : ((nrT t (nrP t b) : Nat) : Int) % ((nrB2 t b : Nat) : Int) = ((nrR t b : Nat) : Int) := rfl
          rw [eQ, eR]
          refine g_cut (fun σ' H3 => σ' = [some (.int sg), some (.int (nrT t (nrP t b) : Nat)), some (.int (nrB2 t b : Nat)), some (.int (nrP2 t b)), some (.int (nrW t b : Nat)), some (.int (nrR t b : Nat))] ∧ H2 = H3) ?_ ?_
          · have up : ∀ (c : Bool), nrUp t b = c → nrW t b = if c then nrQ t b + 1 else nrQ t b := fun c h => by unfold nrW; rw [h]
            walk_at "go"
            refine g_mulI (.of_left (by decide)) ?_
            walk_at "go"
            refine g_ite (fun h1 => ?_) fun h1 => ?_
            · walk_at "go"
              refine ⟨?_, rfl⟩
              rw [up true (by unfold nrUp; rw [decide_eq_true (show nrB2 t b < 2 * nrR t b by omega)]; rfl)]
              simp
            · walk_at "go"
              refine g_mulI (.of_left (by decide)) ?_
              walk_at "go"
              refine g_ite (fun h2 => ?_) fun h2 => ?_
              · walk_at "go"
                rw [land_one]
                refine g_ite (fun h3 => ?_) fun h3 => ?_
                · walk_at "go"
                  refine ⟨?_, rfl⟩
                  rw [up true (by unfold nrUp; rw [decide_eq_true (show 2 * nrR t b = nrB2 t b by omega), decide_eq_true (show nrQ t b % 2 = 1 by omega), Bool.and_self, Bool.or_true])]
                  simp
                · walk_at "go"
                  refine ⟨?_, rfl⟩
                  rw [up false (by unfold nrUp; rw [decide_eq_false (show ¬ nrB2 t b < 2 * nrR t b by omega), decide_eq_false (show ¬ nrQ t b % 2 = 1 by omega), Bool.and_false, Bool.or_false])]
                  simp
              · walk_at "go"
                refine ⟨?_, rfl⟩
                rw [up false (by unfold nrUp; rw [decide_eq_false (show ¬ nrB2 t b < 2 * nrR t b by omega), decide_eq_false (show ¬ 2 * nrR t b = nrB2 t b by omega), Bool.false_and, Bool.or_false])]
                simp
          · rintro σ' _ ⟨rfl, rfl⟩
            have q2 : RetF C H2 sg (redV (nearV t b).1 (nearV t b).2).1 (redV (nearV t b).1 (nearV t b).2).2 Q := fun H' x nx sx hx => q H' x (s2.free nx) (s2.trans sx) hx
            walk_at "go"
            rw [intBits_nat]
            refine g_ite (fun h1 => ?_) fun h1 => ?_
            · walk_at "go"
              have e : nearV t b = (.str "inf", 0) := by unfold nearV; rw [if_neg h0, if_pos h1]
              rw [e] at q2
              exact ⟨sg, rfl, hs, q2⟩
            · walk_at "go"
              have e : nearV t b = (.int (nrW t b : Int), nrP2 t b) := by unfold nearV; rw [if_neg h0, if_neg h1]
              rw [e] at q2 mk
              exact mkF mk q2
end
end Up

set_option Elab.async false
set_option linter.all false
set_option maxRecDepth 100000
set_option maxHeartbeats 4000000
set_option exponentiation.threshold 200000
namespace Up
open PySem PySem.Spec PyProof.Rows L2
local macro_rules | `(tactic| walk_at "u") => `(tactic| first
  | with_reducible refine g_seq ?_
  | with_reducible refine g_asg ?_
  | with_reducible refine g_op ?_
  | ((with_reducible show tVar _ _ _ _); apply g_var; exact rfl)
  | with_reducible refine g_c ?_
  | with_reducible refine g_name ?_
  | with_reducible refine g_ifs ?_
  | with_reducible refine g_tt ?_
  | with_reducible refine g_tB ?_
  | with_reducible refine g_bl ?_
  | with_reducible refine g_ret ?_
  | with_reducible refine g_cb ?_
  | with_reducible refine g_cons ?_
  | with_reducible refine g_nil ?_
  | with_reducible refine g_call ?_
  | with_reducible refine g_and ?_
  | with_reducible refine g_or ?_
  | with_reducible refine g_not ?_
  | with_reducible refine g_andV ?_
  | with_reducible refine g_orV ?_
  | with_reducible refine g_notV ?_
  | with_reducible refine g_if ?_
  | with_reducible refine g_un ?_
  | with_reducible refine g_neg ?_
  | with_reducible refine g_addI ?_
  | with_reducible refine g_subI ?_
  | with_reducible refine g_subB ?_
  | with_reducible refine g_I0 ?_
  | with_reducible refine g_cmpI ?_
  | with_reducible refine g_eqI ?_
  | with_reducible refine g_neI ?_
  | with_reducible refine g_eqS ?_
  | with_reducible refine g_neS ?_
  | with_reducible refine g_eqB ?_
  | with_reducible refine g_neB ?_
  | with_reducible refine g_bits ?_
  | with_reducible refine g_bitsI ?_
  | with_reducible refine g_fld ?_
  | with_reducible refine g_tup ?_
  | with_reducible refine g_lst ?_
  | with_reducible refine g_gtup ?_
  | with_reducible refine g_make ?_
  | with_reducible refine g_lc ?_
  | with_reducible refine g_yesT ?_
  | with_reducible refine g_intI ?_
  | with_reducible refine g_intB ?_
  | with_reducible refine g_max2 ?_
  | with_reducible refine g_abs1 ?_
  | with_reducible refine g_for ?_
  | with_reducible refine g_iList ?_
  | with_reducible refine g_iTup ?_
  | with_reducible refine g_iRng1 ?_
  | with_reducible refine g_iEnum ?_
  | with_reducible refine g_slice ?_
  | with_reducible refine g_po0 ?_
  | with_reducible refine g_po1 ?_
  | with_reducible refine g_gsub ?_
  | with_reducible refine g_par ?_
  | with_reducible refine g_par2 ?_
  | with_reducible refine g_rfl ?_
  | with_reducible refine g_meth ?_
  | with_reducible refine g_gcons ?_
  | with_reducible refine g_gnil ?_
  | with_reducible refine g_gfld ?_
  | with_reducible refine g_sfld ?_
  | with_reducible refine g_drop ?_
  | with_reducible refine g_next ?_
  | with_reducible refine iteT ?_
  | with_reducible refine iteF ?_)
local macro_rules | `(tactic| walk_at "go") => `(tactic| (repeat walk_at "u"))

section
variable {P : Program} {w : World} {K : PySem.W.Frag} {mg : Str → Option Value} {base : Heap} {C : Addr}
/-! ### kinds, Float asked too -/
structure KnF (K : PySem.W.Frag) (C : Addr) (H : Hp) (x : V) (t : Value) (b : Bool) : Prop where
  kn : Kn K H x t
  fl : PySem.W.kitOne K t (.ref C) = some b
theorem KnF.same {H H' : Hp} {x : V} {t : Value} {b : Bool} (h : KnF K C H x t b) (s : Same H H') : KnF K C H' x t b := ⟨h.kn.same s, h.fl⟩
theorem g_isiF {H : Hp} {Q : VK} {x : V} {t : Value} {b : Bool} (h : KnF K C H x t b) (q : Q (.bl b) H) : rIsi K [x, .ref C] H Q := g_isi h.kn.ty (.own _) h.fl q
theorem kf_int (T : FlC K mg C) {H : Hp} {i : Int} : KnF K C H (.int i) (.type "int") false := ⟨kn_int, T.fi⟩
theorem kf_bl (T : FlC K mg C) {H : Hp} {i : Bool} : KnF K C H (.bl i) (.type "bool") false := ⟨kn_bl, T.fb⟩
theorem kf_str (T : FlC K mg C) {H : Hp} {i : Str} : KnF K C H (.str i) (.type "str") false := ⟨kn_str, T.fs⟩
theorem kf_non (T : FlC K mg C) {H : Hp} : KnF K C H .non (.type "NoneType") false := ⟨kn_non, T.fn⟩
theorem kf_fl (T : FlC K mg C) {H : Hp} {a : Addr} {s : Int} {t : V} {p : Int} (h : FlAt C H a s t p) : KnF K C H (.ref a) (.ref C) true := by
  obtain ⟨dx, h⟩ := h
  exact ⟨kn_ins T.own h, T.yes⟩
def isF : Nm → Bool
  | .i _ => false
  | .f _ _ _ => true
theorem NumAt.kf (T : FlC K mg C) {H : Hp} {v : V} : ∀ {n : Nm}, NumAt C H v n → ∃ t, KnF K C H v t (isF n) ∧ isI v = !isF n ∧ isB v = false
  | .i n, h => by
    have h : v = .int n := h
    subst h
    exact ⟨_, kf_int T, rfl, rfl⟩
  | .f s t p, ⟨a, e, h, _⟩ => by
    subst e
    exact ⟨_, kf_fl T h, rfl, rfl⟩
/-! to_float -/
theorem sc_tofloat : FnScope ["number"] ["number"] (defScope s_tofloat) := ⟨rfl, rfl, rfl, by decide +kernel, rfl, by decide +kernel, by decide +kernel⟩
def bigOk (k : Int) : Prop := k.natAbs < 2 ^ 5000
/-- the float of an int: sign, top, power -/
def tfS (k : Int) : Int := if k < 0 then -1 else 1
def tfR (k : Int) : V × Int := redV (nearV k.natAbs 1).1 (nearV k.natAbs 1).2
def sp_tofloat (C : Addr) : Sp := fun vs H Q _ => ∃ v n, vs = [v] ∧ NumAt C H v n ∧ match n with
  | .f _ _ _ => Q v H
  | .i k => bigOk k ∧ RetF C H (tfS k) (tfR k).1 (tfR k).2 Q
theorem ok_tofloat {f : Addr} {fd : FuncData} (F : FunD K "to_float" "to_float" (defArgs s_tofloat) (defBody s_tofloat) (defScope s_tofloat) [] [] f fd) (B : Blt mg) (T : FlC K mg C) (c_nearest : Fn P w K mg base CX0 5 "nearest" ["sign", "top", "bottom"] [] (sp_nearest C)) (c_signof : Fn P w K mg base CX0 1 "sign_of" ["is_negative"] [] sp_signof) :
    FnOk P w K mg base CX0 6 f fd ["number"] (sp_tofloat C) := by
  have g_Float : mg "Float" = some (.ref C) := T.mg
  refine F.ok sc_tofloat (fun vs H Q E h => ?_) (fun cdv A outer s H vs Q E hr h => ?_)
  · obtain ⟨x, n, rfl, _⟩ := h; rfl
  · obtain ⟨x, n, rfl, hn, q⟩ := h
    refine ⟨_, PSs.nox (pss_cons (ps_if (pt_val (pe_callB call_isi (by rfl) B.isinstance (by decide +kernel) (pa_cons (pv 0) (pa_cons (pe_gref g_Float) pa_nil)))) (pss_one (ps_ret (pv 0))) pss_nil)
  (pss_one (ps_ret (pe_fn c_nearest (hr.mono (by first | decide | omega)) pass0 (pa_cons (pe_fn c_signof (hr.mono (by first | decide | omega)) pass0 (pa_cons (pe_cmpR op_oLt (pv 0) pe_int (nomark _)) pa_nil)) (pa_cons (pe_callB call_abs (by rfl) B.abs (by decide +kernel) (pa_cons (pv 0) pa_nil)) (pa_cons pe_int pa_nil))))))), ?_⟩
    obtain ⟨t, hk, _, _⟩ := hn.kf T
    walk_at "go"
    refine g_isiF hk ?_
    walk_at "go"
    cases n with
    | f sg tp p =>
      refine iteT ?_
      walk_at "go"
      exact q
    | i k =>
      have hn : x = .int k := hn
      subst hn
      obtain ⟨hb, q⟩ := q
      refine iteF ?_
      walk_at "go"
      refine ⟨_, rfl, ?_⟩
      walk_at "go"
      have e1 : sgnB (decide (k < 0)) = tfS k := by unfold sgnB tfS; by_cases h : k < 0 <;> simp [h]
      have e2 : (if k < 0 then -k else k) = (k.natAbs : Int) := by split <;> omega
      rw [e1, e2]
      refine ⟨tfS k, k.natAbs, 1, rfl, by unfold tfS; split <;> simp, by decide, Nat.le_trans (bits_le hb) (by decide), by decide, q⟩
theorem mul_small {i j : Int} (hi : i.natAbs < 2 ^ 100000) (hj : j.natAbs < 2 ^ 100000) : IntMulOk i j := (mulx_ok hi hj (by decide)).ok
theorem natAbs_mul_lt {x y : Int} {a b : Nat} (hx : x.natAbs < 2 ^ a) (hy : y.natAbs < 2 ^ b) : (x * y).natAbs < 2 ^ (a + b) := by
  rw [Int.natAbs_mul, Nat.pow_add]
  exact Nat.mul_lt_mul'' hx hy
theorem sgn_abs {s : Int} (hs : s = 1 ∨ s = -1) (x : Int) : (s * x).natAbs = x.natAbs := by
  rw [Int.natAbs_mul]; rcases hs with rfl | rfl <;> simp
theorem tf_mk (k : Int) : MkOk (tfS k) (nearV k.natAbs 1).1 (nearV k.natAbs 1).2 := near_mk (by unfold tfS; split <;> simp) (by decide)
/-- a float made again of its own parts -/
theorem mk_again {s : Int} {t : V} {p : Int} (h : FlOk s t p) : MkOk s t p := by
  obtain ⟨hs, h⟩ := h
  rcases h with ⟨rfl, h1, rfl⟩ | ⟨rfl, rfl⟩ | ⟨n, rfl, f1, f2, f3, f4, f5⟩
  · exact ⟨hs, .inl ⟨rfl, h1, rfl⟩⟩
  · exact ⟨hs, .inr (.inl ⟨rfl, rfl⟩)⟩
  · obtain ⟨k, rfl⟩ := Int.eq_ofNat_of_zero_le f1
    rw [intBits_nat] at f4
    exact mk_of_flok hs (by omega) f3 f4
theorem small64 {k : Int} (h1 : -(2 ^ 65) ≤ k) (h2 : k ≤ 2 ^ 65) : k.natAbs < 2 ^ 1000 := lt_pow_mono (a := 66) (by omega) (by decide)
theorem big64 {k : Int} (h1 : -(2 ^ 65) ≤ k) (h2 : k ≤ 2 ^ 65) : bigOk k := lt_pow_mono (a := 66) (by omega) (by decide)
end
end Up

set_option Elab.async false
set_option linter.all false
set_option maxRecDepth 100000
set_option maxHeartbeats 4000000
set_option exponentiation.threshold 200000
namespace Up
open PySem PySem.Spec PyProof.Rows L2
local macro_rules | `(tactic| walk_at "u") => `(tactic| first
  | with_reducible refine g_seq ?_
  | with_reducible refine g_asg ?_
  | with_reducible refine g_op ?_
  | ((with_reducible show tVar _ _ _ _); apply g_var; exact rfl)
  | with_reducible refine g_c ?_
  | with_reducible refine g_name ?_
  | with_reducible refine g_ifs ?_
  | with_reducible refine g_tt ?_
  | with_reducible refine g_tB ?_
  | with_reducible refine g_bl ?_
  | with_reducible refine g_ret ?_
  | with_reducible refine g_cb ?_
  | with_reducible refine g_cons ?_
  | with_reducible refine g_nil ?_
  | with_reducible refine g_call ?_
  | with_reducible refine g_and ?_
  | with_reducible refine g_or ?_
  | with_reducible refine g_not ?_
  | with_reducible refine g_andV ?_
  | with_reducible refine g_orV ?_
  | with_reducible refine g_notV ?_
  | with_reducible refine g_if ?_
  | with_reducible refine g_un ?_
  | with_reducible refine g_neg ?_
  | with_reducible refine g_addI ?_
  | with_reducible refine g_subI ?_
  | with_reducible refine g_subB ?_
  | with_reducible refine g_I0 ?_
  | with_reducible refine g_cmpI ?_
  | with_reducible refine g_eqI ?_
  | with_reducible refine g_neI ?_
  | with_reducible refine g_eqS ?_
  | with_reducible refine g_neS ?_
  | with_reducible refine g_eqB ?_
  | with_reducible refine g_neB ?_
  | with_reducible refine g_bits ?_
  | with_reducible refine g_bitsI ?_
  | with_reducible refine g_fld ?_
  | with_reducible refine g_tup ?_
  | with_reducible refine g_lst ?_
  | with_reducible refine g_gtup ?_
  | with_reducible refine g_make ?_
  | with_reducible refine g_lc ?_
  | with_reducible refine g_yesT ?_
  | with_reducible refine g_intI ?_
  | with_reducible refine g_intB ?_
  | with_reducible refine g_max2 ?_
  | with_reducible refine g_abs1 ?_
  | with_reducible refine g_for ?_
  | with_reducible refine g_iList ?_
  | with_reducible refine g_iTup ?_
  | with_reducible refine g_iRng1 ?_
  | with_reducible refine g_iEnum ?_
  | with_reducible refine g_slice ?_
  | with_reducible refine g_po0 ?_
  | with_reducible refine g_po1 ?_
  | with_reducible refine g_gsub ?_
  | with_reducible refine g_par ?_
  | with_reducible refine g_par2 ?_
  | with_reducible refine g_rfl ?_
  | with_reducible refine g_meth ?_
  | with_reducible refine g_gcons ?_
  | with_reducible refine g_gnil ?_
  | with_reducible refine g_gfld ?_
  | with_reducible refine g_sfld ?_
  | with_reducible refine g_drop ?_
  | with_reducible refine g_next ?_
  | with_reducible refine iteT ?_
  | with_reducible refine iteF ?_)
local macro_rules | `(tactic| walk_at "go") => `(tactic| (repeat walk_at "u"))

/-! ### floats by their parts -/
structure FL where
  s : Int
  t : V
  p : Int
def FL.ok (x : FL) : Prop := FlOk x.s x.t x.p
def FA (C : Addr) (H : Hp) (v : V) (x : FL) : Prop := ∃ a, v = .ref a ∧ FlAt C H a x.s x.t x.p
theorem FA.same {C : Addr} {H H' : Hp} {v : V} {x : FL} (h : FA C H v x) (e : Same H H') : FA C H' v x := by
  obtain ⟨a, rfl, h⟩ := h
  exact ⟨a, rfl, h.same e⟩
def RetN (C : Addr) (H : Hp) (x : FL) (Q : VK) : Prop := ∀ H' v, Same H H' → FA C H' v x → Q v H'
theorem RetN.later {C : Addr} {H H1 : Hp} {x : FL} {Q : VK} (q : RetN C H x Q) (s : Same H H1) : RetN C H1 x Q := fun H' v s' h => q H' v (s.trans s') h
theorem RetN.to {C : Addr} {H : Hp} {x : FL} {Q : VK} (q : RetN C H x Q) : RetF C H x.s x.t x.p Q := fun H' a _ s h => q H' _ s ⟨a, rfl, h⟩
def mkL (s : Int) (v : V × Int) : FL := ⟨s, (redV v.1 v.2).1, (redV v.1 v.2).2⟩
def nanL : FL := ⟨1, .str "nan", 0⟩
def infL (s : Int) : FL := ⟨s, .str "inf", 0⟩
def zeroL (s : Int) : FL := ⟨s, .int 0, 0⟩
def nearL (s : Int) (t b : Nat) : FL := mkL s (nearV t b)
theorem near_zero (s : Int) (b : Nat) : nearL s 0 b = zeroL s := rfl
theorem mkL_ok {s : Int} {v : V × Int} (h : MkOk s v.1 v.2) : (mkL s v).ok := mk_flok h
theorem near_ok {s : Int} {t b : Nat} (hs : s = 1 ∨ s = -1) (hb : 0 < b) : (nearL s t b).ok := mkL_ok (near_mk hs hb)
theorem nan_ok : nanL.ok := ⟨.inl rfl, .inl ⟨rfl, rfl, rfl⟩⟩
theorem inf_ok {s : Int} (hs : s = 1 ∨ s = -1) : (infL s).ok := ⟨hs, .inr (.inl ⟨rfl, rfl⟩)⟩
theorem zero_mk {s : Int} (hs : s = 1 ∨ s = -1) : MkOk s (.int 0) 0 := mk_of_flok (n := 0) hs (by decide) (by decide) (by decide)
theorem zero_ok {s : Int} (hs : s = 1 ∨ s = -1) : (zeroL s).ok := mkL_ok (v := (.int 0, 0)) (zero_mk hs)
theorem FL.ok.is {x : FL} (h : x.ok) : IS x.t := by
  rcases h.2 with ⟨e, _⟩ | ⟨e, _⟩ | ⟨n, e, _⟩
  · exact .inr ⟨_, e⟩
  · exact .inr ⟨_, e⟩
  · exact .inl ⟨_, e⟩
theorem FL.ok.fin {x : FL} (h : x.ok) (h1 : x.t ≠ .str "nan") (h2 : x.t ≠ .str "inf") : ∃ n, x.t = .int n ∧ FinOk n x.p := by
  rcases h.2 with ⟨e, _⟩ | ⟨e, _⟩ | h
  · exact absurd e h1
  · exact absurd e h2
  · exact h
/-- made again of its own parts it is the same -/
theorem red_again {s : Int} {t : V} {p : Int} (h : FlOk s t p) : redV t p = (t, p) := by
  rcases h.2 with ⟨rfl, _, rfl⟩ | ⟨rfl, rfl⟩ | ⟨n, rfl, f1, f2, f3, f4, f5, f6⟩
  · rfl
  · rfl
  · by_cases h0 : n = 0
    · subst h0
      rw [f5 rfl]; rfl
    · obtain ⟨k, rfl⟩ := Int.eq_ofNat_of_zero_le f1
      have ho : k % 2 = 1 := by have := f6 h0; omega
      rw [red_nat (by omega), tz_odd ho]
      simp
def nI : V → Int
  | .int n => n
  | _ => 0
def nx (x : FL) : Int := ratN x.s (nI x.t) x.p
def dx (x : FL) : Int := ratD x.p
theorem rat_small {s n p : Int} (h : FlOk s (.int n) p) : (ratN s n p).natAbs < 2 ^ 1100 ∧ (ratD p).natAbs < 2 ^ 1100 ∧ 0 < ratD p := by
  have hf := fin_of h
  have hs := h.1
  have hhi := hf.hi
  obtain ⟨f1, f2, f3, f4, f5⟩ := hf
  have hm : n.natAbs < 2 ^ 53 := by omega
  unfold ratN ratD
  by_cases hp : p < 0
  · rw [if_pos hp, if_pos hp, sgn_abs hs]
    refine ⟨lt_pow_mono hm (by decide), ?_, Int.pow_pos (by decide)⟩
    rw [Int.natAbs_pow]
    exact Nat.pow_lt_pow_right (by decide) (by omega)
  · rw [if_neg hp, if_neg hp, sgn_abs hs]
    refine ⟨?_, lt_pow_mono (a := 1) (by decide) (by decide), by decide⟩
    rw [Int.natAbs_mul, Int.natAbs_pow]
    have h1 : n.natAbs * Int.natAbs 2 ^ p.toNat < 2 ^ 53 * 2 ^ p.toNat := Nat.mul_lt_mul_of_pos_right hm (Nat.two_pow_pos _)
    rw [← Nat.pow_add] at h1
    exact lt_pow_mono h1 (by omega)
theorem FL.ok.small {x : FL} (h : x.ok) {n : Int} (e : x.t = .int n) : (nx x).natAbs < 2 ^ 1100 ∧ (dx x).natAbs < 2 ^ 1100 ∧ 0 < dx x := by
  have h : FlOk x.s x.t x.p := h
  unfold nx dx
  rw [e] at h ⊢
  exact rat_small h
def maxI (i j : Int) : Int := if j > i then j else i
theorem maxI_sgn {i j : Int} (hi : i = 1 ∨ i = -1) (hj : j = 1 ∨ j = -1) : maxI i j = 1 ∨ maxI i j = -1 := by
  unfold maxI; split
  · exact hj
  · exact hi
theorem tfS_sgn (k : Int) : tfS k = 1 ∨ tfS k = -1 := by unfold tfS; split <;> simp
theorem mul_sgn {i j : Int} (hi : i = 1 ∨ i = -1) (hj : j = 1 ∨ j = -1) : i * j = 1 ∨ i * j = -1 := by
  rcases hi with rfl | rfl <;> rcases hj with rfl | rfl <;> simp
/-! what is reckoned -/
def addL (x y : FL) : FL :=
  if x.t = .str "inf" ∨ y.t = .str "inf" then (if x.t = y.t ∧ x.s ≠ y.s then nanL else if x.t = .str "inf" then x else y)
  else if x.t = .int 0 ∧ y.t = .int 0 then zeroL (maxI x.s y.s)
  else nearL (tfS (nx x * dx y + nx y * dx x)) (nx x * dx y + nx y * dx x).natAbs (dx x * dx y).natAbs
def mulL (x y : FL) : FL :=
  if x.t = .str "inf" ∨ y.t = .str "inf" then (if x.t = .int 0 ∨ y.t = .int 0 then nanL else infL (x.s * y.s))
  else nearL (x.s * y.s) (nx x * nx y).natAbs (dx x * dx y).natAbs
def divL (x y : FL) : FL :=
  if x.t = .str "inf" then (if y.t = .str "inf" then nanL else infL (x.s * y.s))
  else if y.t = .str "inf" then zeroL (x.s * y.s)
  else if y.t = .int 0 then (if x.t = .int 0 then nanL else infL (x.s * y.s))
  else nearL (x.s * y.s) (nx x * dx y).natAbs (dx x * nx y).natAbs
def negL (x : FL) : FL := ⟨0 - x.s, x.t, x.p⟩
def byL (c : Str) (x y : FL) : FL :=
  if x.t = .str "nan" ∨ y.t = .str "nan" then nanL
  else if c = "add" then addL x y else if c = "sub" then addL x (negL y) else if c = "mul" then mulL x y else divL x y
section
variable {P : Program} {w : World} {K : PySem.W.Frag} {mg : Str → Option Value} {base : Heap} {C : Addr}
section
variable {H : Hp} {a : Addr} {s : Int} {t : V} {p : Int} {T : V → Prop}
theorem show_ex {p : Addr → Prop} (h : ∃ a, p a) : ∃ a, p a := h
theorem fS (O : FlC K mg C) (h : FlAt C H a s t p) (q : T (.int s)) : ∃ a' C' dx fs v, V.ref a = .ref a' ∧ H a' = some (.ins C' dx fs) ∧ Cls K C' ∧ NoAttr K C' "sign" ∧ fs.lookup ("sign" : Str) = some v ∧ T v := by
  obtain ⟨dx, h⟩ := h
  exact ⟨a, C, dx, _, _, rfl, h, O.own.cl, O.nS, fl_sign _ _ _, q⟩
theorem fT (O : FlC K mg C) (h : FlAt C H a s t p) (q : T t) : ∃ a' C' dx fs v, V.ref a = .ref a' ∧ H a' = some (.ins C' dx fs) ∧ Cls K C' ∧ NoAttr K C' "top" ∧ fs.lookup ("top" : Str) = some v ∧ T v := by
  obtain ⟨dx, h⟩ := h
  exact ⟨a, C, dx, _, _, rfl, h, O.own.cl, O.nT, fl_top _ _ _, q⟩
theorem fP (O : FlC K mg C) (h : FlAt C H a s t p) (q : T (.int p)) : ∃ a' C' dx fs v, V.ref a = .ref a' ∧ H a' = some (.ins C' dx fs) ∧ Cls K C' ∧ NoAttr K C' "power" ∧ fs.lookup ("power" : Str) = some v ∧ T v := by
  obtain ⟨dx, h⟩ := h
  exact ⟨a, C, dx, _, _, rfl, h, O.own.cl, O.nP, fl_power _ _ _, q⟩
theorem g_rat {Q : VK} {E : XK} {n : Int} (h : FlAt C H a s (.int n) p) (o : FlOk s (.int n) p) (q : RetT H [.int (ratN s n p), .int (ratD p)] Q) :
    ∃ a' dx fs, V.ref a = .ref a' ∧ H a' = some (.ins C dx fs) ∧ fs.lookup ("ratio" : Str) = none ∧ tNil [] H fun vs H2 => sp_ratio C (V.ref a :: (vs ++ [])) H2 Q E := by
  obtain ⟨d, h'⟩ := id h
  exact ⟨a, d, _, rfl, h', rfl, a, s, n, p, rfl, h, o, q⟩
end
/-- Float(..) -/
theorem mkN {H : Hp} {Q : VK} {E : XK} {s : Int} {top : V} {p : Int} (hk : MkOk s top p) (q : RetN C H (mkL s (top, p)) Q) : MakeR C (sp_Finit C) ([.int s, top, .int p] ++ []) H Q E := mkF hk q.to
end
end Up

set_option Elab.async false
set_option linter.all false
set_option maxRecDepth 100000
set_option maxHeartbeats 4000000
set_option exponentiation.threshold 200000
namespace Up
open PySem PySem.Spec PyProof.Rows L2
local macro_rules | `(tactic| walk_at "u") => `(tactic| first
  | with_reducible refine g_seq ?_
  | with_reducible refine g_asg ?_
  | with_reducible refine g_op ?_
  | ((with_reducible show tVar _ _ _ _); apply g_var; exact rfl)
  | with_reducible refine g_c ?_
  | with_reducible refine g_name ?_
  | with_reducible refine g_ifs ?_
  | with_reducible refine g_tt ?_
  | with_reducible refine g_tB ?_
  | with_reducible refine g_bl ?_
  | with_reducible refine g_ret ?_
  | with_reducible refine g_cb ?_
  | with_reducible refine g_cons ?_
  | with_reducible refine g_nil ?_
  | with_reducible refine g_call ?_
  | with_reducible refine g_and ?_
  | with_reducible refine g_or ?_
  | with_reducible refine g_not ?_
  | with_reducible refine g_andV ?_
  | with_reducible refine g_orV ?_
  | with_reducible refine g_notV ?_
  | with_reducible refine g_if ?_
  | with_reducible refine g_un ?_
  | with_reducible refine g_neg ?_
  | with_reducible refine g_addI ?_
  | with_reducible refine g_subI ?_
  | with_reducible refine g_subB ?_
  | with_reducible refine g_I0 ?_
  | with_reducible refine g_cmpI ?_
  | with_reducible refine g_eqI ?_
  | with_reducible refine g_neI ?_
  | with_reducible refine g_eqS ?_
  | with_reducible refine g_neS ?_
  | with_reducible refine g_eqB ?_
  | with_reducible refine g_neB ?_
  | with_reducible refine g_bits ?_
  | with_reducible refine g_bitsI ?_
  | with_reducible refine g_fld ?_
  | with_reducible refine g_tup ?_
  | with_reducible refine g_lst ?_
  | with_reducible refine g_gtup ?_
  | with_reducible refine g_make ?_
  | with_reducible refine g_lc ?_
  | with_reducible refine g_yesT ?_
  | with_reducible refine g_intI ?_
  | with_reducible refine g_intB ?_
  | with_reducible refine g_max2 ?_
  | with_reducible refine g_abs1 ?_
  | with_reducible refine g_for ?_
  | with_reducible refine g_iList ?_
  | with_reducible refine g_iTup ?_
  | with_reducible refine g_iRng1 ?_
  | with_reducible refine g_iEnum ?_
  | with_reducible refine g_slice ?_
  | with_reducible refine g_po0 ?_
  | with_reducible refine g_po1 ?_
  | with_reducible refine g_gsub ?_
  | with_reducible refine g_par ?_
  | with_reducible refine g_par2 ?_
  | with_reducible refine g_rfl ?_
  | with_reducible refine g_meth ?_
  | with_reducible refine g_gcons ?_
  | with_reducible refine g_gnil ?_
  | with_reducible refine g_gfld ?_
  | with_reducible refine g_sfld ?_
  | with_reducible refine g_drop ?_
  | with_reducible refine g_next ?_
  | with_reducible refine iteT ?_
  | with_reducible refine iteF ?_)
local macro_rules | `(tactic| walk_at "go") => `(tactic| (repeat walk_at "u"))
local macro_rules | `(tactic| walk_at "f") => `(tactic| (repeat (first
  | walk_at "u"
  | with_reducible refine g_chain ?_
  | with_reducible refine g_par3 ?_
  | with_reducible refine g_par3' ?_
  | ((with_reducible refine show_ex ?_); first
    | refine fT (by assumption) (by assumption) ?_
    | refine fS (by assumption) (by assumption) ?_
    | refine fP (by assumption) (by assumption) ?_))))

section
variable {P : Program} {w : World} {K : PySem.W.Frag} {mg : Str → Option Value} {base : Heap} {C : Addr}
/-! nan -/
theorem sc_nan : FnScope [] [] (defScope s_nan) := ⟨rfl, rfl, rfl, by decide +kernel, rfl, by decide +kernel, by decide +kernel⟩
theorem nan_mk : MkOk 1 (.str "nan") 0 := ⟨.inl rfl, .inl ⟨rfl, rfl, rfl⟩⟩
def sp_nan (C : Addr) : Sp := fun vs H Q _ => vs = [] ∧ RetN C H nanL Q
theorem ok_nan {f : Addr} {fd : FuncData} (F : FunD K "nan" "nan" (defArgs s_nan) (defBody s_nan) (defScope s_nan) [] [] f fd) (c_Float : CnF P w K mg base C) : FnOk P w K mg base CX0 4 f fd [] (sp_nan C) := by
  refine F.ok sc_nan (fun vs H Q E h => ?_) (fun cdv A outer s H vs Q E hr h => ?_)
  · obtain ⟨rfl, _⟩ := h; rfl
  · obtain ⟨rfl, q⟩ := h
    refine ⟨_, PSs.nox (pss_one (ps_ret (pe_cn c_Float (hr.mono (by first | decide | omega)) pass0 (pa_cons pe_int (pa_cons pe_str (pa_cons pe_int pa_nil)))))), ?_⟩
    walk_at "go"
    exact mkN nan_mk q
/-! Float.__eq__ -/
theorem sc_Float_eq : FnScope ["self", "other"] ["self", "other"] (defScope s_Float_eq) := ⟨rfl, rfl, rfl, by decide +kernel, rfl, by decide +kernel, by decide +kernel⟩
def eqL (x y : FL) : Bool := decide (x.s = y.s) && (decide (x.t = y.t) && decide (x.p = y.p))
theorem eqL_refl (x : FL) : eqL x x = true := by unfold eqL; simp
def tpD (x : FL) : PyData := .tuple [.int x.s, dV x.t, .int x.p]
theorem tp_shape {x : FL} (h : x.ok) : SeqAt.shaped (tpD x) = true := by
  have h : FlOk x.s x.t x.p := h
  unfold tpD
  rcases h.2 with ⟨e, _⟩ | ⟨e, _⟩ | ⟨n, e, _⟩
  · rw [e]; show SeqAt.shaped (.tuple [.int x.s, .str "nan", .int x.p]) = true; unfold SeqAt.shaped; simp only [PyData.canLay0, PyData.canLayAll0, Bool.true_and, Bool.and_true, Bool.and_eq_true, decide_eq_true_eq]; exact ⟨by decide +kernel, by simp [PyData.depth, PyData.depthAll]⟩
  · rw [e]; show SeqAt.shaped (.tuple [.int x.s, .str "inf", .int x.p]) = true; unfold SeqAt.shaped; simp only [PyData.canLay0, PyData.canLayAll0, Bool.true_and, Bool.and_true, Bool.and_eq_true, decide_eq_true_eq]; exact ⟨by decide +kernel, by simp [PyData.depth, PyData.depthAll]⟩
  · rw [e]; rfl
theorem tp_eqv {x y : FL} (hx : x.ok) (hy : y.ok) : PyData.eqv (tpD x) (tpD y) = eqL x y := by
  unfold tpD eqL
  simp only [PyData.eqv, PyData.eqvAll, hx.is.eqv hy.is, Bool.and_true]
  have e : ∀ i j : Int, (i == j) = decide (i = j) := fun i j => by by_cases h : i = j <;> simp [h]
  rw [e, e]
def sp_Feq (C : Addr) : Sp := fun vs H Q _ => ∃ v u x y, vs = [v, u] ∧ FA C H v x ∧ FA C H u y ∧ x.ok ∧ y.ok ∧ ∀ H', Same H H' → Q (.bl (eqL x y)) H'
theorem ok_Feq {f : Addr} {fd : FuncData} (F : FunD K "__eq__" "Float.__eq__" (defArgs s_Float_eq) (defBody s_Float_eq) (defScope s_Float_eq) [] [] f fd) (B : Blt mg) (T : FlC K mg C) : FnOk P w K mg base CX0 1 f fd ["self", "other"] (sp_Feq C) := by
  have g_Float : mg "Float" = some (.ref C) := T.mg
  refine F.ok sc_Float_eq (fun vs H Q E h => ?_) (fun cdv A outer s H vs Q E hr h => ?_)
  · obtain ⟨_, _, _, _, rfl, _⟩ := h; rfl
  · obtain ⟨_, _, x, y, rfl, ⟨a, rfl, ha⟩, ⟨b, rfl, hb⟩, ox, oy, q⟩ := h
    refine ⟨_, PSs.nox (pss_cons (ps_if (pt_not (pt_val (pe_callB call_isi (by rfl) B.isinstance (by decide +kernel) (pa_cons (pv 1) (pa_cons (pe_gref g_Float) pa_nil))))) (pss_one ps_never) pss_nil)
  (pss_one (ps_ret (pe_cmpR (op_oEq hr.units) (pe_tupN (pa_cons (pe_fld (pv 0) rfl) (pa_cons (pe_fld (pv 0) rfl) (pa_cons (pe_fld (pv 0) rfl) pa_nil)))) (pe_tupN (pa_cons (pe_fld (pv 1) rfl) (pa_cons (pe_fld (pv 1) rfl) (pa_cons (pe_fld (pv 1) rfl) pa_nil)))) (nomark _))))), ?_⟩
    walk_at "f"
    refine g_isiF (kf_fl T hb) ?_
    walk_at "f"
    refine iteF ?_
    walk_at "f"
    refine g_new (sz rfl) fun c H1 n1 s1 h1 _ => ?_
    have ha := ha.same s1
    have hb := hb.same s1
    walk_at "f"
    refine g_new (sz rfl) fun d H2 n2 s2 h2 _ => ?_
    refine .inr ⟨tpD x, tpD y, .tup (SqT.of (s2 _ _ h1)) (.cons (.int _) (.cons ox.is.dp (.cons (.int _) .nil))), .tup (SqT.of h2) (.cons (.int _) (.cons oy.is.dp (.cons (.int _) .nil))), tp_shape ox, tp_shape oy, ?_⟩
    rw [tp_eqv ox oy]
    exact q _ (s1.trans s2)
/-! added -/
theorem sc_added : FnScope ["one", "other", "first", "second", "top"] ["one", "other"] (defScope s_added) := ⟨rfl, rfl, rfl, by decide +kernel, rfl, by decide +kernel, by decide +kernel⟩
theorem cast_abs {k : Int} (h : 0 < k) : ((k.natAbs : Nat) : Int) = k := by omega
theorem abs_if (k : Int) : (if k < 0 then -k else k) = (k.natAbs : Int) := by split <;> omega
theorem add_lt {x y : Int} {a : Nat} (hx : x.natAbs < 2 ^ a) (hy : y.natAbs < 2 ^ a) : (x + y).natAbs < 2 ^ (a + 1) := by
  rw [Nat.pow_succ]; omega
theorem dd_pos {x y : Int} (hx : 0 < x) (hy : 0 < y) : 0 < (x * y).natAbs := by
  have := Int.mul_pos hx hy
  omega
theorem bits6 {n a : Nat} (h : n < 2 ^ a) (ha : a ≤ 6000) : bitsN n ≤ 6000 := Nat.le_trans (bits_le h) ha
def sp_added (C : Addr) : Sp := fun vs H Q _ => ∃ v u x y, vs = [v, u] ∧ FA C H v x ∧ FA C H u y ∧ x.ok ∧ y.ok ∧ x.t ≠ .str "nan" ∧ y.t ≠ .str "nan" ∧ RetN C H (addL x y) Q
abbrev CNear (P : Program) (w : World) (K : PySem.W.Frag) (mg : Str → Option Value) (base : Heap) (C : Addr) : Prop := Fn P w K mg base CX0 5 "nearest" ["sign", "top", "bottom"] [] (sp_nearest C)
abbrev CSign (P : Program) (w : World) (K : PySem.W.Frag) (mg : Str → Option Value) (base : Heap) : Prop := Fn P w K mg base CX0 1 "sign_of" ["is_negative"] [] sp_signof
abbrev CRat (P : Program) (w : World) (K : PySem.W.Frag) (mg : Str → Option Value) (base : Heap) (C : Addr) : Prop := Mt P w K mg base CX0 1 C "ratio" ["self"] (sp_ratio C)
abbrev CNan (P : Program) (w : World) (K : PySem.W.Frag) (mg : Str → Option Value) (base : Heap) (C : Addr) : Prop := Fn P w K mg base CX0 4 "nan" [] [] (sp_nan C)
abbrev CInf (P : Program) (w : World) (K : PySem.W.Frag) (mg : Str → Option Value) (base : Heap) (C : Addr) : Prop := Fn P w K mg base CX0 4 "infinity" ["sign"] [] (sp_infinity C)
theorem ok_added {f : Addr} {fd : FuncData} (F : FunD K "added" "added" (defArgs s_added) (defBody s_added) (defScope s_added) [] [] f fd) (B : Blt mg) (T : FlC K mg C) (c_Float : CnF P w K mg base C) (c_nan : CNan P w K mg base C) (c_ratio : CRat P w K mg base C) (c_nearest : CNear P w K mg base C) (c_signof : CSign P w K mg base) :
    FnOk P w K mg base CX0 6 f fd ["one", "other"] (sp_added C) := by
  refine F.ok sc_added (fun vs H Q E h => ?_) (fun cdv A outer s H vs Q E hr h => ?_)
  · obtain ⟨_, _, _, _, rfl, _⟩ := h; rfl
  · obtain ⟨_, _, x, y, rfl, ⟨a, rfl, ha⟩, ⟨b, rfl, hb⟩, ox, oy, nx1, ny1, q⟩ := h
    refine ⟨_, PSs.nox (pss_cons (ps_if (PW.pt (pw_or (pt_cmpR (op_oEq hr.units) (pe_fld (pv 0) rfl) pe_str (nomark _)) (pw_or1 (pt_cmpR (op_oEq hr.units) (pe_fld (pv 1) rfl) pe_str (nomark _))))) (pss_cons (ps_if (PW.pt (pw_and (pt_cmpR (op_oEq hr.units) (pe_fld (pv 0) rfl) (pe_fld (pv 1) rfl) (nomark _)) (pw_and1 (pt_cmpR (op_oNe hr.units) (pe_fld (pv 0) rfl) (pe_fld (pv 1) rfl) (nomark _))))) (pss_one (ps_ret (pe_fn0 c_nan (hr.mono (by first | decide | omega)) pass0))) pss_nil)
  (pss_one (ps_ret (pe_ifExp (pt_cmpR (op_oEq hr.units) (pe_fld (pv 0) rfl) pe_str (nomark _)) (pv 0) (pv 1))))) pss_nil)
  (C8.pss_cut (ps_if (PW.pt (pw_and (pt_cmpR (op_oEq hr.units) (pe_fld (pv 0) rfl) pe_int (nomark _)) (pw_and1 (pt_cmpR (op_oEq hr.units) (pe_fld (pv 1) rfl) pe_int (nomark _))))) (pss_one (ps_ret (pe_cn c_Float (hr.mono (by first | decide | omega)) pass0 (pa_cons (pe_callB (call_max2 rfl) (by rfl) B.max (by decide +kernel) (pa_cons (pe_fld (pv 0) rfl) (pa_cons (pe_fld (pv 1) rfl) pa_nil))) (pa_cons pe_int (pa_cons pe_int pa_nil)))))) pss_nil)
  (pss_cons (ps_par (i := 2) (j := 3) rfl sc_added.nd rfl rfl (by decide) rfl rfl (pa_cons (pe_mt0 c_ratio (hr.mono (by first | decide | omega)) pass0 (pv 0)) (pa_cons (pe_mt0 c_ratio (hr.mono (by first | decide | omega)) pass0 (pv 1)) pa_nil)) (by rfl))
  (pss_cons (ps_set (i := 4) sc_added.nd rfl (Or.inl rfl) (pe_op op_oAdd (pe_op op_oMul (pe_ix ix_seq (pv 2) pe_int (fun _ _ => rfl)) (pe_ix ix_seq (pv 3) pe_int (fun _ _ => rfl))) (pe_op op_oMul (pe_ix ix_seq (pv 3) pe_int (fun _ _ => rfl)) (pe_ix ix_seq (pv 2) pe_int (fun _ _ => rfl)))))
  (pss_one (ps_ret (pe_fn c_nearest (hr.mono (by first | decide | omega)) pass0 (pa_cons (pe_fn c_signof (hr.mono (by first | decide | omega)) pass0 (pa_cons (pe_cmpR op_oLt (pv 4) pe_int (nomark _)) pa_nil)) (pa_cons (pe_callB call_abs (by rfl) B.abs (by decide +kernel) (pa_cons (pv 4) pa_nil)) (pa_cons (pe_op op_oMul (pe_ix ix_seq (pv 2) pe_int (fun _ _ => rfl)) (pe_ix ix_seq (pv 3) pe_int (fun _ _ => rfl))) pa_nil)))))))))), ?_⟩
    unfold addL at q
    have fin : (¬ x.t = .str "inf") → (¬ y.t = .str "inf") → ¬ (x.t = .int 0 ∧ y.t = .int 0) → RetN C H (nearL (tfS (nx x * dx y + nx y * dx x)) (nx x * dx y + nx y * dx x).natAbs (dx x * dx y).natAbs) Q := fun h1 h2 h3 => by
      rw [if_neg (fun z => z.elim h1 h2), if_neg h3] at q; exact q
    have inf : (x.t = .str "inf" ∨ y.t = .str "inf") → RetN C H (if x.t = y.t ∧ x.s ≠ y.s then nanL else if x.t = .str "inf" then x else y) Q := fun h => by rw [if_pos h] at q; exact q
    walk_at "f"
    refine g_eqV (ox.is.scal (.str _)) ?_
    walk_at "f"
    have infw : (x.t = .str "inf" ∨ y.t = .str "inf") → RetN C H (if x.t = y.t ∧ x.s ≠ y.s then nanL else if x.t = .str "inf" then x else y) Q := inf
    refine g_ite (fun h1 => ?_) fun h1 => ?_
    · walk_at "f"
      refine g_eqV (ox.is.scal oy.is) ?_
      walk_at "f"
      have q := inf (.inl h1)
      refine g_ite (fun h2 => ?_) fun h2 => ?_
      · walk_at "f"
        refine g_iten (fun h3 => ?_) fun h3 => ?_
        · walk_at "f"
          rw [if_pos ⟨h2, h3⟩] at q
          exact ⟨rfl, q⟩
        · walk_at "f"
          refine g_eqV (ox.is.scal (.str _)) ?_
          walk_at "f"
          refine g_yes h1 ?_
          walk_at "f"
          rw [if_neg (fun z => z.2 h3), if_pos h1] at q
          exact q _ _ (Same.refl _) ⟨a, rfl, ha⟩
      · walk_at "f"
        refine g_eqV (ox.is.scal (.str _)) ?_
        walk_at "f"
        refine g_yes h1 ?_
        walk_at "f"
        rw [if_neg (fun z => h2 z.1), if_pos h1] at q
        exact q _ _ (Same.refl _) ⟨a, rfl, ha⟩
    · walk_at "f"
      refine g_eqV (oy.is.scal (.str _)) ?_
      walk_at "f"
      refine g_ite (fun h1' => ?_) fun h1' => ?_
      · walk_at "f"
        refine g_eqV (ox.is.scal oy.is) ?_
        walk_at "f"
        have q := inf (.inr h1')
        refine g_no (fun z => h1 (z.trans h1')) ?_
        walk_at "f"
        refine g_eqV (ox.is.scal (.str _)) ?_
        walk_at "f"
        refine g_no h1 ?_
        walk_at "f"
        rw [if_neg (fun z => h1 (z.1.trans h1')), if_neg h1] at q
        exact q _ _ (Same.refl _) ⟨b, rfl, hb⟩
      · obtain ⟨n, en, fn⟩ := ox.fin nx1 h1
        obtain ⟨m, em, fm⟩ := oy.fin ny1 h1'
        obtain ⟨x1, x2, x3⟩ := ox.small en
        obtain ⟨y1, y2, y3⟩ := oy.small em
        have q' := q
        rw [if_neg (fun z => z.elim h1 h1')] at q'
        walk_at "f"
        refine g_cut (fun σ' H2 => σ' = [some (.ref a), some (.ref b), none, none, none] ∧ H2 = H ∧ ¬ (x.t = .int 0 ∧ y.t = .int 0)) ?_ ?_
        · walk_at "f"
          refine g_eqV (ox.is.scal (.int _)) ?_
          walk_at "f"
          refine g_ite (fun h2 => ?_) fun h2 => ?_
          · walk_at "f"
            refine g_eqV (oy.is.scal (.int _)) ?_
            walk_at "f"
            refine g_ite (fun h3 => ?_) fun h3 => ?_
            · walk_at "f"
              rw [if_pos ⟨h2, h3⟩] at q'
              exact mkN (zero_mk (maxI_sgn ox.1 oy.1)) q'
            · walk_at "f"
              exact ⟨rfl, rfl, fun z => h3 z.2⟩
          · walk_at "f"
            exact ⟨rfl, rfl, fun z => h2 z.1⟩
        · rintro _ _ ⟨rfl, rfl, hz⟩
          rw [if_neg hz] at q'
          rw [en] at ha
          rw [em] at hb
          have ox' : FlOk x.s (.int n) x.p := en ▸ ox
          have oy' : FlOk y.s (.int m) y.p := em ▸ oy
          have enx : ratN x.s n x.p = nx x := by unfold nx; rw [en]; rfl
          have eny : ratN y.s m y.p = nx y := by unfold nx; rw [em]; rfl
          walk_at "f"
          refine g_rat ha ox' fun H1 c n1 s1 h1c => ?_
          rw [enx] at h1c
          walk_at "f"
          refine g_rat (hb.same s1) oy' fun H2 d n2 s2 h2d => ?_
          rw [eny] at h2d
          have h1c := s2 _ _ h1c
          walk_at "f"
          refine g_ixT h1c rfl ?_
          walk_at "f"
          refine g_ixT h2d rfl ?_
          refine g_mulI (mul_small (lt_pow_mono x1 (by decide)) (lt_pow_mono y2 (by decide))) ?_
          walk_at "f"
          refine g_ixT h2d rfl ?_
          walk_at "f"
          refine g_ixT h1c rfl ?_
          refine g_mulI (mul_small (lt_pow_mono y1 (by decide)) (lt_pow_mono x2 (by decide))) ?_
          walk_at "f"
          refine ⟨_, rfl, ?_⟩
          walk_at "f"
          refine g_ixT h1c rfl ?_
          walk_at "f"
          refine g_ixT h2d rfl ?_
          refine g_mulI (mul_small (lt_pow_mono x2 (by decide)) (lt_pow_mono y2 (by decide))) ?_
          walk_at "f"
          have ez : ratD x.p * ratD y.p = (((dx x * dx y).natAbs : Nat) : Int) := (cast_abs (Int.mul_pos x3 y3)).symm
          have es : sgnB (decide (nx x * ratD y.p + nx y * ratD x.p < 0)) = tfS (nx x * dx y + nx y * dx x) := by unfold sgnB tfS; by_cases h : nx x * dx y + nx y * dx x < 0 <;> simp [h] <;> simpa [dx] using h
          rw [es, abs_if, ez]
          exact ⟨_, _, _, rfl, tfS_sgn _, dd_pos x3 y3, bits6 (add_lt (natAbs_mul_lt x1 y2) (natAbs_mul_lt y1 x2)) (by decide), bits6 (natAbs_mul_lt x2 y2) (by decide), (q'.later (s1.trans s2)).to⟩
/-! multiplied -/
theorem sc_multiplied : FnScope ["one", "other", "sign", "first", "second"] ["one", "other"] (defScope s_multiplied) := ⟨rfl, rfl, rfl, by decide +kernel, rfl, by decide +kernel, by decide +kernel⟩
def sp_multiplied (C : Addr) : Sp := fun vs H Q _ => ∃ v u x y, vs = [v, u] ∧ FA C H v x ∧ FA C H u y ∧ x.ok ∧ y.ok ∧ x.t ≠ .str "nan" ∧ y.t ≠ .str "nan" ∧ RetN C H (mulL x y) Q
theorem inf_to {H : Hp} {Q : VK} {E : XK} {s : Int} (hs : s = 1 ∨ s = -1) (q : RetN C H (infL s) Q) : sp_infinity C ([.int s] ++ []) H Q E := ⟨s, rfl, hs, q.to⟩
theorem ok_multiplied {f : Addr} {fd : FuncData} (F : FunD K "multiplied" "multiplied" (defArgs s_multiplied) (defBody s_multiplied) (defScope s_multiplied) [] [] f fd) (B : Blt mg) (T : FlC K mg C) (c_nan : CNan P w K mg base C) (c_infinity : CInf P w K mg base C) (c_ratio : CRat P w K mg base C) (c_nearest : CNear P w K mg base C) :
    FnOk P w K mg base CX0 6 f fd ["one", "other"] (sp_multiplied C) := by
  refine F.ok sc_multiplied (fun vs H Q E h => ?_) (fun cdv A outer s H vs Q E hr h => ?_)
  · obtain ⟨_, _, _, _, rfl, _⟩ := h; rfl
  · obtain ⟨_, _, x, y, rfl, ⟨a, rfl, ha⟩, ⟨b, rfl, hb⟩, ox, oy, nx1, ny1, q⟩ := h
    refine ⟨_, PSs.nox (pss_cons (ps_set (i := 2) sc_multiplied.nd rfl (Or.inl rfl) (pe_op op_oMul (pe_fld (pv 0) rfl) (pe_fld (pv 1) rfl)))
  (C8.pss_cut (ps_if (PW.pt (pw_or (pt_cmpR (op_oEq hr.units) (pe_fld (pv 0) rfl) pe_str (nomark _)) (pw_or1 (pt_cmpR (op_oEq hr.units) (pe_fld (pv 1) rfl) pe_str (nomark _))))) (pss_one (ps_ret (pe_ifExp (pt_cmpR op_in_seq pe_int (pe_tupN (pa_cons (pe_fld (pv 0) rfl) (pa_cons (pe_fld (pv 1) rfl) pa_nil))) (by rfl)) (pe_fn0 c_nan (hr.mono (by first | decide | omega)) pass0) (pe_fn c_infinity (hr.mono (by first | decide | omega)) pass0 (pa_cons (pv 2) pa_nil))))) pss_nil)
  (pss_cons (ps_par (i := 3) (j := 4) rfl sc_multiplied.nd rfl rfl (by decide) rfl rfl (pa_cons (pe_mt0 c_ratio (hr.mono (by first | decide | omega)) pass0 (pv 0)) (pa_cons (pe_mt0 c_ratio (hr.mono (by first | decide | omega)) pass0 (pv 1)) pa_nil)) (by rfl))
  (pss_one (ps_ret (pe_fn c_nearest (hr.mono (by first | decide | omega)) pass0 (pa_cons (pv 2) (pa_cons (pe_callB call_abs (by rfl) B.abs (by decide +kernel) (pa_cons (pe_op op_oMul (pe_ix ix_seq (pv 3) pe_int (fun _ _ => rfl)) (pe_ix ix_seq (pv 4) pe_int (fun _ _ => rfl))) pa_nil)) (pa_cons (pe_op op_oMul (pe_ix ix_seq (pv 3) pe_int (fun _ _ => rfl)) (pe_ix ix_seq (pv 4) pe_int (fun _ _ => rfl))) pa_nil))))))))), ?_⟩
    unfold mulL at q
    have hs := mul_sgn ox.1 oy.1
    walk_at "f"
    refine g_mulI (sgn_mul ox.1) ?_
    walk_at "f"
    refine g_cut (fun σ' H2 => σ' = [some (.ref a), some (.ref b), some (.int (x.s * y.s)), none, none] ∧ H2 = H ∧ ¬ (x.t = .str "inf" ∨ y.t = .str "inf")) ?_ ?_
    · have inf : (x.t = .str "inf" ∨ y.t = .str "inf") → RetN C H (if x.t = .int 0 ∨ y.t = .int 0 then nanL else infL (x.s * y.s)) Q := fun h => by rw [if_pos h] at q; exact q
      walk_at "f"
      refine g_eqV (ox.is.scal (.str _)) ?_
      walk_at "f"
      refine g_ite (fun h1 => ?_) fun h1 => ?_
      · have q := inf (.inl h1)
        walk_at "f"
        refine g_new (sz rfl) fun c H1 n1 s1 h1c _ => ?_
        refine g_in2 h1c (.int _) ox.is oy.is ?_
        walk_at "f"
        refine g_ite (fun h2 => ?_) fun h2 => ?_
        · walk_at "f"
          rw [if_pos h2] at q
          exact ⟨rfl, q.later s1⟩
        · walk_at "f"
          rw [if_neg h2] at q
          exact inf_to hs (q.later s1)
      · walk_at "f"
        refine g_eqV (oy.is.scal (.str _)) ?_
        walk_at "f"
        refine g_ite (fun h1' => ?_) fun h1' => ?_
        · have q := inf (.inr h1')
          walk_at "f"
          refine g_new (sz rfl) fun c H1 n1 s1 h1c _ => ?_
          refine g_in2 h1c (.int _) ox.is oy.is ?_
          walk_at "f"
          refine g_ite (fun h2 => ?_) fun h2 => ?_
          · walk_at "f"
            rw [if_pos h2] at q
            exact ⟨rfl, q.later s1⟩
          · walk_at "f"
            rw [if_neg h2] at q
            exact inf_to hs (q.later s1)
        · walk_at "f"
          exact ⟨rfl, rfl, fun z => z.elim h1 h1'⟩
    · rintro _ _ ⟨rfl, rfl, hz⟩
      rw [if_neg hz] at q
      obtain ⟨n, en, fn⟩ := ox.fin nx1 fun z => hz (.inl z)
      obtain ⟨m, em, fm⟩ := oy.fin ny1 fun z => hz (.inr z)
      obtain ⟨x1, x2, x3⟩ := ox.small en
      obtain ⟨y1, y2, y3⟩ := oy.small em
      rw [en] at ha
      rw [em] at hb
      have ox' : FlOk x.s (.int n) x.p := en ▸ ox
      have oy' : FlOk y.s (.int m) y.p := em ▸ oy
      have enx : ratN x.s n x.p = nx x := by unfold nx; rw [en]; rfl
      have eny : ratN y.s m y.p = nx y := by unfold nx; rw [em]; rfl
      walk_at "f"
      refine g_rat ha ox' fun H1 c n1 s1 h1c => ?_
      rw [enx] at h1c
      walk_at "f"
      refine g_rat (hb.same s1) oy' fun H2 d n2 s2 h2d => ?_
      rw [eny] at h2d
      have h1c := s2 _ _ h1c
      walk_at "f"
      refine g_ixT h1c rfl ?_
      walk_at "f"
      refine g_ixT h2d rfl ?_
      refine g_mulI (mul_small (lt_pow_mono x1 (by decide)) (lt_pow_mono y1 (by decide))) ?_
      walk_at "f"
      refine g_ixT h1c rfl ?_
      walk_at "f"
      refine g_ixT h2d rfl ?_
      refine g_mulI (mul_small (lt_pow_mono x2 (by decide)) (lt_pow_mono y2 (by decide))) ?_
      walk_at "f"
      have ez : ratD x.p * ratD y.p = (((dx x * dx y).natAbs : Nat) : Int) := (cast_abs (Int.mul_pos x3 y3)).symm
      rw [abs_if, ez]
      exact ⟨_, _, _, rfl, hs, dd_pos x3 y3, bits6 (natAbs_mul_lt x1 y1) (by decide), bits6 (natAbs_mul_lt x2 y2) (by decide), (q.later (s1.trans s2)).to⟩
/-! divided -/
theorem sc_divided : FnScope ["one", "other", "sign", "first", "second"] ["one", "other"] (defScope s_divided) := ⟨rfl, rfl, rfl, by decide +kernel, rfl, by decide +kernel, by decide +kernel⟩
def sp_divided (C : Addr) : Sp := fun vs H Q _ => ∃ v u x y, vs = [v, u] ∧ FA C H v x ∧ FA C H u y ∧ x.ok ∧ y.ok ∧ x.t ≠ .str "nan" ∧ y.t ≠ .str "nan" ∧ RetN C H (divL x y) Q
theorem nx_zero {x : FL} (h : x.ok) {n : Int} (e : x.t = .int n) (h0 : ¬ x.t = .int 0) : nx x ≠ 0 := by
  have hn : n ≠ 0 := fun z => h0 (by rw [e, z])
  have hs : x.s ≠ 0 := by rcases h.1 with z | z <;> rw [z] <;> decide
  unfold nx ratN
  rw [e]
  show (if x.p < 0 then x.s * n else x.s * (n * 2 ^ x.p.toNat)) ≠ 0
  have hp : (2 : Int) ^ x.p.toNat ≠ 0 := Int.ne_of_gt (Int.pow_pos (by decide))
  split
  · exact Int.mul_ne_zero hs hn
  · exact Int.mul_ne_zero hs (Int.mul_ne_zero hn hp)
theorem ok_divided {f : Addr} {fd : FuncData} (F : FunD K "divided" "divided" (defArgs s_divided) (defBody s_divided) (defScope s_divided) [] [] f fd) (B : Blt mg) (T : FlC K mg C) (c_Float : CnF P w K mg base C) (c_nan : CNan P w K mg base C) (c_infinity : CInf P w K mg base C) (c_ratio : CRat P w K mg base C) (c_nearest : CNear P w K mg base C) :
    FnOk P w K mg base CX0 6 f fd ["one", "other"] (sp_divided C) := by
  refine F.ok sc_divided (fun vs H Q E h => ?_) (fun cdv A outer s H vs Q E hr h => ?_)
  · obtain ⟨_, _, _, _, rfl, _⟩ := h; rfl
  · obtain ⟨_, _, x, y, rfl, ⟨a, rfl, ha⟩, ⟨b, rfl, hb⟩, ox, oy, nx1, ny1, q⟩ := h
    refine ⟨_, PSs.nox (pss_cons (ps_set (i := 2) sc_divided.nd rfl (Or.inl rfl) (pe_op op_oMul (pe_fld (pv 0) rfl) (pe_fld (pv 1) rfl)))
  (pss_cons (ps_if (pt_cmpR (op_oEq hr.units) (pe_fld (pv 0) rfl) pe_str (nomark _)) (pss_one (ps_ret (pe_ifExp (pt_cmpR (op_oEq hr.units) (pe_fld (pv 1) rfl) pe_str (nomark _)) (pe_fn0 c_nan (hr.mono (by first | decide | omega)) pass0) (pe_fn c_infinity (hr.mono (by first | decide | omega)) pass0 (pa_cons (pv 2) pa_nil))))) pss_nil)
  (pss_cons (ps_if (pt_cmpR (op_oEq hr.units) (pe_fld (pv 1) rfl) pe_str (nomark _)) (pss_one (ps_ret (pe_cn c_Float (hr.mono (by first | decide | omega)) pass0 (pa_cons (pv 2) (pa_cons pe_int (pa_cons pe_int pa_nil)))))) pss_nil)
  (pss_cons (ps_if (pt_cmpR (op_oEq hr.units) (pe_fld (pv 1) rfl) pe_int (nomark _)) (pss_one (ps_ret (pe_ifExp (pt_cmpR (op_oEq hr.units) (pe_fld (pv 0) rfl) pe_int (nomark _)) (pe_fn0 c_nan (hr.mono (by first | decide | omega)) pass0) (pe_fn c_infinity (hr.mono (by first | decide | omega)) pass0 (pa_cons (pv 2) pa_nil))))) pss_nil)
  (pss_cons (ps_par (i := 3) (j := 4) rfl sc_divided.nd rfl rfl (by decide) rfl rfl (pa_cons (pe_mt0 c_ratio (hr.mono (by first | decide | omega)) pass0 (pv 0)) (pa_cons (pe_mt0 c_ratio (hr.mono (by first | decide | omega)) pass0 (pv 1)) pa_nil)) (by rfl))
  (pss_one (ps_ret (pe_fn c_nearest (hr.mono (by first | decide | omega)) pass0 (pa_cons (pv 2) (pa_cons (pe_callB call_abs (by rfl) B.abs (by decide +kernel) (pa_cons (pe_op op_oMul (pe_ix ix_seq (pv 3) pe_int (fun _ _ => rfl)) (pe_ix ix_seq (pv 4) pe_int (fun _ _ => rfl))) pa_nil)) (pa_cons (pe_callB call_abs (by rfl) B.abs (by decide +kernel) (pa_cons (pe_op op_oMul (pe_ix ix_seq (pv 3) pe_int (fun _ _ => rfl)) (pe_ix ix_seq (pv 4) pe_int (fun _ _ => rfl))) pa_nil)) pa_nil))))))))))), ?_⟩
    unfold divL at q
    have hs := mul_sgn ox.1 oy.1
    walk_at "f"
    refine g_mulI (sgn_mul ox.1) ?_
    walk_at "f"
    refine g_eqV (ox.is.scal (.str _)) ?_
    walk_at "f"
    refine g_ite (fun h1 => ?_) fun h1 => ?_
    · walk_at "f"
      rw [if_pos h1] at q
      refine g_eqV (oy.is.scal (.str _)) ?_
      walk_at "f"
      refine g_ite (fun h2 => ?_) fun h2 => ?_
      · walk_at "f"
        rw [if_pos h2] at q
        exact ⟨rfl, q⟩
      · walk_at "f"
        rw [if_neg h2] at q
        exact inf_to hs q
    · rw [if_neg h1] at q
      walk_at "f"
      refine g_eqV (oy.is.scal (.str _)) ?_
      walk_at "f"
      refine g_ite (fun h2 => ?_) fun h2 => ?_
      · rw [if_pos h2] at q
        walk_at "f"
        exact mkN (zero_mk hs) q
      · rw [if_neg h2] at q
        walk_at "f"
        refine g_eqV (oy.is.scal (.int _)) ?_
        walk_at "f"
        refine g_ite (fun h3 => ?_) fun h3 => ?_
        · rw [if_pos h3] at q
          walk_at "f"
          refine g_eqV (ox.is.scal (.int _)) ?_
          walk_at "f"
          refine g_ite (fun h4 => ?_) fun h4 => ?_
          · walk_at "f"
            rw [if_pos h4] at q
            exact ⟨rfl, q⟩
          · walk_at "f"
            rw [if_neg h4] at q
            exact inf_to hs q
        · rw [if_neg h3] at q
          obtain ⟨n, en, fn⟩ := ox.fin nx1 h1
          obtain ⟨m, em, fm⟩ := oy.fin ny1 h2
          obtain ⟨x1, x2, x3⟩ := ox.small en
          obtain ⟨y1, y2, y3⟩ := oy.small em
          have y4 := nx_zero oy em h3
          rw [en] at ha
          rw [em] at hb
          have ox' : FlOk x.s (.int n) x.p := en ▸ ox
          have oy' : FlOk y.s (.int m) y.p := em ▸ oy
          have enx : ratN x.s n x.p = nx x := by unfold nx; rw [en]; rfl
          have eny : ratN y.s m y.p = nx y := by unfold nx; rw [em]; rfl
          walk_at "f"
          refine g_rat ha ox' fun H1 c n1 s1 h1c => ?_
          rw [enx] at h1c
          walk_at "f"
          refine g_rat (hb.same s1) oy' fun H2 d n2 s2 h2d => ?_
          rw [eny] at h2d
          have h1c := s2 _ _ h1c
          walk_at "f"
          refine g_ixT h1c rfl ?_
          walk_at "f"
          refine g_ixT h2d rfl ?_
          refine g_mulI (mul_small (lt_pow_mono x1 (by decide)) (lt_pow_mono y2 (by decide))) ?_
          walk_at "f"
          refine g_ixT h1c rfl ?_
          walk_at "f"
          refine g_ixT h2d rfl ?_
          refine g_mulI (mul_small (lt_pow_mono x2 (by decide)) (lt_pow_mono y1 (by decide))) ?_
          walk_at "f"
          rw [abs_if, abs_if]
          refine ⟨_, _, _, rfl, hs, ?_, bits6 (natAbs_mul_lt x1 y2) (by decide), bits6 (natAbs_mul_lt x2 y1) (by decide), (q.later (s1.trans s2)).to⟩
          have : ratD x.p * nx y ≠ 0 := Int.mul_ne_zero (Int.ne_of_gt x3) y4
          omega
/-! made with the other sign -/
theorem neg_sgn {s : Int} (hs : s = 1 ∨ s = -1) : 0 - s = 1 ∨ 0 - s = -1 := by rcases hs with rfl | rfl <;> simp
theorem neg_mk {x : FL} (h : x.ok) (h1 : x.t ≠ .str "nan") : MkOk (0 - x.s) x.t x.p ∧ mkL (0 - x.s) (x.t, x.p) = negL x := by
  have h' : FlOk x.s x.t x.p := h
  refine ⟨?_, ?_⟩
  · have hs := neg_sgn h'.1
    rcases h'.2 with ⟨e, _⟩ | ⟨e, e2⟩ | ⟨n, e, f1, f2, f3, f4, f5⟩
    · exact absurd e h1
    · exact ⟨hs, .inr (.inl ⟨e, e2⟩)⟩
    · obtain ⟨k, rfl⟩ := Int.eq_ofNat_of_zero_le f1
      rw [intBits_nat] at f4
      rw [e]
      exact mk_of_flok hs (by omega) f3 f4
  · unfold mkL negL
    rw [red_again h']
theorem neg_ok {x : FL} (h : x.ok) (h1 : x.t ≠ .str "nan") : (negL x).ok := by
  obtain ⟨a, b⟩ := neg_mk h h1
  rw [← b]
  exact mkL_ok a
def toL : Nm → FL
  | .i k => nearL (tfS k) k.natAbs 1
  | .f s t p => ⟨s, t, p⟩
def nBig : Nm → Prop
  | .i k => bigOk k
  | .f _ _ _ => True
theorem NumAt.tok {H : Hp} {v : V} : ∀ {n : Nm}, NumAt C H v n → (toL n).ok
  | .i k, _ => near_ok (tfS_sgn k) (by decide)
  | .f _ _ _, ⟨_, _, _, h⟩ => h
theorem g_tofl {H : Hp} {v : V} {Q : VK} {E : XK} : ∀ {n : Nm}, NumAt C H v n → nBig n → RetN C H (toL n) Q → sp_tofloat C ([v] ++ []) H Q E
  | .i k, h, b, q => ⟨v, .i k, rfl, h, b, q.to⟩
  | .f s t p, h, _, q => ⟨v, .f s t p, rfl, h, by
    obtain ⟨a, e, h, _⟩ := h
    exact q _ _ (Same.refl _) ⟨a, e, h⟩⟩
end
end Up

set_option Elab.async false
set_option linter.all false
set_option pp.maxSteps 600
set_option maxRecDepth 100000
set_option maxHeartbeats 4000000
set_option exponentiation.threshold 200000
namespace Up
open PySem PySem.Spec PyProof.Rows L2
local macro_rules | `(tactic| walk_at "u") => `(tactic| first
  | with_reducible refine g_seq ?_
  | with_reducible refine g_asg ?_
  | with_reducible refine g_op ?_
  | ((with_reducible show tVar _ _ _ _); apply g_var; exact rfl)
  | with_reducible refine g_c ?_
  | with_reducible refine g_name ?_
  | with_reducible refine g_ifs ?_
  | with_reducible refine g_tt ?_
  | with_reducible refine g_tB ?_
  | with_reducible refine g_bl ?_
  | with_reducible refine g_ret ?_
  | with_reducible refine g_cb ?_
  | with_reducible refine g_cons ?_
  | with_reducible refine g_nil ?_
  | with_reducible refine g_call ?_
  | with_reducible refine g_and ?_
  | with_reducible refine g_or ?_
  | with_reducible refine g_not ?_
  | with_reducible refine g_andV ?_
  | with_reducible refine g_orV ?_
  | with_reducible refine g_notV ?_
  | with_reducible refine g_if ?_
  | with_reducible refine g_un ?_
  | with_reducible refine g_neg ?_
  | with_reducible refine g_addI ?_
  | with_reducible refine g_subI ?_
  | with_reducible refine g_subB ?_
  | with_reducible refine g_I0 ?_
  | with_reducible refine g_cmpI ?_
  | with_reducible refine g_eqI ?_
  | with_reducible refine g_neI ?_
  | with_reducible refine g_eqS ?_
  | with_reducible refine g_neS ?_
  | with_reducible refine g_eqB ?_
  | with_reducible refine g_neB ?_
  | with_reducible refine g_bits ?_
  | with_reducible refine g_bitsI ?_
  | with_reducible refine g_fld ?_
  | with_reducible refine g_tup ?_
  | with_reducible refine g_lst ?_
  | with_reducible refine g_gtup ?_
  | with_reducible refine g_make ?_
  | with_reducible refine g_lc ?_
  | with_reducible refine g_yesT ?_
  | with_reducible refine g_intI ?_
  | with_reducible refine g_intB ?_
  | with_reducible refine g_max2 ?_
  | with_reducible refine g_abs1 ?_
  | with_reducible refine g_for ?_
  | with_reducible refine g_iList ?_
  | with_reducible refine g_iTup ?_
  | with_reducible refine g_iRng1 ?_
  | with_reducible refine g_iEnum ?_
  | with_reducible refine g_slice ?_
  | with_reducible refine g_po0 ?_
  | with_reducible refine g_po1 ?_
  | with_reducible refine g_gsub ?_
  | with_reducible refine g_par ?_
  | with_reducible refine g_par2 ?_
  | with_reducible refine g_rfl ?_
  | with_reducible refine g_meth ?_
  | with_reducible refine g_gcons ?_
  | with_reducible refine g_gnil ?_
  | with_reducible refine g_gfld ?_
  | with_reducible refine g_sfld ?_
  | with_reducible refine g_drop ?_
  | with_reducible refine g_next ?_
  | with_reducible refine iteT ?_
  | with_reducible refine iteF ?_)
local macro_rules | `(tactic| walk_at "go") => `(tactic| (repeat walk_at "u"))
local macro_rules | `(tactic| walk_at "f") => `(tactic| (repeat (first
  | walk_at "u"
  | with_reducible refine g_chain ?_
  | with_reducible refine g_par3 ?_
  | with_reducible refine g_par3' ?_
  | ((with_reducible refine show_ex ?_); first
    | refine fT (by assumption) (by assumption) ?_
    | refine fS (by assumption) (by assumption) ?_
    | refine fP (by assumption) (by assumption) ?_))))

section
variable {P : Program} {w : World} {K : PySem.W.Frag} {mg : Str → Option Value} {base : Heap} {C : Addr} {H : Hp} {Q : VK}
/-! ### ten_times -/
theorem ten_lt (n : Nat) : 10 ^ n < 2 ^ (4 * n + 1) := by
  have h : 10 ^ n ≤ 16 ^ n := Nat.pow_le_pow_left (by decide) n
  have e : 16 ^ n = 2 ^ (4 * n) := by rw [Nat.pow_mul]
  have h2 : 2 ^ (4 * n) < 2 ^ (4 * n + 1) := Nat.pow_lt_pow_right (by decide) (by omega)
  omega
theorem ten_abs (n : Nat) : ((10 : Int) ^ n).natAbs = 10 ^ n := by rw [Int.natAbs_pow]; rfl
theorem ten_small {n : Nat} (h : n ≤ 20000) : ((10 : Int) ^ n).natAbs < 2 ^ 100000 := by
  rw [ten_abs]
  exact lt_pow_mono (ten_lt n) (by omega)
theorem sc_tentimes : FnScope ["many", "found", "factor"] ["many"] (defScope s_tentimes) := ⟨rfl, rfl, rfl, by decide +kernel, rfl, by decide +kernel, by decide +kernel⟩
def sp_ten : Sp := fun vs H Q _ => ∃ n : Nat, vs = [.int n] ∧ n ≤ 1000 ∧ ∀ H', Same H H' → Q (.int (10 ^ n)) H'
theorem ok_ten {f : Addr} {fd : FuncData} (F : FunD K "ten_times" "ten_times" (defArgs s_tentimes) (defBody s_tentimes) (defScope s_tentimes) [] [] f fd) : FnOk P w K mg base CX0 1 f fd ["many"] sp_ten := by
  refine F.ok sc_tentimes (fun vs H Q E h => ?_) (fun cdv A outer s H vs Q E hr h => ?_)
  · obtain ⟨_, rfl, _⟩ := h; rfl
  · obtain ⟨n, rfl, hn, q⟩ := h
    refine ⟨_, PSs.nox (pss_cons (ps_asg (pe_tupN (pa_cons pe_int (pa_cons pe_int pa_nil))) (pg_tup rfl (pgs_cons (pg_name (i := 1) sc_tentimes.nd rfl (Or.inl rfl)) (pgs_cons (pg_name (i := 2) sc_tentimes.nd rfl (Or.inl rfl)) pgs_nil))))
  (pss_cons (ps_while PassesOwn.never (pt_cmpR op_oGt (pv 0) pe_int (nomark _))
    (C8.pss_cut (ps_if (pt_cmpR (op_oEq hr.units) (pe_op op_oAnd (pv 0) pe_int) pe_int (nomark _)) (pss_one (ps_set (i := 1) sc_tentimes.nd rfl (Or.inl rfl) (pe_op op_oMul (pv 1) (pv 2)))) pss_nil)
  (pss_cons (ps_set (i := 2) sc_tentimes.nd rfl (Or.inl rfl) (pe_op op_oMul (pv 2) (pv 2)))
  (pss_one (ps_set (i := 0) sc_tentimes.nd rfl (Or.inl rfl) (pe_op op_oShr (pv 0) pe_int))))))
  (pss_one (ps_ret (pv 1))))), ?_⟩
    walk_at "f"
    refine g_new (sz rfl) fun p H1 n1 s1 h1 _ => ?_
    walk_at "f"
    refine ⟨p, _, rfl, SqT.of h1, rfl, ?_⟩
    walk_at "f"
    refine g_while (fun m σ' H' => Same H H' ∧ ∃ a k : Nat, a + m * 2 ^ k = n ∧ σ' = [some (.int m), some (.int (10 ^ a)), some (.int (10 ^ 2 ^ k))]) n ⟨s1, 0, 0, by omega, by simp [L2.start]⟩ ?_
    rintro m _ H2 ⟨s2, a, k, hm, rfl⟩
    walk_at "f"
    refine g_ite (fun h0 => ?_) fun h0 => ?_
    · refine g_wbody ?_
      have hm0 : 1 ≤ m := by omega
      have hk : 2 ^ k ≤ n := by
        have := Nat.mul_le_mul_right (2 ^ k) hm0
        omega
      have ha : a ≤ n := by omega
      walk_at "f"
      refine g_cut (fun σ' H' => Same H H' ∧ σ' = [some (.int m), some (.int (10 ^ (a + (m % 2) * 2 ^ k))), some (.int (10 ^ 2 ^ k))]) ?_ ?_
      · walk_at "f"
        rw [land_one]
        refine g_ite (fun h1 => ?_) fun h1 => ?_
        · walk_at "f"
          refine g_mulI (mul_small (ten_small (by omega)) (ten_small (by omega))) ?_
          walk_at "f"
          refine ⟨s2, ?_⟩
          rw [show m % 2 = 1 by omega, Nat.one_mul, Int.pow_add]
          rfl
        · walk_at "f"
          refine ⟨s2, ?_⟩
          rw [show m % 2 = 0 by omega, Nat.zero_mul, Nat.add_zero]
      · rintro _ H3 ⟨s3, rfl⟩
        walk_at "f"
        refine g_mulI (mul_small (ten_small (by omega)) (ten_small (by omega))) ?_
        walk_at "f"
        refine g_II (by show (0 : Int) ≤ 1; decide) ?_
        walk_at "f"
        have hd : (m : Int) / 2 ^ (1 : Int).toNat = ((m / 2 : Nat) : Int) := by
          show (m : Int) / 2 ^ 1 = _
          omega
        rw [hd]
        refine ⟨m / 2, by omega, s3, a + m % 2 * 2 ^ k, k + 1, ?_, ?_⟩
        · have e : m = 2 * (m / 2) + m % 2 := by omega
          have e2 : m * 2 ^ k = (2 * (m / 2) + m % 2) * 2 ^ k := by rw [← e]
          rw [Nat.pow_succ]
          rw [e2, Nat.add_mul] at hm
          have e3 : m / 2 * (2 ^ k * 2) = 2 * (m / 2) * 2 ^ k := by
            rw [Nat.mul_comm (2 ^ k) 2, ← Nat.mul_assoc, Nat.mul_comm (m / 2) 2]
          omega
        · have e4 : (10 : Int) ^ 2 ^ k * 10 ^ 2 ^ k = 10 ^ 2 ^ (k + 1) := by
            rw [← Int.pow_add, Nat.pow_succ]
            congr 1
            omega
          rw [e4]
          rfl
    · walk_at "f"
      have hm0 : m = 0 := by omega
      subst hm0
      have : a = n := by omega
      subst this
      exact q _ s2
abbrev CTen (P : Program) (w : World) (K : PySem.W.Frag) (mg : Str → Option Value) (base : Heap) : Prop := Fn P w K mg base CX0 1 "ten_times" ["many"] [] sp_ten
/-! ### place_of_first -/
def dg (n : Int) : Str := toString n
def pcA (t b : Nat) (p : Int) : Int := if (t : Int) * 10 ^ (0 - p).toNat < b then p - 1 else p
def pcB (t b : Nat) (p : Int) : Int := if (b : Int) ≤ (t : Int) * 10 ^ (0 - p - 1).toNat then p + 1 else p
def pcF (t b : Nat) : Int := if b ≤ t then ((dg ((t / b : Nat) : Int)).length : Int) - 1 else pcB t b (pcA t b (0 - ((dg ((b / t : Nat) : Int)).length : Int)))
/-- what is asked of a fraction -/
structure PlOk (t b : Nat) : Prop where
  t0 : 0 < t
  b0 : 0 < b
  tb : t < 2 ^ 1200
  bb : b < 2 ^ 1200
  l1 : (dg ((t / b : Nat) : Int)).length ≤ 600
  l2 : 1 ≤ (dg ((b / t : Nat) : Int)).length
  l3 : (dg ((b / t : Nat) : Int)).length ≤ 600
theorem sc_placeoffirst : FnScope ["top", "bottom", "place"] ["top", "bottom"] (defScope s_placeoffirst) := ⟨rfl, rfl, rfl, by decide +kernel, rfl, by decide +kernel, by decide +kernel⟩
def sp_place1 : Sp := fun vs H Q _ => ∃ t b : Nat, vs = [.int t, .int b] ∧ PlOk t b ∧ ∀ H', Same H H' → Q (.int (pcF t b)) H'
theorem div_log {a b : Nat} (h : a < 2 ^ 1200) : ((a / b : Nat) : Int).natAbs.log2 < 1920 := by
  rw [Int.natAbs_natCast]
  exact Nat.lt_trans (log2_lt (k := 1200) (Nat.lt_of_le_of_lt (Nat.div_le_self _ _) h) (by decide)) (by decide)
theorem ok_place1 {f : Addr} {fd : FuncData} (F : FunD K "place_of_first" "place_of_first" (defArgs s_placeoffirst) (defBody s_placeoffirst) (defScope s_placeoffirst) [] [] f fd) (B : Blt mg) (c_tentimes : CTen P w K mg base) : FnOk P w K mg base CX0 2 f fd ["top", "bottom"] sp_place1 := by
  refine F.ok sc_placeoffirst (fun vs H Q E h => ?_) (fun cdv A outer s H vs Q E hr h => ?_)
  · obtain ⟨_, _, rfl, _⟩ := h; rfl
  · obtain ⟨t, b, rfl, ok, q⟩ := h
    obtain ⟨t0, b0, tb, bb, l1, l2, l3⟩ := ok
    refine ⟨_, PSs.nox (pss_cons (ps_if (pt_cmpR op_oGe (pv 0) (pv 1) (nomark _)) (pss_one (ps_ret (pe_op op_oSub (pe_callB call_len_str (by rfl) B.len (by decide +kernel) (pa_cons (pe_callTy call_str_int (by rfl) B.str (by decide +kernel) (pa_cons (pe_op op_oDiv (pv 0) (pv 1)) pa_nil)) pa_nil)) pe_int))) pss_nil)
  (pss_cons (ps_set (i := 2) sc_placeoffirst.nd rfl (Or.inl rfl) (pe_op op_oSub pe_int (pe_callB call_len_str (by rfl) B.len (by decide +kernel) (pa_cons (pe_callTy call_str_int (by rfl) B.str (by decide +kernel) (pa_cons (pe_op op_oDiv (pv 1) (pv 0)) pa_nil)) pa_nil))))
  (C8.pss_cut (ps_if (pt_cmpR op_oLt (pe_op op_oMul (pv 0) (pe_fn c_tentimes (hr.mono (by first | decide | omega)) pass0 (pa_cons (pe_op op_oSub pe_int (pv 2)) pa_nil))) (pv 1) (nomark _)) (pss_one (ps_set (i := 2) sc_placeoffirst.nd rfl (Or.inl rfl) (pe_op op_oSub (pv 2) pe_int))) pss_nil)
  (C8.pss_cut (ps_if (pt_cmpR op_oGe (pe_op op_oMul (pv 0) (pe_fn c_tentimes (hr.mono (by first | decide | omega)) pass0 (pa_cons (pe_op op_oSub (pe_op op_oSub pe_int (pv 2)) pe_int) pa_nil))) (pv 1) (nomark _)) (pss_one (ps_set (i := 2) sc_placeoffirst.nd rfl (Or.inl rfl) (pe_op op_oAdd (pv 2) pe_int))) pss_nil)
  (pss_one (ps_ret (pv 2))))))), ?_⟩
    unfold pcF at q
    walk_at "f"
    refine g_ite (fun h1 => ?_) fun h1 => ?_
    · rw [if_pos (show b ≤ t by omega)] at q
      walk_at "f"
      refine g_divI (by omega) (by rw [Int.natAbs_natCast]; exact Nat.lt_trans (log2_lt bb (by decide)) (by decide)) ?_
      rw [fdiv_nat]
      refine ⟨_, rfl, div_log tb, ?_⟩
      walk_at "f"
      refine ⟨_, rfl, Nat.le_trans l1 (by decide), ?_⟩
      walk_at "f"
      exact q _ (Same.refl _)
    · rw [if_neg (show ¬ b ≤ t by omega)] at q
      walk_at "f"
      refine g_divI (by omega) (by rw [Int.natAbs_natCast]; exact Nat.lt_trans (log2_lt tb (by decide)) (by decide)) ?_
      rw [fdiv_nat]
      refine ⟨_, rfl, div_log bb, ?_⟩
      walk_at "f"
      refine ⟨_, rfl, Nat.le_trans l3 (by decide), ?_⟩
      walk_at "f"
      have l2 : 1 ≤ ((dg ((b / t : Nat) : Int)).length : Int) := by omega
      have l3 : ((dg ((b / t : Nat) : Int)).length : Int) ≤ 600 := by omega
      have ed : (((toString ((b / t : Nat) : Int) : String) : Str).length : Int) = ((dg ((b / t : Nat) : Int)).length : Int) := rfl
      rw [ed]
      generalize ((dg ((b / t : Nat) : Int)).length : Int) = l at *
      have tt : (t : Int).natAbs < 2 ^ 100000 := lt_pow_mono (a := 1200) (by rw [Int.natAbs_natCast]; exact tb) (by decide)
      refine g_cut (fun σ' H' => Same H H' ∧ σ' = [some (.int t), some (.int b), some (.int (pcA t b (0 - l)))]) ?_ ?_
      · walk_at "f"
        refine ⟨(0 - (0 - l)).toNat, by rw [Int.toNat_of_nonneg (by omega)]; rfl, by omega, fun H1 s1 => ?_⟩
        refine g_mulI (mul_small tt (ten_small (by omega))) ?_
        walk_at "f"
        unfold pcA
        refine g_ite (fun h2 => ?_) fun h2 => ?_
        · walk_at "f"
          rw [if_pos h2]
          exact ⟨s1, rfl⟩
        · walk_at "f"
          rw [if_neg h2]
          exact ⟨s1, rfl⟩
      · rintro _ H1 ⟨s1, rfl⟩
        have q := fun H' s => q H' (s1.trans s)
        have pa : -700 ≤ pcA t b (0 - l) ∧ pcA t b (0 - l) ≤ -1 := by
          unfold pcA
          split <;> omega
        generalize pcA t b (0 - l) = p at *
        unfold pcB at q
        walk_at "f"
        refine g_cut (fun σ' H' => Same H1 H' ∧ σ' = [some (.int t), some (.int b), some (.int (pcB t b p))]) ?_ ?_
        · walk_at "f"
          refine ⟨(0 - p - 1).toNat, by rw [Int.toNat_of_nonneg (by omega)]; rfl, by omega, fun H2 s2 => ?_⟩
          refine g_mulI (mul_small tt (ten_small (by omega))) ?_
          walk_at "f"
          unfold pcB
          refine g_ite (fun h2 => ?_) fun h2 => ?_
          · walk_at "f"
            rw [if_pos h2]
            exact ⟨s2, rfl⟩
          · walk_at "f"
            rw [if_neg h2]
            exact ⟨s2, rfl⟩
        · rintro _ H2 ⟨s2, rfl⟩
          walk_at "f"
          exact q _ s2
/-! ### rounded_at -/
def rdT (t : Nat) (p : Int) : Nat := if 0 ≤ p then t * 10 ^ p.toNat else t
def rdB (b : Nat) (p : Int) : Nat := if 0 ≤ p then b else b * 10 ^ (0 - p).toNat
def rdW (t b : Nat) : Nat := if 2 * (t % b) > b ∨ (2 * (t % b) = b ∧ t / b % 2 = 1) then t / b + 1 else t / b
def rdA (t b : Nat) (p : Int) : Nat := rdW (rdT t p) (rdB b p)
theorem sc_roundedat : FnScope ["top", "bottom", "places", "whole", "rest"] ["top", "bottom", "places"] (defScope s_roundedat) := ⟨rfl, rfl, rfl, by decide +kernel, rfl, by decide +kernel, by decide +kernel⟩
def sp_round : Sp := fun vs H Q _ => ∃ (t b : Nat) (p : Int), vs = [.int t, .int b, .int p] ∧ 0 < b ∧ t < 2 ^ 1200 ∧ b < 2 ^ 1200 ∧ -1000 ≤ p ∧ p ≤ 1000 ∧ ∀ H', Same H H' → Q (.int (rdA t b p : Nat)) H'
theorem ten_mul {t : Nat} {n : Nat} (h : t < 2 ^ 1200) (hn : n ≤ 1000) : t * 10 ^ n < 2 ^ 5201 := by
  have h1 := ten_lt n
  have h2 : t * 10 ^ n ≤ 2 ^ 1200 * 2 ^ (4 * n + 1) := Nat.mul_le_mul (Nat.le_of_lt h) (Nat.le_of_lt h1)
  have h3 : t * 10 ^ n < 2 ^ 1200 * 2 ^ (4 * n + 1) := by
    have : t * 10 ^ n < 2 ^ 1200 * 10 ^ n := Nat.mul_lt_mul_of_pos_right h (Nat.pow_pos (by decide))
    exact Nat.lt_of_lt_of_le this (Nat.mul_le_mul_left _ (Nat.le_of_lt h1))
  rw [← Nat.pow_add] at h3
  exact lt_pow_mono h3 (by omega)
theorem ok_round {f : Addr} {fd : FuncData} (F : FunD K "rounded_at" "rounded_at" (defArgs s_roundedat) (defBody s_roundedat) (defScope s_roundedat) [] [] f fd) (B : Blt mg) (c_tentimes : CTen P w K mg base) : FnOk P w K mg base CX0 2 f fd ["top", "bottom", "places"] sp_round := by
  refine F.ok sc_roundedat (fun vs H Q E h => ?_) (fun cdv A outer s H vs Q E hr h => ?_)
  · obtain ⟨_, _, _, rfl, _⟩ := h; rfl
  · obtain ⟨t, b, p, rfl, b0, tb, bb, p1, p2, q⟩ := h
    refine ⟨_, PSs.nox (C8.pss_cut (ps_if (pt_cmpR op_oGe (pv 2) pe_int (nomark _)) (pss_one (ps_set (i := 0) sc_roundedat.nd rfl (Or.inl rfl) (pe_op op_oMul (pv 0) (pe_fn c_tentimes (hr.mono (by first | decide | omega)) pass0 (pa_cons (pv 2) pa_nil))))) (pss_one (ps_set (i := 1) sc_roundedat.nd rfl (Or.inl rfl) (pe_op op_oMul (pv 1) (pe_fn c_tentimes (hr.mono (by first | decide | omega)) pass0 (pa_cons (pe_op op_oSub pe_int (pv 2)) pa_nil))))))
  (pss_cons (ps_asg (pe_callB call_divmodK (by rfl) B.divmod (by decide +kernel) (pa_cons (pv 0) (pa_cons (pv 1) pa_nil))) (pg_tup rfl (pgs_cons (pg_name (i := 3) sc_roundedat.nd rfl (Or.inl rfl)) (pgs_cons (pg_name (i := 4) sc_roundedat.nd rfl (Or.inl rfl)) pgs_nil))))
  (C8.pss_cut (ps_if (PW.pt (pw_or (pt_cmpR op_oGt (pe_op op_oMul pe_int (pv 4)) (pv 1) (nomark _)) (pw_or1 (PW.pt (pw_and (pt_cmpR (op_oEq hr.units) (pe_op op_oMul pe_int (pv 4)) (pv 1) (nomark _)) (pw_and1 (pt_cmpR (op_oEq hr.units) (pe_op op_oAnd (pv 3) pe_int) pe_int (nomark _)))))))) (pss_one (ps_set (i := 3) sc_roundedat.nd rfl (Or.inl rfl) (pe_op op_oAdd (pv 3) pe_int))) pss_nil)
  (pss_one (ps_ret (pv 3)))))), ?_⟩
    unfold rdA at q
    walk_at "f"
    refine g_cut (fun σ' H' => Same H H' ∧ σ' = [some (.int (rdT t p : Nat)), some (.int (rdB b p : Nat)), some (.int p), none, none]) ?_ ?_
    · walk_at "f"
      unfold rdT rdB
      refine g_ite (fun h1 => ?_) fun h1 => ?_
      · walk_at "f"
        refine ⟨p.toNat, by rw [Int.toNat_of_nonneg h1]; rfl, by omega, fun H1 s1 => ?_⟩
        refine g_mulI (mul_small (lt_pow_mono (a := 1200) (by rw [Int.natAbs_natCast]; exact tb) (by decide)) (ten_small (by omega))) ?_
        walk_at "f"
        rw [if_pos h1, if_pos h1]
        refine ⟨s1, ?_⟩
        rw [Int.natCast_mul, Int.natCast_pow]
        rfl
      · walk_at "f"
        refine ⟨(0 - p).toNat, by rw [Int.toNat_of_nonneg (by omega)]; rfl, by omega, fun H1 s1 => ?_⟩
        refine g_mulI (mul_small (lt_pow_mono (a := 1200) (by rw [Int.natAbs_natCast]; exact bb) (by decide)) (ten_small (by omega))) ?_
        walk_at "f"
        rw [if_neg h1, if_neg h1]
        refine ⟨s1, ?_⟩
        rw [Int.natCast_mul, Int.natCast_pow]
        rfl
    · rintro _ H1 ⟨s1, rfl⟩
      have hB : 0 < rdB b p := by
        unfold rdB
        split
        · exact b0
        · exact Nat.mul_pos b0 (Nat.pow_pos (by decide))
      have hB2 : rdB b p < 2 ^ 5201 := by
        unfold rdB
        split
        · exact lt_pow_mono bb (by decide)
        · exact ten_mul bb (by omega)
      generalize rdB b p = y at *
      generalize rdT t p = x at *
      walk_at "f"
      refine ⟨_, _, rfl, ⟨by omega, by rw [Int.natAbs_natCast]; exact Nat.lt_trans (log2_lt hB2 (by decide)) (by decide)⟩, fun a H2 na s2 ha _ => ?_⟩
      walk_at "f"
      refine ⟨a, _, rfl, SqT.of ha, rfl, ?_⟩
      walk_at "f"
      have eQ : ((x : Nat) : Int) / ((y : Nat) : Int) = ((x / y : Nat) : Int) := rfl
      have eR : ((x : Nat) : Int) % ((y : Nat) : Int) = ((x % y : Nat) : Int) := rfl
      rw [eQ, eR]
      refine g_cut (fun σ' H' => Same H2 H' ∧ σ' = [some (.int (x : Nat)), some (.int (y : Nat)), some (.int p), some (.int (rdW x y : Nat)), some (.int (x % y : Nat))]) ?_ ?_
      · walk_at "f"
        refine g_mulI (.of_left (by decide)) ?_
        walk_at "f"
        unfold rdW
        refine g_ite (fun h1 => ?_) fun h1 => ?_
        · walk_at "f"
          refine ⟨Same.refl _, ?_⟩
          rw [if_pos (.inl (by omega))]
          rfl
        · walk_at "f"
          refine g_mulI (.of_left (by decide)) ?_
          walk_at "f"
          refine g_ite (fun h2 => ?_) fun h2 => ?_
          · walk_at "f"
            rw [land_one]
            refine g_ite (fun h3 => ?_) fun h3 => ?_
            · walk_at "f"
              refine ⟨Same.refl _, ?_⟩
              rw [if_pos (.inr ⟨by omega, by omega⟩)]
              rfl
            · walk_at "f"
              refine ⟨Same.refl _, ?_⟩
              rw [if_neg (fun z => z.elim (fun z => h1 (by omega)) fun z => h3 (by omega))]
              try rfl
          · walk_at "f"
            refine ⟨Same.refl _, ?_⟩
            rw [if_neg (fun z => z.elim (fun z => h1 (by omega)) fun z => h2 (by omega))]
            try rfl
      · rintro _ H3 ⟨s3, rfl⟩
        walk_at "f"
        exact q _ ((s1.trans s2).trans s3)
end
end Up

set_option Elab.async false
set_option linter.all false
set_option pp.maxSteps 600
set_option maxRecDepth 100000
set_option maxHeartbeats 4000000
set_option exponentiation.threshold 200000
namespace Up
open PySem PySem.Spec PyProof.Rows L2
local macro_rules | `(tactic| walk_at "u") => `(tactic| first
  | with_reducible refine g_seq ?_
  | with_reducible refine g_asg ?_
  | with_reducible refine g_op ?_
  | ((with_reducible show tVar _ _ _ _); apply g_var; exact rfl)
  | with_reducible refine g_c ?_
  | with_reducible refine g_name ?_
  | with_reducible refine g_ifs ?_
  | with_reducible refine g_tt ?_
  | with_reducible refine g_tB ?_
  | with_reducible refine g_bl ?_
  | with_reducible refine g_ret ?_
  | with_reducible refine g_cb ?_
  | with_reducible refine g_cons ?_
  | with_reducible refine g_nil ?_
  | with_reducible refine g_call ?_
  | with_reducible refine g_and ?_
  | with_reducible refine g_or ?_
  | with_reducible refine g_not ?_
  | with_reducible refine g_andV ?_
  | with_reducible refine g_orV ?_
  | with_reducible refine g_notV ?_
  | with_reducible refine g_if ?_
  | with_reducible refine g_un ?_
  | with_reducible refine g_neg ?_
  | with_reducible refine g_addI ?_
  | with_reducible refine g_subI ?_
  | with_reducible refine g_subB ?_
  | with_reducible refine g_I0 ?_
  | with_reducible refine g_cmpI ?_
  | with_reducible refine g_eqI ?_
  | with_reducible refine g_neI ?_
  | with_reducible refine g_eqS ?_
  | with_reducible refine g_neS ?_
  | with_reducible refine g_eqB ?_
  | with_reducible refine g_neB ?_
  | with_reducible refine g_bits ?_
  | with_reducible refine g_bitsI ?_
  | with_reducible refine g_fld ?_
  | with_reducible refine g_tup ?_
  | with_reducible refine g_lst ?_
  | with_reducible refine g_gtup ?_
  | with_reducible refine g_make ?_
  | with_reducible refine g_lc ?_
  | with_reducible refine g_yesT ?_
  | with_reducible refine g_intI ?_
  | with_reducible refine g_intB ?_
  | with_reducible refine g_max2 ?_
  | with_reducible refine g_abs1 ?_
  | with_reducible refine g_for ?_
  | with_reducible refine g_iList ?_
  | with_reducible refine g_iTup ?_
  | with_reducible refine g_iRng1 ?_
  | with_reducible refine g_iEnum ?_
  | with_reducible refine g_slice ?_
  | with_reducible refine g_po0 ?_
  | with_reducible refine g_po1 ?_
  | with_reducible refine g_gsub ?_
  | with_reducible refine g_par ?_
  | with_reducible refine g_par2 ?_
  | with_reducible refine g_rfl ?_
  | with_reducible refine g_meth ?_
  | with_reducible refine g_gcons ?_
  | with_reducible refine g_gnil ?_
  | with_reducible refine g_gfld ?_
  | with_reducible refine g_sfld ?_
  | with_reducible refine g_drop ?_
  | with_reducible refine g_next ?_
  | with_reducible refine iteT ?_
  | with_reducible refine iteF ?_)
local macro_rules | `(tactic| walk_at "go") => `(tactic| (repeat walk_at "u"))
local macro_rules | `(tactic| walk_at "f") => `(tactic| (repeat (first
  | walk_at "u"
  | with_reducible refine g_chain ?_
  | with_reducible refine g_par3 ?_
  | with_reducible refine g_par3' ?_
  | ((with_reducible refine show_ex ?_); first
    | refine fT (by assumption) (by assumption) ?_
    | refine fS (by assumption) (by assumption) ?_
    | refine fP (by assumption) (by assumption) ?_))))

section
variable {P : Program} {w : World} {K : PySem.W.Frag} {mg : Str → Option Value} {base : Heap} {C : Addr} {H : Hp} {Q : VK}
/-! ### shown -/
def shR (t b : Nat) : Nat := rdA t b (13 - pcF t b)
def shP (t b : Nat) : Int := if shR t b = 10 ^ 14 then pcF t b + 1 else pcF t b
def shF (t b : Nat) : Nat := if shR t b = 10 ^ 14 then shR t b / 10 else shR t b
def shG (t b : Nat) : Str := Txt.rstripChars (dg (shF t b : Nat)) "0"
def hdS (z : Str) : Str := match z.cps.toList with
  | c :: _ => ⟨#[c]⟩
  | [] => Str.empty
def ptS (g : Str) : Str := if 1 < g.length then ("." : Str) else ("" : Str)
def sgS (p : Int) : Str := if p < 0 then ("-" : Str) else ("+" : Str)
def sgA (s : Int) : Str := if s < 0 then ("-" : Str) else ("" : Str)
def frS (p : Int) : Str := dg (if p < 0 then -p else p)
def shX (p : Int) (g : Str) : Str := ((((((hdS g ++ ptS g) ++ cutS g (some 1) none) ++ "e") ++ sgS p) ++ repS "0" (2 - ((frS p).length : Int))) ++ frS p)
def orS (z y : Str) : Str := if z.length = 0 then y else z
def shW (p : Int) (g : Str) : Str := (cutS g none (some (p + 1)) ++ ".") ++ orS (cutS g (some (p + 1)) none) "0"
def shV (p : Int) (g : Str) : Str := if p < -4 ∨ 14 ≤ p then shX p g else if p < 0 then ("0." ++ repS "0" (0 - p - 1)) ++ g else shW p (g ++ repS "0" (p + 1 - (g.length : Int)))
def shS (t b : Nat) : Str := shV (shP t b) (shG t b)
structure ShOk (t b : Nat) : Prop where
  pl : PlOk t b
  p1 : -900 ≤ pcF t b
  p2 : pcF t b ≤ 900
  f1 : shF t b < 2 ^ 100
  f2 : (dg (shF t b : Nat)).length ≤ 100
  g1 : 1 ≤ (shG t b).length
  g2 : (shG t b).length ≤ 100
  r : (frS (shP t b)).length ≤ 10
theorem sc_shown : FnScope ["number", "top", "bottom", "place", "figures", "signs", "point", "far"] ["number"] (defScope s_shown) := ⟨rfl, rfl, rfl, by decide +kernel, rfl, by decide +kernel, by decide +kernel⟩
def sp_shown (C : Addr) : Sp := fun vs H Q _ => ∃ (a : Addr) (n : Nat) (p : Int), vs = [.ref a] ∧ FlAt C H a 1 (.int n) p ∧ FlOk 1 (.int n) p ∧ ShOk (ratN 1 n p).toNat (ratD p).toNat ∧ ∀ H', Same H H' → Q (.str (shS (ratN 1 n p).toNat (ratD p).toNat)) H'
theorem hd_len (z : Str) : (hdS z).length ≤ 1 := by
  unfold hdS
  split
  · exact Nat.le_refl _
  · exact Nat.zero_le _
theorem hd_at {z : Str} (h : 1 ≤ z.length) : ∃ c, atI z.cps.toList 0 = some c ∧ hdS z = ⟨#[c]⟩ := by
  have h2 : 1 ≤ z.cps.toList.length := by rw [Array.length_toList]; exact h
  unfold hdS
  cases e : z.cps.toList with
  | nil => rw [e] at h2; cases h2
  | cons c r => exact ⟨c, by unfold atI ixN; rw [if_pos (Int.le_refl _), if_pos (show (0 : Int) < ((c :: r).length : Nat) by simp only [List.length_cons]; omega)]; rfl, rfl⟩
theorem or_len (z y : Str) : (orS z y).length ≤ z.length + y.length := by
  unfold orS
  split <;> omega
theorem lens : ("0" : Str).length = 1 ∧ ("0." : Str).length = 2 ∧ ("." : Str).length = 1 ∧ ("" : Str).length = 0 ∧ ("e" : Str).length = 1 ∧ ("-" : Str).length = 1 ∧ ("+" : Str).length = 1 := by decide +kernel
theorem rat_nn {n : Nat} {p : Int} : 0 ≤ ratN 1 n p ∧ 0 ≤ ratD p := by
  unfold ratN ratD
  constructor
  · split
    · omega
    · exact Int.mul_nonneg (by decide) (Int.mul_nonneg (by omega) (Int.le_of_lt (Int.pow_pos (by decide))))
  · split
    · exact Int.le_of_lt (Int.pow_pos (by decide))
    · decide
theorem ok_shown {f : Addr} {fd : FuncData} (F : FunD K "shown" "shown" (defArgs s_shown) (defBody s_shown) (defScope s_shown) [] [] f fd) (B : Blt mg) (i_SHOWN : ∃ t, mg "SHOWN" = some (.int 14 t)) (c_ratio : CRat P w K mg base C) (c_placeoffirst : Fn P w K mg base CX0 2 "place_of_first" ["top", "bottom"] [] sp_place1) (c_roundedat : Fn P w K mg base CX0 2 "rounded_at" ["top", "bottom", "places"] [] sp_round) :
    FnOk P w K mg base CX0 3 f fd ["number"] (sp_shown C) := by
  refine F.ok sc_shown (fun vs H Q E h => ?_) (fun cdv A outer s H vs Q E hr h => ?_)
  · obtain ⟨_, _, _, rfl, _⟩ := h; rfl
  · obtain ⟨a, n, p, rfl, ha, ok, so, q⟩ := h
    refine ⟨_, PSs.nox (pss_cons (ps_asg (pe_mt0 c_ratio (hr.mono (by first | decide | omega)) pass0 (pv 0)) (pg_tup rfl (pgs_cons (pg_name (i := 1) sc_shown.nd rfl (Or.inl rfl)) (pgs_cons (pg_name (i := 2) sc_shown.nd rfl (Or.inl rfl)) pgs_nil))))
  (pss_cons (ps_set (i := 3) sc_shown.nd rfl (Or.inl rfl) (pe_fn c_placeoffirst (hr.mono (by first | decide | omega)) pass0 (pa_cons (pv 1) (pa_cons (pv 2) pa_nil))))
  (pss_cons (ps_set (i := 4) sc_shown.nd rfl (Or.inl rfl) (pe_fn c_roundedat (hr.mono (by first | decide | omega)) pass0 (pa_cons (pv 1) (pa_cons (pv 2) (pa_cons (pe_op op_oSub (pe_op op_oSub (pe_gint i_SHOWN) pe_int) (pv 3)) pa_nil)))))
  (C8.pss_cut (ps_if (pt_cmpR (op_oEq hr.units) (pv 4) (pe_op op_oPow pe_int pe_int) (nomark _)) (pss_cons (ps_set (i := 4) sc_shown.nd rfl (Or.inl rfl) (pe_op op_oDiv (pv 4) pe_int))
  (pss_one (ps_set (i := 3) sc_shown.nd rfl (Or.inl rfl) (pe_op op_oAdd (pv 3) pe_int)))) pss_nil)
  (pss_cons (ps_set (i := 5) sc_shown.nd rfl (Or.inl rfl) (pe_m1 PySem.F.slot_str_rstrip PySem.F.type_str_rstrip mt_rstripChars (pe_callTy call_str_int (by rfl) B.str (by decide +kernel) (pa_cons (pv 4) pa_nil)) pe_str))
  (pss_cons (ps_if (pt_cut (PW.pt (pw_or (pt_cmpR op_oLt (pv 3) (pe_un un_neg pe_int) (nomark _)) (pw_or1 (pt_cmpR op_oGe (pv 3) (pe_gint i_SHOWN) (nomark _)))))) (pss_cons (ps_set (i := 6) sc_shown.nd rfl (Or.inl rfl) (pe_cut (pe_ifExp (pt_cmpR op_oGt (pe_callB call_len_str (by rfl) B.len (by decide +kernel) (pa_cons (pv 5) pa_nil)) pe_int (nomark _)) pe_str pe_str)))
  (pss_cons (ps_set (i := 7) sc_shown.nd rfl (Or.inl rfl) (pe_callTy call_str_int (by rfl) B.str (by decide +kernel) (pa_cons (pe_callB call_abs (by rfl) B.abs (by decide +kernel) (pa_cons (pv 3) pa_nil)) pa_nil)))
  (pss_one (ps_ret (pe_op op_oAdd (pe_op op_oAdd (pe_op op_oAdd (pe_op op_oAdd (pe_op op_oAdd (pe_op op_oAdd (pe_ix ix_str (pv 5) pe_int (fun _ _ => rfl)) (pv 6)) (pe_slice sl_str (pv 5) (po_some pe_int) po_none)) pe_str) (pe_cut (pe_ifExp (pt_cmpR op_oLt (pv 3) pe_int (nomark _)) pe_str pe_str))) (pe_op op_mulT pe_str (pe_op op_oSub pe_int (pe_callB call_len_str (by rfl) B.len (by decide +kernel) (pa_cons (pv 7) pa_nil))))) (pv 7)))))) pss_nil)
  (pss_cons (ps_if (pt_cmpR op_oLt (pv 3) pe_int (nomark _)) (pss_one (ps_ret (pe_op op_oAdd (pe_op op_oAdd pe_str (pe_op op_mulT pe_str (pe_op op_oSub (pe_op op_oSub pe_int (pv 3)) pe_int))) (pv 5)))) pss_nil)
  (pss_cons (ps_set (i := 5) sc_shown.nd rfl (Or.inl rfl) (pe_op op_oAdd (pv 5) (pe_op op_mulT pe_str (pe_op op_oSub (pe_op op_oAdd (pv 3) pe_int) (pe_callB call_len_str (by rfl) B.len (by decide +kernel) (pa_cons (pv 5) pa_nil))))))
  (pss_one (ps_ret (pe_op op_oAdd (pe_op op_oAdd (pe_slice sl_str (pv 5) po_none (po_some (pe_op op_oAdd (pv 3) pe_int))) pe_str) (pe_orT (pe_slice sl_str (pv 5) (po_some (pe_op op_oAdd (pv 3) pe_int)) po_none) (pe_one pe_str))))))))))))), ?_⟩
    obtain ⟨r1, r2⟩ := rat_nn (n := n) (p := p)
    have e1 : ratN 1 n p = (((ratN 1 n p).toNat : Nat) : Int) := (Int.toNat_of_nonneg r1).symm
    have e2 : ratD p = (((ratD p).toNat : Nat) : Int) := (Int.toNat_of_nonneg r2).symm
    walk_at "f"
    refine g_rat ha ok fun H1 x n1 s1 hx => ?_
    walk_at "f"
    refine ⟨x, _, rfl, SqT.of hx, rfl, ?_⟩
    walk_at "f"
    rw [e1, e2]
    generalize (ratN 1 n p).toNat = t at *
    generalize (ratD p).toNat = b at *
    obtain ⟨pl, p1, p2, f1, f2, g1, g2, r⟩ := so
    refine ⟨t, b, rfl, pl, fun H2 s2 => ?_⟩
    walk_at "f"
    refine ⟨t, b, 13 - pcF t b, ?_, pl.b0, pl.tb, pl.bb, by omega, by omega, fun H3 s3 => ?_⟩
    · rw [show (14 - 1 - pcF t b : Int) = 13 - pcF t b by omega]
      rfl
    have S3 := (s1.trans s2).trans s3
    walk_at "f"
    refine g_cut (fun σ' H' => H' = H3 ∧ σ' = [some (.ref a), some (.int t), some (.int b), some (.int (shP t b)), some (.int (shF t b : Nat)), none, none, none]) ?_ ?_
    · walk_at "f"
      refine g_II ⟨by decide, by decide, by decide⟩ ?_
      walk_at "f"
      have eR : rdA t b (13 - pcF t b) = shR t b := rfl
      rw [eR]
      unfold shP shF
      generalize shR t b = z
      refine g_ite (fun h1 => ?_) fun h1 => ?_
      · have h1 : (z : Int) = ((10 ^ 14 : Nat) : Int) := h1
        have h1 : z = 10 ^ 14 := by exact_mod_cast h1
        walk_at "f"
        refine g_divI (by decide) (by decide) ?_
        rw [show (10 : Int) = ((10 : Nat) : Int) from rfl, fdiv_nat]
        walk_at "f"
        rw [if_pos h1, if_pos h1]
        exact ⟨rfl, rfl⟩
      · have h1 : ¬ z = 10 ^ 14 := fun y => h1 (by rw [y]; rfl)
        walk_at "f"
        rw [if_neg h1, if_neg h1]
        exact ⟨rfl, rfl⟩
    · rintro _ H4 ⟨rfl, rfl⟩
      walk_at "f"
      refine g_m1 ?_
      walk_at "f"
      refine ⟨?_, ⟨_, rfl⟩, ?_⟩
      · rw [Int.natAbs_natCast]
        exact Nat.lt_trans (log2_lt (k := 100) f1 (by decide)) (by decide)
      walk_at "f"
      refine ⟨_, _, rfl, rfl, Nat.le_trans f2 (by decide), ?_⟩
      walk_at "f"
      have eG : Txt.rstripChars ((toString ((shF t b : Nat) : Int) : String) : Str) "0" = shG t b := rfl
      rw [eG]
      have q : Q (.str (shV (shP t b) (shG t b))) H4 := q H4 S3
      have p3 : -900 ≤ shP t b ∧ shP t b ≤ 901 := by
        unfold shP
        split <;> omega
      clear f1 f2 e1 e2 eG pl p1 p2
      obtain ⟨l1, l2, l3, l4, l5, l6, l7⟩ := lens
      generalize shG t b = g at *
      generalize shP t b = p at *
      refine g_cutT (fun c H' => H' = H4 ∧ c = decide (p < -4 ∨ 14 ≤ p)) ?_ ?_
      · walk_at "f"
        refine g_ite (fun h1 => ?_) fun h1 => ?_
        · walk_at "f"
          exact ⟨rfl, (decide_eq_true (.inl h1)).symm⟩
        · walk_at "f"
          refine ⟨rfl, ?_⟩
          by_cases h2 : 14 ≤ p
          · rw [decide_eq_true h2, decide_eq_true (.inr h2)]
          · rw [decide_eq_false h2, decide_eq_false (fun z => z.elim h1 h2)]
      · rintro _ H4 ⟨rfl, rfl⟩
        unfold shV at q
        refine g_ite (fun h1 => ?_) fun h1 => ?_
        · rw [if_pos h1] at q
          walk_at "f"
          refine g_cutE (fun z H' => z = .str (ptS g) ∧ H' = H4) ?_ ?_
          · walk_at "f"
            refine ⟨g, rfl, Nat.le_trans g2 (by decide), ?_⟩
            walk_at "f"
            unfold ptS
            refine g_ite (fun h2 => ?_) fun h2 => ?_
            · walk_at "f"
              rw [if_pos (show 1 < g.length by omega)]
              exact ⟨rfl, rfl⟩
            · walk_at "f"
              rw [if_neg (show ¬ 1 < g.length by omega)]
              exact ⟨rfl, rfl⟩
          · rintro _ H4 ⟨rfl, rfl⟩
            have lp : (ptS g).length ≤ 1 := by unfold ptS; split <;> omega
            have hx : shX p g = ((((((hdS g ++ ptS g) ++ cutS g (some 1) none) ++ "e") ++ sgS p) ++ repS "0" (2 - ((frS p).length : Int))) ++ frS p) := rfl
            rw [hx] at q
            generalize ptS g = pt at *
            walk_at "f"
            refine ⟨Nat.lt_trans (log2_lt (k := 20) (show (if p < 0 then -p else p).natAbs < 2 ^ 20 by split <;> omega) (by decide)) (by decide), ?_⟩
            have eF : ((toString (if p < 0 then -p else p) : String) : Str) = frS p := rfl
            rw [eF]
            walk_at "f"
            obtain ⟨c, hc, ehd⟩ := hd_at g1
            have hl := hd_len g
            refine ⟨g, 0, c, rfl, rfl, Nat.le_trans g2 (by decide), hc, ?_⟩
            rw [← ehd]
            walk_at "f"
            have c1 := cutS_length g (some 1) none
            refine g_addS (sz (Nat.ble_eq.mpr (by omega))) ?_
            walk_at "f"
            refine g_slS (Nat.le_trans g2 (by decide)) ?_
            refine g_addS (sz (Nat.ble_eq.mpr (by rw [add_len]; omega))) ?_
            walk_at "f"
            refine g_addS (sz (Nat.ble_eq.mpr (by rw [add_len, add_len, l5]; omega))) ?_
            walk_at "f"
            refine g_cutE (fun z H' => z = .str (sgS p) ∧ H' = H4) ?_ ?_
            · walk_at "f"
              unfold sgS
              refine g_ite (fun h2 => ?_) fun h2 => ?_
              · walk_at "f"
                rw [if_pos h2]
                exact ⟨rfl, rfl⟩
              · walk_at "f"
                rw [if_neg h2]
                exact ⟨rfl, rfl⟩
            · rintro _ H4 ⟨rfl, rfl⟩
              have ls : (sgS p).length = 1 := by unfold sgS; split <;> assumption
              generalize sgS p = sg at *
              generalize frS p = fr at *
              refine g_addS (sz (Nat.ble_eq.mpr (by rw [add_len, add_len, add_len, l5]; omega))) ?_
              walk_at "f"
              refine ⟨fr, rfl, Nat.le_trans r (by decide), ?_⟩
              walk_at "f"
              refine g_mulT (by omega) (by omega) (by decide +kernel) (by rw [l1]; omega) ?_
              refine g_addS (sz (Nat.ble_eq.mpr (by rw [add_len, add_len, add_len, add_len, rep_len, l1, l5]; omega))) ?_
              walk_at "f"
              refine g_addS (sz (Nat.ble_eq.mpr (by rw [add_len, add_len, add_len, add_len, add_len, rep_len, l1, l5]; omega))) ?_
              exact q
        · rw [if_neg h1] at q
          walk_at "f"
          refine g_ite (fun h2 => ?_) fun h2 => ?_
          · rw [if_pos h2] at q
            walk_at "f"
            refine g_mulT (by omega) (by omega) (by decide +kernel) (by rw [l1]; omega) ?_
            refine g_addS (sz (Nat.ble_eq.mpr (by rw [rep_len, l1, l2]; omega))) ?_
            walk_at "f"
            refine g_addS (sz (Nat.ble_eq.mpr (by rw [add_len, rep_len, l1, l2]; omega))) ?_
            exact q
          · rw [if_neg h2] at q
            walk_at "f"
            refine ⟨g, rfl, Nat.le_trans g2 (by decide), ?_⟩
            walk_at "f"
            refine g_mulT (by omega) (by omega) (by decide +kernel) (by rw [l1]; omega) ?_
            refine g_addS (sz (Nat.ble_eq.mpr (by rw [rep_len, l1]; omega))) ?_
            walk_at "f"
            have gl : (g ++ repS "0" (p + 1 - (g.length : Int))).length ≤ 2000 := by rw [add_len, rep_len, l1]; omega
            generalize g ++ repS "0" (p + 1 - (g.length : Int)) = y at *
            refine g_slS (Nat.le_trans gl (by decide)) ?_
            have c1 := cutS_length y none (some (p + 1))
            have c2 := cutS_length y (some (p + 1)) none
            walk_at "f"
            refine g_addS (sz (Nat.ble_eq.mpr (by rw [l3]; omega))) ?_
            refine g_orT ?_
            walk_at "f"
            refine g_slS (Nat.le_trans gl (by decide)) ?_
            have q : Q (.str ((cutS y none (some (p + 1)) ++ ".") ++ orS (cutS y (some (p + 1)) none) "0")) H4 := q
            refine ⟨_, ⟨Nat.le_trans c2 (Nat.le_trans gl (by decide)), rfl⟩, ?_⟩
            unfold orS at q
            generalize cutS y (some (p + 1)) none = u at *
            by_cases hu : u.length = 0
            · rw [if_pos hu] at q
              rw [hu]
              refine iteF ?_
              walk_at "f"
              refine g_addS (sz (Nat.ble_eq.mpr (by rw [add_len, l3, l1]; omega))) ?_
              exact q
            · rw [if_neg hu] at q
              have e0 : (((u.length : Nat) : Int) != 0) = true := by
                rw [bne_iff_ne]
                omega
              rw [e0]
              refine iteT ?_
              refine g_addS (sz (Nat.ble_eq.mpr (by rw [add_len, l3]; omega))) ?_
              exact q
/-! ### text_of -/
def txN : Nm → Str
  | .i i => dg i
  | .f s (.str x) _ => if x = "nan" then "nan" else sgA s ++ "inf"
  | .f s (.int n) p => if n = 0 then sgA s ++ "0.0" else sgA s ++ shS (ratN 1 n p).toNat (ratD p).toNat
  | .f _ _ _ => ""
def TxOk : Nm → Prop
  | .i i => i.natAbs < 2 ^ 100 ∧ (dg i).length ≤ 100
  | .f _ (.int n) p => n = 0 ∨ (ShOk (ratN 1 n p).toNat (ratD p).toNat ∧ (shS (ratN 1 n p).toNat (ratD p).toNat).length ≤ 5000)
  | _ => True
theorem sc_textof : FnScope ["number", "ahead"] ["number"] (defScope s_textof) := ⟨rfl, rfl, rfl, by decide +kernel, rfl, by decide +kernel, by decide +kernel⟩
def sp_textof (C : Addr) : Sp := fun vs H Q _ => ∃ (v : V) (n : Nm), vs = [v] ∧ NumAt C H v n ∧ TxOk n ∧ ∀ H', Same H H' → Q (.str (txN n)) H'
theorem ok_textof {f : Addr} {fd : FuncData} (F : FunD K "text_of" "text_of" (defArgs s_textof) (defBody s_textof) (defScope s_textof) [] [] f fd) (B : Blt mg) (T : FlC K mg C) (c_Float : CnF P w K mg base C) (c_shown : Fn P w K mg base CX0 3 "shown" ["number"] [] (sp_shown C)) : FnOk P w K mg base CX0 4 f fd ["number"] (sp_textof C) := by
  have g_Float : mg "Float" = some (.ref C) := T.mg
  refine F.ok sc_textof (fun vs H Q E h => ?_) (fun cdv A outer s H vs Q E hr h => ?_)
  · obtain ⟨_, _, rfl, _⟩ := h; rfl
  · obtain ⟨v, n, rfl, hn, ok, q⟩ := h
    obtain ⟨l1, l2, l3, l4, l5, l6, l7⟩ := lens
    obtain ⟨t, hk, _, _⟩ := hn.kf T
    refine ⟨_, PSs.nox (pss_cons (ps_if (pt_not (pt_val (pe_callB call_isi (by rfl) B.isinstance (by decide +kernel) (pa_cons (pv 0) (pa_cons (pe_gref g_Float) pa_nil))))) (pss_one (ps_ret (pe_callTy call_str_int (by rfl) B.str (by decide +kernel) (pa_cons (pv 0) pa_nil)))) pss_nil)
  (pss_cons (ps_if (pt_cmpR (op_oEq hr.units) (pe_fld (pv 0) rfl) pe_str (nomark _)) (pss_one (ps_ret pe_str)) pss_nil)
  (pss_cons (ps_set (i := 1) sc_textof.nd rfl (Or.inl rfl) (pe_cut (pe_ifExp (pt_cmpR op_oLt (pe_fld (pv 0) rfl) pe_int (nomark _)) pe_str pe_str)))
  (pss_cons (ps_if (pt_cmpR (op_oEq hr.units) (pe_fld (pv 0) rfl) pe_str (nomark _)) (pss_one (ps_ret (pe_op op_oAdd (pv 1) pe_str))) pss_nil)
  (pss_cons (ps_if (pt_cmpR (op_oEq hr.units) (pe_fld (pv 0) rfl) pe_int (nomark _)) (pss_one (ps_ret (pe_op op_oAdd (pv 1) pe_str))) pss_nil)
  (pss_one (ps_ret (pe_op op_oAdd (pv 1) (pe_fn c_shown (hr.mono (by first | decide | omega)) pass0 (pa_cons (pe_cn c_Float (hr.mono (by first | decide | omega)) pass0 (pa_cons pe_int (pa_cons (pe_fld (pv 0) rfl) (pa_cons (pe_fld (pv 0) rfl) pa_nil)))) pa_nil)))))))))), ?_⟩
    walk_at "f"
    refine g_isiF hk ?_
    walk_at "f"
    cases n with
    | i k =>
      cases (show v = _ from hn)
      refine iteT ?_
      walk_at "f"
      refine ⟨Nat.lt_trans (log2_lt ok.1 (by decide)) (by decide), ?_⟩
      exact q _ (Same.refl _)
    | f sg tp p =>
      obtain ⟨a, rfl, hf, ho⟩ := hn
      refine iteF ?_
      walk_at "f"
      refine g_eqV (IS.scal (FL.ok.is (x := ⟨sg, tp, p⟩) ho) (.str _)) ?_
      walk_at "f"
      refine g_ite (fun h1 => ?_) fun h1 => ?_
      · subst h1
        walk_at "f"
        exact q _ (Same.refl _)
      · walk_at "f"
        refine g_cutE (fun z H' => z = .str (sgA sg) ∧ H' = H) ?_ ?_
        · walk_at "f"
          unfold sgA
          refine g_ite (fun h2 => ?_) fun h2 => ?_
          · walk_at "f"
            rw [if_pos h2]
            exact ⟨rfl, rfl⟩
          · walk_at "f"
            rw [if_neg h2]
            exact ⟨rfl, rfl⟩
        · rintro _ H ⟨rfl, rfl⟩
          have lp : (sgA sg).length ≤ 1 := by unfold sgA; split <;> omega
          walk_at "f"
          refine g_eqV (IS.scal (FL.ok.is (x := ⟨sg, tp, p⟩) ho) (.str _)) ?_
          walk_at "f"
          refine g_ite (fun h2 => ?_) fun h2 => ?_
          · subst h2
            walk_at "f"
            refine g_addS (sz (Nat.ble_eq.mpr (by rw [show ("inf" : Str).length = 3 by decide +kernel]; omega))) ?_
            have e : txN (.f sg (.str "inf") p) = sgA sg ++ "inf" := by
                unfold txN
                exact if_neg (fun z => inf_nan z)
            rw [e] at q
            exact q _ (Same.refl _)
          · obtain ⟨m, rfl, hfin⟩ := FL.ok.fin (x := ⟨sg, tp, p⟩) ho h1 h2
            obtain ⟨k, rfl⟩ := Int.eq_ofNat_of_zero_le hfin.1
            walk_at "f"
            refine g_ite (fun h3 => ?_) fun h3 => ?_
            · walk_at "f"
              refine g_addS (sz (Nat.ble_eq.mpr (by rw [show ("0.0" : Str).length = 3 by decide +kernel]; omega))) ?_
              have e : txN (.f sg (.int (k : Nat)) p) = sgA sg ++ "0.0" := if_pos h3
              rw [e] at q
              exact q _ (Same.refl _)
            · have ok := ok.resolve_left h3
              have ho1 : FlOk 1 (.int (k : Nat)) p := ⟨.inl rfl, .inr (.inr ⟨_, rfl, hfin⟩)⟩
              have mk : MkOk 1 (.int (k : Nat)) p := mk_of_flok (.inl rfl) (by have := hfin.2.1; omega) hfin.2.2.1 (by have := hfin.2.2.2.1; rw [intBits_nat] at this; exact this)
              walk_at "f"
              refine mkF mk fun H1 b n1 s1 hb => ?_
              rw [red_again ho1] at hb
              walk_at "f"
              refine ⟨b, k, p, rfl, hb, ho1, ok.1, fun H2 s2 => ?_⟩
              refine g_addS (sz (Nat.ble_eq.mpr (by have := ok.2; omega))) ?_
              have e : txN (.f sg (.int (k : Nat)) p) = sgA sg ++ shS (ratN 1 (k : Nat) p).toNat (ratD p).toNat := if_neg h3
              rw [e] at q
              exact q _ (s1.trans s2)
end
end Up

set_option Elab.async false
set_option linter.all false
set_option maxRecDepth 100000
set_option maxHeartbeats 4000000
set_option exponentiation.threshold 200000
namespace Up
open PySem PySem.Spec PyProof.Rows L2
/-! ### decimal figures -/
abbrev nL (n : Nat) : List Nat := TL.numL n
theorem dg_S (n : Nat) : dg (n : Int) = SX.S (nL n) := SX.num_S n
theorem dg_len (n : Nat) : (dg (n : Int)).length = (nL n).length := by rw [dg_S, SX.S_len]
theorem nL_pos (n : Nat) : 1 ≤ (nL n).length := by
  have := TL.numL_ne n
  cases e : nL n with
  | nil => exact absurd e this
  | cons a r => simp
theorem foldl_lt : ∀ (l : List Nat) (a : Nat), NumText.AllDigits l → l.foldl (fun acc c => acc * 10 + (c - 48)) a < (a + 1) * 10 ^ l.length
  | [], a, _ => by simp
  | c :: r, a, h => by
    have hc : 48 ≤ c ∧ c ≤ 57 := h c List.mem_cons_self
    have ih := foldl_lt r (a * 10 + (c - 48)) (fun x hx => h x (List.mem_cons_of_mem _ hx))
    rw [List.foldl_cons, List.length_cons]
    refine Nat.lt_of_lt_of_le ih ?_
    rw [Nat.pow_succ, Nat.mul_comm (10 ^ r.length) 10, ← Nat.mul_assoc]
    exact Nat.mul_le_mul_right _ (by omega)
theorem dv_lt {l : List Nat} (h : NumText.AllDigits l) : NumText.digitsVal l < 10 ^ l.length := by
  have := foldl_lt l 0 h
  unfold NumText.digitsVal
  omega
theorem nL_hi (n : Nat) : n < 10 ^ (nL n).length := by
  have := dv_lt (TL.numL_digits n)
  rw [TL.numL_val] at this
  exact this
theorem nL_lo {n : Nat} (h : 1 ≤ n) : 10 ^ ((nL n).length - 1) ≤ n := by
  by_cases z : 10 ^ ((nL n).length - 1) ≤ n
  · exact z
  · by_cases y : (nL n).length - 1 = 0
    · rw [y] at z
      omega
    · have := TL.numL_len (n := n) (k := (nL n).length - 1) (by omega) (by omega)
      have p := nL_pos n
      have : (nL n).length ≤ (nL n).length - 1 := this
      omega
theorem nL_le {n k : Nat} (hk : 0 < k) (h : n < 10 ^ k) : (nL n).length ≤ k := TL.numL_len hk h
theorem nL_eq {n k : Nat} (h1 : 10 ^ k ≤ n) (h2 : n < 10 ^ (k + 1)) : (nL n).length = k + 1 := by
  have a := nL_le (by omega) h2
  have b := nL_hi n
  by_cases z : (nL n).length ≤ k
  · have : n < 10 ^ k := Nat.lt_of_lt_of_le b (Nat.pow_le_pow_right (by decide) z)
    omega
  · omega
/-- the first figure of a number is none of the sign 0 -/
theorem nL_head {n : Nat} (h : 1 ≤ n) : ∃ c r, nL n = c :: r ∧ 49 ≤ c ∧ c ≤ 57 := by
  cases e : nL n with
  | nil => exact absurd e (TL.numL_ne n)
  | cons c r =>
    have hd := TL.numL_digits n
    rw [show TL.numL n = c :: r from e] at hd
    have hc : 48 ≤ c ∧ c ≤ 57 := hd c List.mem_cons_self
    refine ⟨c, r, rfl, ?_, hc.2⟩
    by_cases z : c = 48
    · subst z
      have v := TL.numL_val n
      rw [show TL.numL n = 48 :: r from e] at v
      have v2 : NumText.digitsVal r = n := v
      have l := dv_lt (l := r) (fun x hx => hd x (List.mem_cons_of_mem _ hx))
      have lo := nL_lo h
      rw [e, List.length_cons, Nat.add_sub_cancel] at lo
      omega
    · omega
/-! ### the place of the first figure -/
def Plc (t b : Nat) (p : Int) : Prop := (0 ≤ p ∧ 10 ^ p.toNat * b ≤ t ∧ t < 10 ^ (p.toNat + 1) * b) ∨ (p < 0 ∧ b ≤ t * 10 ^ (0 - p).toNat ∧ t * 10 ^ ((0 - p).toNat - 1) < b)
theorem ten_pos (n : Nat) : 0 < 10 ^ n := Nat.pow_pos (by decide)
theorem cast_ten (t n : Nat) : (t : Int) * 10 ^ n = ((t * 10 ^ n : Nat) : Int) := by
  rw [Int.natCast_mul, Int.natCast_pow]
  rfl
theorem pcF_plc {t b : Nat} (t0 : 0 < t) (b0 : 0 < b) : Plc t b (pcF t b) := by
  unfold pcF
  by_cases h : b ≤ t
  · rw [if_pos h, dg_len]
    have n1 : 1 ≤ t / b := (Nat.le_div_iff_mul_le b0).mpr (by omega)
    have lo := nL_lo n1
    have hi := nL_hi (t / b)
    have ps := nL_pos (t / b)
    left
    have e : (((nL (t / b)).length : Int) - 1).toNat = (nL (t / b)).length - 1 := by omega
    refine ⟨by omega, ?_, ?_⟩
    · rw [e]
      exact (Nat.le_div_iff_mul_le b0).mp lo
    · rw [e, show (nL (t / b)).length - 1 + 1 = (nL (t / b)).length by omega]
      exact (Nat.div_lt_iff_lt_mul b0).mp hi
  · rw [if_neg h, dg_len]
    have n1 : 1 ≤ b / t := (Nat.le_div_iff_mul_le t0).mpr (by omega)
    have lo := nL_lo n1
    have hi := nL_hi (b / t)
    have ps := nL_pos (b / t)
    generalize (nL (b / t)).length = l at *
    have lo : 10 ^ (l - 1) * t ≤ b := (Nat.le_div_iff_mul_le t0).mp lo
    have hi : b < 10 ^ l * t := (Nat.div_lt_iff_lt_mul t0).mp hi
    rw [Nat.mul_comm] at lo hi
    have ea : pcA t b (0 - (l : Int)) = 0 - (l : Int) := by
      unfold pcA
      rw [show (0 - (0 - (l : Int))).toNat = l by omega, cast_ten]
      rw [if_neg (by omega)]
    rw [ea]
    unfold pcB
    rw [show (0 - (0 - (l : Int)) - 1).toNat = l - 1 by omega, cast_ten]
    by_cases z : b ≤ t * 10 ^ (l - 1)
    · rw [if_pos (by omega)]
      have eb : b = t * 10 ^ (l - 1) := by omega
      have l2 : 2 ≤ l := by
        by_cases y : l = 1
        · rw [y] at eb
          simp at eb
          omega
        · omega
      right
      have e1 : (0 - (0 - (l : Int) + 1)).toNat = l - 1 := by omega
      refine ⟨by omega, ?_, ?_⟩
      · rw [e1]; exact z
      · rw [e1, eb]
        exact Nat.mul_lt_mul_of_pos_left (Nat.pow_lt_pow_right (by decide) (by omega)) t0
    · rw [if_neg (by omega)]
      right
      have e1 : (0 - (0 - (l : Int))).toNat = l := by omega
      refine ⟨by omega, ?_, ?_⟩
      · rw [e1]; omega
      · rw [e1]; omega
theorem pcF_small {t b : Nat} (ht : t < 2 ^ 1200) (hb : b < 2 ^ 1200) : -400 ≤ pcF t b ∧ pcF t b ≤ 400 := by
  have big : (2 : Nat) ^ 1200 < 10 ^ 400 := by decide +kernel
  have l1 : (nL (t / b)).length ≤ 400 := nL_le (by decide) (Nat.lt_of_le_of_lt (Nat.div_le_self _ _) (by omega))
  have big2 : (2 : Nat) ^ 1200 < 10 ^ 399 := by decide +kernel
  have l2 : (nL (b / t)).length ≤ 399 := nL_le (by decide) (Nat.lt_of_le_of_lt (Nat.div_le_self _ _) (by omega))
  have p1 := nL_pos (t / b)
  have p2 := nL_pos (b / t)
  unfold pcF
  split
  · rw [dg_len]; omega
  · rw [dg_len]
    unfold pcB pcA
    split <;> split <;> omega
/-! ### fourteen figures -/
theorem rd_rng {t b : Nat} {p : Int} (b0 : 0 < b) (h : Plc t b p) : 0 < rdB b (13 - p) ∧ 10 ^ 13 * rdB b (13 - p) ≤ rdT t (13 - p) ∧ rdT t (13 - p) < 10 ^ 14 * rdB b (13 - p) := by
  unfold rdT rdB
  rcases h with ⟨h0, h1, h2⟩ | ⟨h0, h1, h2⟩
  · by_cases z : 0 ≤ 13 - p
    · rw [if_pos z, if_pos z]
      obtain ⟨q, hq⟩ : ∃ q : Nat, (13 - p).toNat = q := ⟨_, rfl⟩
      obtain ⟨m, hm⟩ : ∃ m : Nat, p.toNat = m := ⟨_, rfl⟩
      have e : q + m = 13 := by omega
      rw [hq]
      rw [hm] at h1 h2
      have e13 : (10 : Nat) ^ 13 = 10 ^ q * 10 ^ m := by rw [← Nat.pow_add, e]
      have e14 : (10 : Nat) ^ 14 = 10 ^ q * 10 ^ (m + 1) := by rw [← Nat.pow_add]; congr 1; omega
      refine ⟨b0, ?_, ?_⟩
      · rw [e13, Nat.mul_assoc, Nat.mul_comm t]
        exact Nat.mul_le_mul_left _ h1
      · rw [e14, Nat.mul_assoc, Nat.mul_comm t]
        exact Nat.mul_lt_mul_of_pos_left h2 (ten_pos q)
    · rw [if_neg z, if_neg z]
      obtain ⟨q, hq⟩ : ∃ q : Nat, (0 - (13 - p)).toNat = q := ⟨_, rfl⟩
      have hm : p.toNat = q + 13 := by omega
      rw [hq]
      rw [hm] at h1 h2
      have e13 : (10 : Nat) ^ (q + 13) = 10 ^ q * 10 ^ 13 := Nat.pow_add _ _ _
      have e14 : (10 : Nat) ^ (q + 13 + 1) = 10 ^ q * 10 ^ 14 := by rw [← Nat.pow_add]
      rw [e13] at h1
      rw [e14] at h2
      refine ⟨Nat.mul_pos b0 (ten_pos q), ?_, ?_⟩
      · have : 10 ^ 13 * (b * 10 ^ q) = 10 ^ q * 10 ^ 13 * b := by
          rw [Nat.mul_comm b, ← Nat.mul_assoc, Nat.mul_comm (10 ^ 13)]
        omega
      · have : 10 ^ 14 * (b * 10 ^ q) = 10 ^ q * 10 ^ 14 * b := by
          rw [Nat.mul_comm b, ← Nat.mul_assoc, Nat.mul_comm (10 ^ 14)]
        omega
  · rw [if_pos (by omega), if_pos (by omega)]
    obtain ⟨m, hm⟩ : ∃ m : Nat, (0 - p).toNat = m + 1 := ⟨(0 - p).toNat - 1, by omega⟩
    have hq : (13 - p).toNat = m + 14 := by omega
    rw [hq]
    rw [hm, Nat.add_sub_cancel] at h2
    rw [hm] at h1
    refine ⟨b0, ?_, ?_⟩
    · have e : (10 : Nat) ^ (m + 14) = 10 ^ 13 * 10 ^ (m + 1) := by rw [← Nat.pow_add]; congr 1; omega
      have : t * 10 ^ (m + 14) = 10 ^ 13 * (t * 10 ^ (m + 1)) := by
        rw [e, ← Nat.mul_assoc, Nat.mul_comm t, Nat.mul_assoc]
      rw [this]
      exact Nat.mul_le_mul_left _ h1
    · have e : (10 : Nat) ^ (m + 14) = 10 ^ 14 * 10 ^ m := by rw [← Nat.pow_add]; congr 1; omega
      have : t * 10 ^ (m + 14) = 10 ^ 14 * (t * 10 ^ m) := by
        rw [e, ← Nat.mul_assoc, Nat.mul_comm t, Nat.mul_assoc]
      rw [this]
      exact Nat.mul_lt_mul_of_pos_left h2 (by decide)
/-- half to even -/
theorem rdW_ok {x y : Nat} (y0 : 0 < y) : 2 * (rdW x y * y) ≤ 2 * x + y ∧ 2 * x ≤ 2 * (rdW x y * y) + y ∧ (2 * (rdW x y * y) = 2 * x + y → rdW x y % 2 = 0) ∧ (2 * x = 2 * (rdW x y * y) + y → rdW x y % 2 = 0) := by
  have e : y * (x / y) + x % y = x := Nat.div_add_mod x y
  have r : x % y < y := Nat.mod_lt x y0
  unfold rdW
  generalize x / y = q at *
  generalize x % y = s at *
  have eq : (q + 1) * y = y * q + y := by rw [Nat.add_mul, Nat.one_mul, Nat.mul_comm]
  have eq2 : q * y = y * q := Nat.mul_comm _ _
  split
  · rename_i h
    rw [eq]
    generalize y * q = z at *
    refine ⟨by omega, by omega, fun h2 => by omega, fun h2 => by omega⟩
  · rename_i h
    rw [eq2]
    generalize y * q = z at *
    refine ⟨by omega, by omega, fun h2 => by omega, fun h2 => ?_⟩
    by_cases z : q % 2 = 1
    · exact absurd (.inr ⟨by omega, z⟩) h
    · omega
theorem rdW_rng {x y : Nat} (y0 : 0 < y) (h1 : 10 ^ 13 * y ≤ x) (h2 : x < 10 ^ 14 * y) : 10 ^ 13 ≤ rdW x y ∧ rdW x y ≤ 10 ^ 14 := by
  have a : 10 ^ 13 ≤ x / y := (Nat.le_div_iff_mul_le y0).mpr h1
  have b : x / y < 10 ^ 14 := (Nat.div_lt_iff_lt_mul y0).mpr h2
  unfold rdW
  split <;> omega
def hiN (p : Int) : Nat := if 13 < p then 10 ^ (p - 13).toNat else 1
def loN (p : Int) : Nat := if 13 < p then 1 else 10 ^ (13 - p).toNat
/-- what is asked of the figures f (fourteen of them) and the place p of the first one -/
structure Shown (t b : Nat) (f : Nat) (p : Int) : Prop where
  f1 : 10 ^ 13 ≤ f
  f2 : f < 10 ^ 14
  up : 2 * (f * (hiN p * b)) ≤ 2 * (t * loN p) + hiN p * b
  dn : 2 * (t * loN p) ≤ 2 * (f * (hiN p * b)) + hiN p * b
  ue : 2 * (f * (hiN p * b)) = 2 * (t * loN p) + hiN p * b → f % 2 = 0
  de : 2 * (t * loN p) = 2 * (f * (hiN p * b)) + hiN p * b → f % 2 = 0
  fl : 10 ^ 13 < f ∨ f * (hiN p * b) ≤ t * loN p ∨ 20 * (f * (hiN p * b)) ≤ 20 * (t * loN p) + hiN p * b
theorem rdTB {t b : Nat} {p : Int} : rdT t (13 - p) = t * loN p ∧ rdB b (13 - p) = hiN p * b := by
  unfold rdT rdB loN hiN
  by_cases h : 13 < p
  · rw [if_neg (show ¬ 0 ≤ 13 - p by omega), if_neg (show ¬ 0 ≤ 13 - p by omega), if_pos h, if_pos h]
    refine ⟨(Nat.mul_one _).symm, ?_⟩
    rw [show (0 - (13 - p)).toNat = (p - 13).toNat by omega, Nat.mul_comm]
  · rw [if_pos (show 0 ≤ 13 - p by omega), if_pos (show 0 ≤ 13 - p by omega), if_neg h, if_neg h]
    exact ⟨rfl, (Nat.one_mul _).symm⟩
theorem sh_ok {t b : Nat} (t0 : 0 < t) (b0 : 0 < b) : Shown t b (shF t b) (shP t b) := by
  have pl := pcF_plc t0 b0
  obtain ⟨y0, r1, r2⟩ := rd_rng b0 pl
  have rr := rdW_rng y0 r1 r2
  obtain ⟨w1, w2, w3, w4⟩ := rdW_ok (x := rdT t (13 - pcF t b)) y0
  have eR : shR t b = rdW (rdT t (13 - pcF t b)) (rdB b (13 - pcF t b)) := rfl
  unfold shF shP
  rw [eR]
  obtain ⟨e1, e2⟩ := rdTB (t := t) (b := b) (p := pcF t b)
  rw [e2] at y0
  rw [e1, e2] at r1 r2 rr w1 w2 w3 w4 ⊢
  clear e1 e2 eR
  generalize pcF t b = p at *
  generalize hR : rdW (t * loN p) (hiN p * b) = R at *
  by_cases h : R = 10 ^ 14
  · rw [if_pos h, if_pos h, h]
    rw [show 10 ^ 14 / 10 = 10 ^ 13 from rfl]
    rw [h] at w1 w2
    have key : (hiN (p + 1) * b = hiN p * b ∧ t * loN p = 10 * (t * loN (p + 1))) ∨ (hiN (p + 1) * b = 10 * (hiN p * b) ∧ t * loN (p + 1) = t * loN p) := by
      unfold hiN loN
      by_cases z : 13 < p
      · right
        rw [if_pos z, if_pos z, if_pos (by omega), if_pos (by omega)]
        have : (p + 1 - 13).toNat = (p - 13).toNat + 1 := by omega
        rw [this, Nat.pow_succ]
        refine ⟨?_, rfl⟩
        rw [Nat.mul_comm (10 ^ _) 10, Nat.mul_assoc]
      · by_cases y : p = 13
        · right
          rw [if_neg z, if_neg z, if_pos (by omega), if_pos (by omega), y]
          refine ⟨?_, rfl⟩
          rw [Nat.one_mul]
          rfl
        · left
          rw [if_neg z, if_neg z, if_neg (by omega), if_neg (by omega)]
          have : (13 - p).toNat = (13 - (p + 1)).toNat + 1 := by omega
          rw [this, Nat.pow_succ, Nat.mul_comm (10 ^ _) 10, ← Nat.mul_assoc, ← Nat.mul_assoc, Nat.mul_comm t 10]
          exact ⟨rfl, rfl⟩
    rcases key with ⟨k1, k2⟩ | ⟨k1, k2⟩
    · rw [k2] at r2 w1 w2
      refine ⟨by decide, by decide, ?_, ?_, fun _ => by decide, fun _ => by decide, .inr (.inr ?_)⟩ <;> rw [k1] <;> omega
    · rw [← k2] at r2 w1 w2
      refine ⟨by decide, by decide, ?_, ?_, fun _ => by decide, fun _ => by decide, .inr (.inr ?_)⟩ <;> rw [k1] <;> omega
  · rw [if_neg h, if_neg h]
    refine ⟨rr.1, by omega, w1, w2, w3, w4, ?_⟩
    by_cases z : R = 10 ^ 13
    · right; left
      rw [z]
      exact r1
    · left; omega
end Up

set_option Elab.async false
set_option linter.all false
set_option maxRecDepth 100000
set_option maxHeartbeats 4000000
set_option exponentiation.threshold 200000
namespace Up
open PySem PySem.Spec PyProof.Rows L2
/-! ### texts as lists of signs -/
abbrev Sx (l : List Nat) : Str := SX.S l
theorem lit0 : ("0" : Str) = Sx [48] := by decide +kernel
theorem litP : ("." : Str) = Sx [46] := by decide +kernel
theorem litE : ("e" : Str) = Sx [101] := by decide +kernel
theorem litM : ("-" : Str) = Sx [45] := by decide +kernel
theorem litA : ("+" : Str) = Sx [43] := by decide +kernel
theorem litN : ("" : Str) = Sx [] := by decide +kernel
theorem litZ : ("0." : Str) = Sx [48, 46] := by decide +kernel
theorem litZ2 : ("0.0" : Str) = Sx [48, 46, 48] := by decide +kernel
theorem Sx_cps (l : List Nat) : (Sx l).cps.toList = l := by simp [Sx, SX.S]
theorem Sx_len (l : List Nat) : (Sx l).length = l.length := SX.S_len l
theorem Sx_cat (a b : List Nat) : Sx a ++ Sx b = Sx (a ++ b) := SX.S_cat a b
theorem Sx_inj {a b : List Nat} : Sx a = Sx b ↔ a = b := ⟨SX.S_inj, fun h => by rw [h]⟩
theorem Sx_getD (l : List Nat) (k : Nat) : (Sx l).cps.getD k 0 = l.getD k 0 := by
  rw [← getD_list, Sx_cps]
theorem has48 (c : Nat) : ("0" : Str).cps.contains c = decide (c = 48) := by
  rw [lit0]
  show (#[48] : Array Nat).contains c = _
  by_cases h : c = 48
  · subst h; simp
  · rw [decide_eq_false h]
    simp [h]
theorem sub_S (l : List Nat) (i j : Nat) : Builtin.Str.strSub (Sx l) i j = Sx ((l.drop i).take (j - i)) := by
  rw [strSub_mk, Sx_cps]
theorem rep_S (n : Int) : repS "0" n = Sx (List.replicate n.toNat 48) := by
  have key : ∀ k : Nat, mulStr "0" k = Sx (List.replicate k 48) := fun k => by
    have h : ∀ (k : Nat) (a : List Nat), (List.replicate k (#[48] : Array Nat)).foldl (· ++ ·) a.toArray = (a ++ List.replicate k 48).toArray := by
      intro k
      induction k with
      | zero => intro a; simp
      | succ k ih =>
        intro a
        rw [List.replicate_succ, List.foldl_cons]
        have : a.toArray ++ (#[48] : Array Nat) = (a ++ [48]).toArray := by simp
        rw [this, ih]
        congr 1
        rw [List.append_assoc]
        rfl
    have e : ("0" : Str).cps = #[48] := by rw [lit0]
    show (⟨(List.replicate k ("0" : Str).cps).foldl (· ++ ·) #[]⟩ : Str) = _
    rw [e]
    have := h k []
    rw [List.nil_append] at this
    show (⟨(List.replicate k (#[48] : Array Nat)).foldl (· ++ ·) #[]⟩ : Str) = SX.S (List.replicate k 48)
    rw [show (#[] : Array Nat) = ([] : List Nat).toArray from rfl, this]
  unfold repS
  split
  · rename_i h
    rw [show n.toNat = 0 by omega]
    have : Str.empty = Sx [] := by decide +kernel
    rw [this]
    rfl
  · split
    · rename_i h
      rw [Bool.or_eq_true] at h
      rcases h with h | h
      · rw [show n.toNat = 1 by have := beq_iff_eq.mp h; omega]
        exact lit0
      · rw [lit0] at h
        have := beq_iff_eq.mp h
        rw [Sx_len] at this
        cases this
    · exact key _
/-! ### zeros at the end and ahead -/
theorem last_nz : ∀ {l : List Nat}, (∃ c ∈ l, c ≠ 48) → ∃ G c z, l = (G ++ [c]) ++ List.replicate z 48 ∧ c ≠ 48 := by
  intro l
  induction hn : l.length generalizing l with
  | zero =>
    rintro ⟨c, h, _⟩
    rw [List.eq_nil_of_length_eq_zero hn] at h
    cases h
  | succ n ih =>
    rintro ⟨c, h, hc⟩
    have ne : l ≠ [] := fun z => by rw [z] at h; cases h
    have e : l.dropLast ++ [l.getLast ne] = l := List.dropLast_concat_getLast ne
    by_cases hx : l.getLast ne = 48
    · have hm : c ∈ l.dropLast := by
        rw [← e] at h
        rcases List.mem_append.mp h with h | h
        · exact h
        · rw [List.mem_singleton.mp h] at hc
          exact absurd hx hc
      obtain ⟨G, d, z, eg, hd⟩ := ih (l := l.dropLast) (by rw [List.length_dropLast, hn]; rfl) ⟨c, hm, hc⟩
      refine ⟨G, d, z + 1, ?_, hd⟩
      rw [← e, eg, hx, List.append_assoc, List.replicate_succ']
    · exact ⟨l.dropLast, l.getLast ne, 0, by rw [List.replicate_zero, List.append_nil, e], hx⟩
theorem rstrip_S (G : List Nat) (c z : Nat) (hc : c ≠ 48) : Txt.rstripChars (Sx ((G ++ [c]) ++ List.replicate z 48)) "0" = Sx (G ++ [c]) := by
  unfold Txt.rstripChars
  rw [stripBy_eq]
  have lo : ∀ goes, stripLo goes false (Sx ((G ++ [c]) ++ List.replicate z 48)) = 0 := fun goes => by simp [stripLo]
  rw [lo]
  obtain ⟨h1, h2, h3, h4⟩ := hi_facts (("0" : Str).cps.contains) (Sx ((G ++ [c]) ++ List.replicate z 48)) 0 (Nat.zero_le _)
  generalize stripHi (("0" : Str).cps.contains) true (Sx ((G ++ [c]) ++ List.replicate z 48)) 0 = hi at *
  rw [Sx_len, List.length_append, List.length_append, List.length_replicate, List.length_singleton] at h2 h3
  have at1 : ((G ++ [c]) ++ List.replicate z 48).getD G.length 0 = c := by simp
  have at2 : ∀ k, G.length + 1 ≤ k → k < G.length + 1 + z → ((G ++ [c]) ++ List.replicate z 48).getD k 0 = 48 := fun k h5 h6 => by
    rw [List.getD_eq_getElem?_getD, List.getElem?_append_right (by simp; omega), List.getElem?_replicate]
    rw [if_pos (by simp; omega)]
    rfl
  have a1 : G.length < hi := by
    by_cases y : G.length < hi
    · exact y
    · have := h3 G.length (by omega) (by omega)
      rw [Sx_getD, at1, has48] at this
      exact absurd (of_decide_eq_true this) hc
  have a2 : hi ≤ G.length + 1 := by
    by_cases y : hi ≤ G.length + 1
    · exact y
    · rcases h4 with h4 | h4
      · omega
      · rw [Sx_getD, at2 (hi - 1) (by omega) (by omega), has48] at h4
        cases h4
  have e : hi = G.length + 1 := by omega
  rw [e, sub_S]
  congr 1
  rw [List.drop_zero, Nat.sub_zero]
  have : (G ++ [c]).length = G.length + 1 := by simp
  rw [← this, List.take_left']
  rfl
theorem lstrip_S (c z : Nat) (r : List Nat) (hc : c ≠ 48) : Txt.lstripChars (Sx (List.replicate z 48 ++ c :: r)) "0" = Sx (c :: r) := by
  unfold Txt.lstripChars
  rw [stripBy_eq]
  obtain ⟨h1, h2, h3⟩ := lo_facts (("0" : Str).cps.contains) (Sx (List.replicate z 48 ++ c :: r))
  have hi : ∀ goes lo, stripHi goes false (Sx (List.replicate z 48 ++ c :: r)) lo = (Sx (List.replicate z 48 ++ c :: r)).length := fun goes lo => by simp [stripHi]
  rw [hi]
  generalize stripLo (("0" : Str).cps.contains) true (Sx (List.replicate z 48 ++ c :: r)) = lo at *
  rw [Sx_len] at h1 h3 ⊢
  have ll : (List.replicate z 48 ++ c :: r).length = z + r.length + 1 := by simp; omega
  rw [ll] at h1 h3 ⊢
  have at1 : (List.replicate z 48 ++ c :: r).getD z 0 = c := by
    rw [List.getD_eq_getElem?_getD, List.getElem?_append_right (by simp)]
    simp
  have at2 : ∀ k, k < z → (List.replicate z 48 ++ c :: r).getD k 0 = 48 := fun k hk => by
    rw [List.getD_eq_getElem?_getD, List.getElem?_append_left (by simp; exact hk), List.getElem?_replicate, if_pos hk]
    rfl
  have a1 : lo ≤ z := by
    by_cases y : lo ≤ z
    · exact y
    · have := h2 z (by omega)
      rw [Sx_getD, at1, has48] at this
      exact absurd (of_decide_eq_true this) hc
  have a2 : z ≤ lo := by
    by_cases y : z ≤ lo
    · exact y
    · rcases h3 with h3 | h3
      · omega
      · rw [Sx_getD, at2 lo (by omega), has48] at h3
        cases h3
  have e : lo = z := by omega
  rw [e, sub_S]
  congr 1
  rw [show z + r.length + 1 - z = (c :: r).length by simp; omega]
  have : (List.replicate z 48 ++ c :: r).drop z = c :: r := by
    have h := List.drop_left' (l₁ := List.replicate z 48) (l₂ := c :: r) (i := z) (by simp)
    exact h
  rw [this, List.take_length]
/-! ### what text_of tells -/
structure Figs (t b : Nat) (G : List Nat) : Prop where
  hd : ∃ c r, G = c :: r ∧ 49 ≤ c ∧ c ≤ 57
  tl : ∃ G0 c, G = G0 ++ [c] ∧ c ≠ 48
  dig : ∀ c ∈ G, 48 ≤ c ∧ c ≤ 57
  len : G.length ≤ 14
  val : NumText.digitsVal G * 10 ^ (14 - G.length) = shF t b
  eq : shG t b = Sx G
theorem dv_app (l : List Nat) : ∀ z : Nat, NumText.digitsVal (l ++ List.replicate z 48) = NumText.digitsVal l * 10 ^ z
  | 0 => by simp
  | z + 1 => by
    rw [List.replicate_succ', ← List.append_assoc, NumText.digitsVal_snoc, dv_app l z, Nat.pow_succ]
    rw [Nat.sub_self, Nat.add_zero, Nat.mul_assoc]
theorem figs_ex {t b : Nat} (t0 : 0 < t) (b0 : 0 < b) : ∃ G, Figs t b G := by
  have sh := sh_ok t0 b0
  have f1 := sh.f1
  have f2 := sh.f2
  have hl : (nL (shF t b)).length = 14 := nL_eq f1 f2
  obtain ⟨c, r, e, c1, c2⟩ := nL_head (n := shF t b) (by omega)
  obtain ⟨G0, d, z, eg, hd⟩ := last_nz (l := nL (shF t b)) ⟨c, by rw [e]; exact List.mem_cons_self, by omega⟩
  have dig := TL.numL_digits (shF t b)
  have hlen : G0.length + 1 + z = 14 := by
    rw [eg] at hl
    simp at hl
    omega
  have eq : shG t b = Sx (G0 ++ [d]) := by
    unfold shG
    rw [dg_S, eg, rstrip_S G0 d z hd]
  refine ⟨G0 ++ [d], ?_, ⟨G0, d, rfl, hd⟩, fun x hx => dig x (by rw [show TL.numL (shF t b) = (G0 ++ [d]) ++ List.replicate z 48 from eg]; exact List.mem_append_left _ hx), by simp; omega, ?_, eq⟩
  · cases G0 with
    | nil =>
      refine ⟨d, [], rfl, ?_⟩
      rw [e] at eg
      have : c = d := by
        have := congrArg List.head? eg
        simpa using this
      rw [← this]
      exact ⟨c1, c2⟩
    | cons x G1 =>
      refine ⟨x, G1 ++ [d], rfl, ?_⟩
      rw [e] at eg
      have : c = x := by
        have := congrArg List.head? eg
        simpa using this
      rw [← this]
      exact ⟨c1, c2⟩
  · have v := TL.numL_val (shF t b)
    rw [show TL.numL (shF t b) = (G0 ++ [d]) ++ List.replicate z 48 from eg, dv_app] at v
    rw [show 14 - (G0 ++ [d]).length = z by simp; omega]
    exact v
end Up

set_option Elab.async false
set_option linter.all false
set_option maxRecDepth 100000
set_option maxHeartbeats 4000000
set_option exponentiation.threshold 200000
namespace Up
open PySem PySem.Spec PyProof.Rows L2
/-! ### the forms of a text of a number -/
abbrev Dg (l : List Nat) : Prop := ∀ c ∈ l, 48 ≤ c ∧ c ≤ 57
abbrev LNz (l : List Nat) : Prop := ∃ G0 c, l = G0 ++ [c] ∧ c ≠ 48
abbrev Zs (n : Nat) : List Nat := List.replicate n 48
theorem dg_zs (n : Nat) : Dg (Zs n) := fun c h => by rw [(List.mem_replicate.mp h).2]; omega
theorem dg_app {a b : List Nat} (h : Dg a) (g : Dg b) : Dg (a ++ b) := fun c m => (List.mem_append.mp m).elim (h c) (g c)
theorem dv_zs (l : List Nat) : ∀ z : Nat, NumText.digitsVal (Zs z ++ l) = NumText.digitsVal l
  | 0 => rfl
  | z + 1 => dv_zs l z
inductive Prt : List Nat → List Nat → Int → Prop where
  | low (z c : Nat) (r : List Nat) : z ≤ 3 → Dg (c :: r) → c ≠ 48 → LNz (c :: r) → Prt ([48] ++ 46 :: (Zs z ++ c :: r)) (c :: r) (-1 - (z : Int))
  | mid (c : Nat) (r U : List Nat) : r.length ≤ 13 → Dg (c :: r) → Dg U → c ≠ 48 → (U = [48] ∨ LNz U) → Prt ((c :: r) ++ 46 :: U) ((c :: r) ++ U) (r.length : Nat)
  | exp (c s : Nat) (U N : List Nat) (p : Int) : Dg (c :: U) → c ≠ 48 → (U = [] ∨ LNz U) → Dg N → 2 ≤ N.length → (2 < N.length → N.getD 0 0 ≠ 48) → (s = 43 ∧ p = (NumText.digitsVal N : Nat) ∨ s = 45 ∧ p = 0 - ((NumText.digitsVal N : Nat) : Int)) → p < -4 ∨ 13 < p → Prt (([c] ++ if U = [] then [] else 46 :: U) ++ 101 :: s :: N) (c :: U) p
theorem hd_S (c : Nat) (r : List Nat) : hdS (Sx (c :: r)) = Sx [c] := rfl
theorem cut_from (l : List Nat) {i : Int} (h : 0 ≤ i) : cutS (Sx l) (some i) none = Sx (l.drop i.toNat) := by rw [C8.cutS_slice]; exact SX.slice_from h
theorem cut_to (l : List Nat) {i : Int} (h : 0 ≤ i) : cutS (Sx l) none (some i) = Sx (l.take i.toNat) := by rw [C8.cutS_slice]; exact SX.slice_to h
theorem fr_S (p : Int) : frS p = Sx (nL p.natAbs) := by
  unfold frS
  rw [show (if p < 0 then -p else p) = ((p.natAbs : Nat) : Int) by split <;> omega]
  exact dg_S _
theorem far_ok {n : Nat} (h1 : 4 < n) (h2 : n ≤ 500) : Dg (Zs (2 - (nL n).length) ++ nL n) ∧ 2 ≤ (Zs (2 - (nL n).length) ++ nL n).length ∧ (Zs (2 - (nL n).length) ++ nL n).length ≤ 3 ∧ (2 < (Zs (2 - (nL n).length) ++ nL n).length → (Zs (2 - (nL n).length) ++ nL n).getD 0 0 ≠ 48) ∧ NumText.digitsVal (Zs (2 - (nL n).length) ++ nL n) = n := by
  have l1 := nL_pos n
  have l2 : (nL n).length ≤ 3 := nL_le (by decide) (by omega)
  have len : (Zs (2 - (nL n).length) ++ nL n).length = (2 - (nL n).length) + (nL n).length := by rw [List.length_append, List.length_replicate]
  refine ⟨dg_app (dg_zs _) (TL.numL_digits n), by omega, by omega, fun h => ?_, ?_⟩
  · rw [show 2 - (nL n).length = 0 by omega]
    obtain ⟨c, r, e, c1, c2⟩ := nL_head (n := n) (by omega)
    rw [e]
    show c ≠ 48
    omega
  · rw [dv_zs]
    exact TL.numL_val n
theorem prt_ex {t b : Nat} {G : List Nat} {p : Int} (F : Figs t b G) (p1 : -450 ≤ p) (p2 : p ≤ 450) : ∃ l k, shV p (Sx G) = Sx l ∧ Prt l (G ++ Zs k) p ∧ k ≤ 14 ∧ l.length ≤ 40 := by
  obtain ⟨c, r, e, c1, c2⟩ := F.hd
  have dig := F.dig
  have tl := F.tl
  have len := F.len
  have len1 : 1 ≤ G.length := by rw [e]; exact Nat.le_add_left _ _
  unfold shV
  by_cases h1 : p < -4 ∨ 14 ≤ p
  · rw [if_pos h1]
    unfold shX
    obtain ⟨f1, f2, f5, f3, f4⟩ := far_ok (n := p.natAbs) (by omega) (by omega)
    have ep : ptS (Sx (c :: r)) = Sx (if r = [] then [] else [46]) := by
      unfold ptS
      rw [Sx_len, List.length_cons]
      by_cases z : r = []
      · rw [if_pos z, if_neg (by rw [z]; decide), litN]
      · have : 0 < r.length := List.length_pos_iff.mpr z
        rw [if_neg z, if_pos (by omega), litP]
    have es : sgS p = Sx [if p < 0 then 45 else 43] := by
      unfold sgS
      split
      · exact litM
      · exact litA
    rw [e, hd_S, ep, cut_from _ (by decide), litE, es, fr_S, Sx_len, rep_S, show ((2 : Int) - ((nL p.natAbs).length : Int)).toNat = 2 - (nL p.natAbs).length by omega]
    rw [Sx_cat, Sx_cat, Sx_cat, Sx_cat, Sx_cat, Sx_cat]
    rw [show (c :: r).drop (Int.toNat 1) = r from rfl]
    have lU : r = [] ∨ LNz r := by
      cases r with
      | nil => exact .inl rfl
      | cons d r2 =>
        right
        obtain ⟨G0, x, ex, hx⟩ := tl
        rw [e] at ex
        cases G0 with
        | nil => cases ex
        | cons y G1 => exact ⟨G1, x, (List.cons.inj ex).2, hx⟩
    have P := Prt.exp c (if p < 0 then 45 else 43) r _ p (by rw [← e]; exact dig) (by omega) lU f1 f2 f3 (by rw [f4]; split <;> omega) (by omega)
    refine ⟨_, 0, rfl, ?_, by omega, ?_⟩
    · rw [show Zs 0 = [] from rfl, List.append_nil]
      have eq : ((((((([c] ++ if r = [] then [] else [46]) ++ r) ++ [101]) ++ [if p < 0 then 45 else 43]) ++ List.replicate (2 - (nL p.natAbs).length) 48) ++ nL p.natAbs)) = (([c] ++ if r = [] then [] else 46 :: r) ++ 101 :: (if p < 0 then 45 else 43) :: (Zs (2 - (nL p.natAbs).length) ++ nL p.natAbs)) := by
        by_cases z : r = []
        · rw [z]; simp
        · rw [if_neg z, if_neg z]; simp
      rw [eq]
      exact P
    · rw [List.length_append] at f5
      have e1 : (if r = [] then ([] : List Nat) else [46]).length ≤ 1 := by split <;> simp
      have e2 : r.length + 1 ≤ 14 := by rw [e] at len; exact len
      simp only [List.length_append, List.length_cons, List.length_nil]
      rw [List.length_replicate] at f5 ⊢
      omega
  · rw [if_neg h1]
    by_cases h2 : p < 0
    · rw [if_pos h2, litZ, rep_S, Sx_cat, Sx_cat]
      have P := Prt.low (0 - p - 1).toNat c r (by omega) (by rw [← e]; exact dig) (by omega) (by rw [← e]; exact tl)
      rw [show (-1 - ((0 - p - 1).toNat : Int)) = p by omega] at P
      refine ⟨_, 0, rfl, ?_, by omega, ?_⟩
      · rw [show Zs 0 = [] from rfl, List.append_nil, e]
        have eq : ([48, 46] ++ List.replicate (0 - p - 1).toNat 48) ++ c :: r = [48] ++ 46 :: (Zs (0 - p - 1).toNat ++ c :: r) := by simp
        rw [eq]
        exact P
      · simp only [List.length_append, List.length_cons, List.length_nil, List.length_replicate]
        omega
    · rw [if_neg h2, Sx_len, rep_S, Sx_cat]
      unfold shW
      rw [cut_to _ (by omega), cut_from _ (by omega), litP]
      obtain ⟨m, hm⟩ : ∃ m : Nat, p = m := ⟨p.toNat, by omega⟩
      subst hm
      rw [show ((m : Int) + 1).toNat = m + 1 by omega, show ((m : Int) + 1 - (G.length : Int)).toNat = m + 1 - G.length by omega]
      unfold orS
      rw [Sx_len]
      by_cases z : G.length ≤ m + 1
      · have ly : (G ++ Zs (m + 1 - G.length)).length = m + 1 := by rw [List.length_append, List.length_replicate]; omega
        have d0 : (G ++ List.replicate (m + 1 - G.length) 48).drop (m + 1) = [] := List.drop_eq_nil_of_le (Nat.le_of_eq ly)
        have d1 : (G ++ List.replicate (m + 1 - G.length) 48).take (m + 1) = G ++ List.replicate (m + 1 - G.length) 48 := List.take_of_length_le (Nat.le_of_eq ly)
        rw [d0, d1, if_pos (show ([] : List Nat).length = 0 from rfl), lit0, Sx_cat, Sx_cat]
        refine ⟨_, m + 1 - G.length + 1, rfl, ?_, by omega, ?_⟩
        · have lG : G.length = r.length + 1 := by rw [e]; rfl
          have e3 : (r ++ Zs (m + 1 - G.length)).length = m := by
            rw [List.length_append, List.length_replicate]
            omega
          have P := Prt.mid c (r ++ Zs (m + 1 - G.length)) [48] (by rw [e3]; omega) (by rw [← List.cons_append, ← e]; exact dg_app dig (dg_zs _)) (by intro x hx; rw [List.mem_singleton.mp hx]; omega) (by omega) (.inl rfl)
          rw [e3, ← List.cons_append, ← e] at P
          have eq : ((G ++ List.replicate (m + 1 - G.length) 48) ++ [46]) ++ [48] = (G ++ Zs (m + 1 - G.length)) ++ 46 :: [48] := by simp
          rw [eq]
          have eq2 : (G ++ Zs (m + 1 - G.length)) ++ [48] = G ++ Zs (m + 1 - G.length + 1) := by rw [List.append_assoc]; congr 1; exact (List.replicate_succ' ..).symm
          rw [eq2] at P
          exact P
        · rw [List.length_append, List.length_append]
          have : (G ++ List.replicate (m + 1 - G.length) 48).length = m + 1 := ly
          simp only [List.length_cons, List.length_nil]
          omega
      · rw [show m + 1 - G.length = 0 by omega, show List.replicate 0 48 = ([] : List Nat) from rfl, List.append_nil]
        rw [if_neg (by rw [List.length_drop]; omega), Sx_cat, Sx_cat]
        refine ⟨_, 0, rfl, ?_, by omega, ?_⟩
        · have lU : LNz (G.drop (m + 1)) := by
            obtain ⟨G0, x, ex, hx⟩ := tl
            have : G.length = G0.length + 1 := by rw [ex]; simp
            refine ⟨G0.drop (m + 1), x, ?_, hx⟩
            rw [ex, List.drop_append_of_le_length (by omega)]
          have P := Prt.mid c (r.take m) (G.drop (m + 1)) (by rw [List.length_take]; omega) (by
              intro x hx
              refine dig x ?_
              rw [e]
              rcases List.mem_cons.mp hx with rfl | hx
              · exact List.mem_cons_self
              · exact List.mem_cons_of_mem _ (List.mem_of_mem_take hx)) (fun x hx => dig x (List.mem_of_mem_drop hx)) (by omega) (.inr lU)
          have e3 : (r.take m).length = m := by
            rw [e, List.length_cons] at z
            rw [List.length_take]
            omega
          rw [e3] at P
          have e4 : G.take (m + 1) = c :: r.take m := by rw [e]; rfl
          rw [← e4, List.take_append_drop] at P
          rw [show Zs 0 = [] from rfl, List.append_nil]
          have eq : (G.take (m + 1) ++ [46]) ++ G.drop (m + 1) = G.take (m + 1) ++ 46 :: G.drop (m + 1) := by simp
          rw [eq]
          exact P
        · simp only [List.length_append, List.length_cons, List.length_nil, List.length_take, List.length_drop]
          omega
/-- the text of a fraction above 0 -/
theorem shS_ex {t b : Nat} (t0 : 0 < t) (b0 : 0 < b) (ht : t < 2 ^ 1200) (hb : b < 2 ^ 1200) : ∃ G l k, Figs t b G ∧ shS t b = Sx l ∧ Prt l (G ++ Zs k) (shP t b) ∧ k ≤ 14 ∧ l.length ≤ 40 := by
  obtain ⟨G, F⟩ := figs_ex t0 b0
  have ps := pcF_small ht hb
  obtain ⟨l, k, e, P, hk, hl⟩ := prt_ex F (p := shP t b) (by unfold shP; split <;> omega) (by unfold shP; split <;> omega)
  refine ⟨G, l, k, F, ?_, P, hk, hl⟩
  unfold shS
  rw [F.eq]
  exact e
end Up

set_option Elab.async false
set_option linter.all false
set_option maxRecDepth 100000
set_option maxHeartbeats 4000000
namespace Up
open PySem PySem.Spec PyProof.Rows L2
/-! ### the source of draws: a list of three ints that each draw changes -/
def Well (H : Hp) (w : Addr) : Prop := ∃ a b c : Int, H w = some (.lst [.int a, .int b, .int c]) ∧ 0 ≤ a ∧ 0 ≤ b ∧ b < 2147483647 ∧ 0 ≤ c
/-- all but the list at w stands -/
def Stp (w : Addr) (H H' : Hp) : Prop := ∀ b o, b ≠ w → H b = some o → H' b = some o
theorem Stp.refl (w : Addr) (H : Hp) : Stp w H H := fun _ _ _ h => h
theorem Stp.trans {w : Addr} {H H1 H2 : Hp} (a : Stp w H H1) (b : Stp w H1 H2) : Stp w H H2 := fun c o n h => b c o n (a c o n h)
theorem Stp.of {w : Addr} {H H' : Hp} (s : Same H H') : Stp w H H' := fun b o _ h => s b o h
theorem Well.same {w : Addr} {H H' : Hp} (h : Well H w) (s : Same H H') : Well H' w := by
  obtain ⟨a, b, c, h, r⟩ := h
  exact ⟨a, b, c, s _ _ h, r⟩
theorem Well.ne_none {w p : Addr} {H : Hp} (h : Well H w) (n : H p = none) : p ≠ w := by
  obtain ⟨a, b, c, h, _⟩ := h
  exact fun z => by rw [z, h] at n; cases n
/-- a place that holds no list -/
theorem Well.ne {w p : Addr} {H : Hp} {o : HO} (h : Well H w) (e : H p = some o) (n : ∀ xs, o ≠ .lst xs) : p ≠ w := by
  obtain ⟨a, b, c, h, _⟩ := h
  exact fun z => by
    rw [z, h] at e
    exact n _ (Option.some.inj e).symm
theorem Stp.ins {w p C dx : Addr} {H H' : Hp} {fs : List (Str × V)} (s : Stp w H H') (h : Well H w) (e : H p = some (.ins C dx fs)) : H' p = some (.ins C dx fs) := s _ _ (h.ne e fun _ z => by cases z) e
theorem Stp.free {w p : Addr} {H H' : Hp} (s : Stp w H H') (h : Well H' w) (e : H' p = none) : H p = none := by
  cases q : H p with
  | none => rfl
  | some o =>
    have n : p ≠ w := h.ne_none e
    rw [s p o n q] at e
    cases e
end Up

set_option Elab.async false
set_option linter.all false
set_option maxRecDepth 100000
set_option maxHeartbeats 4000000
set_option exponentiation.threshold 200000
namespace Up
open PySem PySem.Spec PyProof.Rows L2
local macro_rules | `(tactic| walk_at "u") => `(tactic| first
  | with_reducible refine g_seq ?_
  | with_reducible refine g_asg ?_
  | with_reducible refine g_op ?_
  | ((with_reducible show tVar _ _ _ _); apply g_var; exact rfl)
  | with_reducible refine g_c ?_
  | with_reducible refine g_name ?_
  | with_reducible refine g_ifs ?_
  | with_reducible refine g_tt ?_
  | with_reducible refine g_tB ?_
  | with_reducible refine g_bl ?_
  | with_reducible refine g_ret ?_
  | with_reducible refine g_cb ?_
  | with_reducible refine g_cons ?_
  | with_reducible refine g_nil ?_
  | with_reducible refine g_call ?_
  | with_reducible refine g_and ?_
  | with_reducible refine g_or ?_
  | with_reducible refine g_not ?_
  | with_reducible refine g_andV ?_
  | with_reducible refine g_orV ?_
  | with_reducible refine g_notV ?_
  | with_reducible refine g_if ?_
  | with_reducible refine g_un ?_
  | with_reducible refine g_neg ?_
  | with_reducible refine g_addI ?_
  | with_reducible refine g_subI ?_
  | with_reducible refine g_subB ?_
  | with_reducible refine g_I0 ?_
  | with_reducible refine g_cmpI ?_
  | with_reducible refine g_eqI ?_
  | with_reducible refine g_neI ?_
  | with_reducible refine g_eqS ?_
  | with_reducible refine g_neS ?_
  | with_reducible refine g_eqB ?_
  | with_reducible refine g_neB ?_
  | with_reducible refine g_bits ?_
  | with_reducible refine g_bitsI ?_
  | with_reducible refine g_fld ?_
  | with_reducible refine g_tup ?_
  | with_reducible refine g_lst ?_
  | with_reducible refine g_gtup ?_
  | with_reducible refine g_make ?_
  | with_reducible refine g_lc ?_
  | with_reducible refine g_yesT ?_
  | with_reducible refine g_intI ?_
  | with_reducible refine g_intB ?_
  | with_reducible refine g_max2 ?_
  | with_reducible refine g_abs1 ?_
  | with_reducible refine g_for ?_
  | with_reducible refine g_iList ?_
  | with_reducible refine g_iTup ?_
  | with_reducible refine g_iRng1 ?_
  | with_reducible refine g_iEnum ?_
  | with_reducible refine g_slice ?_
  | with_reducible refine g_po0 ?_
  | with_reducible refine g_po1 ?_
  | with_reducible refine g_gsub ?_
  | with_reducible refine g_par ?_
  | with_reducible refine g_par2 ?_
  | with_reducible refine g_rfl ?_
  | with_reducible refine g_meth ?_
  | with_reducible refine g_gcons ?_
  | with_reducible refine g_gnil ?_
  | with_reducible refine g_gfld ?_
  | with_reducible refine g_sfld ?_
  | with_reducible refine g_drop ?_
  | with_reducible refine g_next ?_
  | with_reducible refine iteT ?_
  | with_reducible refine iteF ?_)
local macro_rules | `(tactic| walk_at "go") => `(tactic| (repeat walk_at "u"))

section
variable {P : Program} {w : World} {K : PySem.W.Frag} {mg : Str → Option Value} {base : Heap} {C : Addr}
/-! _law_well -/
theorem sc_Lwell : FnScope ["_law_cell"] ["_law_cell"] (defScope s_Lwell) := ⟨rfl, rfl, rfl, by decide +kernel, rfl, by decide +kernel, by decide +kernel⟩
def sp_Lwell : Sp := fun vs H Q _ => ∃ n, vs = [.int n] ∧ ∀ a H', H a = none → Same H H' → Well H' a → Q (.ref a) H'
theorem fmod_lt {x m : Int} (h : 0 < m) : 0 ≤ x.fmod m ∧ x.fmod m < m := by
  rw [Int.fmod_eq_emod_of_nonneg _ (by omega)]
  exact ⟨Int.emod_nonneg _ (by omega), Int.emod_lt_of_pos _ h⟩
theorem fdiv_nn {x m : Int} (hx : 0 ≤ x) (h : 0 < m) : 0 ≤ x.fdiv m := by
  rw [Int.fdiv_eq_ediv_of_nonneg _ (by omega)]
  exact Int.ediv_nonneg hx (by omega)
theorem ok_Lwell {f : Addr} {fd : FuncData} (F : FunD K "_law_well" "_law_well" (defArgs s_Lwell) (defBody s_Lwell) (defScope s_Lwell) [] [] f fd) (B : Blt mg) : FnOk P w K mg base CX0 1 f fd ["_law_cell"] sp_Lwell := by
  refine F.ok sc_Lwell (fun vs H Q E h => ?_) (fun cdv A outer s H vs Q E hr h => ?_)
  · obtain ⟨n, rfl, _⟩ := h; rfl
  · obtain ⟨n, rfl, q⟩ := h
    refine ⟨_, PSs.nox (pss_one (ps_ret (pe_lstN (pa_cons (pe_op op_oMul (pv 0) (pe_callTy call_int1 (by rfl) B.int (by decide +kernel) (pa_cons (pe_cmpR op_oGe (pv 0) (pe_op op_oPow pe_int pe_int) (nomark _)) pa_nil))) (pa_cons (pe_op op_oMod (pe_callTy call_int1 (by rfl) B.int (by decide +kernel) (pa_cons (pv 0) pa_nil)) pe_int) (pa_cons pe_int pa_nil)))))), ?_⟩
    walk_at "go"
    refine g_II ⟨by decide, by decide, by decide⟩ ?_
    walk_at "go"
    refine g_mulI (.of_right (by by_cases h : ((10 : Int) ^ (18 : Int).toNat ≤ n) <;> simp only [h, decide_true, decide_false] <;> decide)) ?_
    walk_at "go"
    refine g_modI (by decide) ?_
    walk_at "go"
    refine g_new (sz rfl) fun a H1 na s1 ha _ => ?_
    refine q a H1 na s1 ⟨_, _, _, ha, ?_, (fmod_lt (by decide)).1, (fmod_lt (by decide)).2, by decide⟩
    by_cases h : ((10 : Int) ^ (18 : Int).toNat ≤ n)
    · simp only [h, decide_true, if_true]
      have : (0 : Int) ≤ 10 ^ (18 : Int).toNat := by decide
      omega
    · rw [if_neg (by simpa using h), Int.mul_zero]
      decide
/-! _law_draw -/
theorem sc_Ldraw : FnScope ["_law_well_here", "_law_many", "_law_digit", "_law_number"] ["_law_well_here", "_law_many"] (defScope s_Ldraw) := ⟨rfl, rfl, rfl, by decide +kernel, rfl, by decide +kernel, by decide +kernel⟩
def sp_Ldraw : Sp := fun vs H Q _ => ∃ (a : Addr) (m : Int), vs = [.ref a, .int m] ∧ 0 < m ∧ m < 2 ^ 62 ∧ Well H a ∧ ∀ k H', 0 ≤ k → k < m → Stp a H H' → Well H' a → Q (.int k) H'
theorem small_div {m : Int} (h : 0 < m) (h2 : m < 2 ^ 62) : m.natAbs.log2 < 9000 := Nat.lt_trans (log2_lt (k := 62) (by omega) (by decide)) (by decide)
theorem sm31 {x : Int} (h0 : 0 ≤ x) (h1 : x < 2147483648) (y : Int) : IntMulOk x y := .of_left (intBits_le_64 (by omega) (by omega))
theorem sm31r {x : Int} (h0 : 0 ≤ x) (h1 : x < 2147483648) (y : Int) : IntMulOk y x := .of_right (intBits_le_64 (by omega) (by omega))
theorem ok_Ldraw {f : Addr} {fd : FuncData} (F : FunD K "_law_draw" "_law_draw" (defArgs s_Ldraw) (defBody s_Ldraw) (defScope s_Ldraw) [] [] f fd) (B : Blt mg) : FnOk P w K mg base CX0 1 f fd ["_law_well_here", "_law_many"] sp_Ldraw := by
  refine F.ok sc_Ldraw (fun vs H Q E h => ?_) (fun cdv A outer s H vs Q E hr h => ?_)
  · obtain ⟨a, m, rfl, _⟩ := h; rfl
  · obtain ⟨a, m, rfl, m0, m1, ⟨x, y, z, hw, x0, y0, y1, z0⟩, q⟩ := h
    refine ⟨_, PSs.nox (pss_cons (ps_if (pt_cmpR op_oGt (pe_ix ix_seq (pv 0) pe_int (fun _ _ => rfl)) pe_int (nomark _)) (pss_cons (ps_set (i := 2) sc_Ldraw.nd rfl (Or.inl rfl) (pe_op op_oMod (pe_callTy call_int1 (by rfl) B.int (by decide +kernel) (pa_cons (pe_ix ix_seq (pv 0) pe_int (fun _ _ => rfl)) pa_nil)) (pv 1)))
  (pss_cons (ps_asg (pe_op op_oDiv (pe_ix ix_seq (pv 0) pe_int (fun _ _ => rfl)) (pv 1)) (pg_sub (pv 0) pe_int set_list))
  (pss_one (ps_ret (pv 2))))) pss_nil)
  (pss_cons (ps_asg (pe_op op_oAdd (pe_ix ix_seq (pv 0) pe_int (fun _ _ => rfl)) pe_int) (pg_sub (pv 0) pe_int set_list))
  (pss_cons (ps_set (i := 3) sc_Ldraw.nd rfl (Or.inl rfl) (pe_op op_oMod (pe_callTy call_int1 (by rfl) B.int (by decide +kernel) (pa_cons (pe_op op_oAdd (pe_op op_oAdd (pe_op op_oMul (pe_ix ix_seq (pv 0) pe_int (fun _ _ => rfl)) pe_int) (pe_op op_oMul pe_int (pe_ix ix_seq (pv 0) pe_int (fun _ _ => rfl)))) pe_int) pa_nil)) pe_int))
  (pss_cons (ps_set (i := 3) sc_Ldraw.nd rfl (Or.inl rfl) (pe_op op_oMod (pe_callTy call_int1 (by rfl) B.int (by decide +kernel) (pa_cons (pe_op op_oMul (pv 3) (pe_op op_oAdd (pe_op op_oDiv (pv 3) pe_int) pe_int)) pa_nil)) pe_int))
  (pss_cons (ps_set (i := 3) sc_Ldraw.nd rfl (Or.inl rfl) (pe_op op_oMod (pe_callTy call_int1 (by rfl) B.int (by decide +kernel) (pa_cons (pe_op op_oMul (pv 3) (pe_op op_oAdd (pe_op op_oAdd (pe_op op_oDiv (pv 3) pe_int) pe_int) (pe_ix ix_seq (pv 0) pe_int (fun _ _ => rfl)))) pa_nil)) pe_int))
  (pss_one (ps_ret (pe_op op_oMod (pe_callTy call_int1 (by rfl) B.int (by decide +kernel) (pa_cons (pe_op op_oDiv (pv 3) pe_int) pa_nil)) (pv 1))))))))), ?_⟩
    walk_at "go"
    refine g_ixL hw rfl ?_
    walk_at "go"
    refine g_ite (fun hx => ?_) fun hx => ?_
    · walk_at "go"
      refine g_ixL hw rfl ?_
      walk_at "go"
      refine g_modI (by omega) ?_
      walk_at "go"
      refine g_ixL hw rfl ?_
      walk_at "go"
      refine g_divI (by omega) (small_div m0 m1) ?_
      walk_at "go"
      refine g_setL hw rfl fun H1 h1 k1 => ?_
      walk_at "go"
      exact q _ H1 (fmod_lt m0).1 (fmod_lt m0).2 (fun b o n e => (k1 b n).trans e) ⟨_, _, _, h1, fdiv_nn x0 m0, y0, y1, z0⟩
    · walk_at "go"
      refine g_ixL hw rfl ?_
      walk_at "go"
      refine g_setL hw rfl fun H1 h1 k1 => ?_
      walk_at "go"
      refine g_ixL h1 rfl ?_
      walk_at "go"
      refine g_mulI (.of_right (by decide)) ?_
      walk_at "go"
      refine g_ixL h1 rfl ?_
      refine g_mulI (.of_left (by decide)) ?_
      walk_at "go"
      refine g_modI (by decide) ?_
      walk_at "go"
      have b1 := fmod_lt (x := y * 48271 + 30103 * (z + 1) + 11) (m := 2147483647) (by decide)
      refine g_divI (by decide) (by decide) ?_
      walk_at "go"
      refine g_mulI (sm31 b1.1 (by omega) _) ?_
      walk_at "go"
      refine g_modI (by decide) ?_
      walk_at "go"
      generalize (y * 48271 + 30103 * (z + 1) + 11).fmod 2147483647 = u1 at *
      have b2 := fmod_lt (x := u1 * (u1.fdiv 1009 + 69621)) (m := 2147483629) (by decide)
      refine g_divI (by decide) (by decide) ?_
      walk_at "go"
      refine g_ixL h1 rfl ?_
      walk_at "go"
      refine g_mulI (sm31 b2.1 (by omega) _) ?_
      walk_at "go"
      refine g_modI (by decide) ?_
      walk_at "go"
      refine g_divI (by decide) (by decide) ?_
      walk_at "go"
      refine g_modI (by omega) ?_
      exact q _ H1 (fmod_lt m0).1 (fmod_lt m0).2 (fun b o n e => (k1 b n).trans e) ⟨_, _, _, h1, x0, y0, y1, by omega⟩
/-! _law_one -/
theorem sc_Lone : FnScope ["_law_well_here", "_law_some"] ["_law_well_here", "_law_some"] (defScope s_Lone) := ⟨rfl, rfl, rfl, by decide +kernel, rfl, by decide +kernel, by decide +kernel⟩
def sp_Lone : Sp := fun vs H Q _ => ∃ (a l : Addr) (xs : List V), vs = [.ref a, .ref l] ∧ Well H a ∧ H l = some (.lst xs) ∧ l ≠ a ∧ 0 < xs.length ∧ xs.length < 1000 ∧ ∀ v H', v ∈ xs → Stp a H H' → Well H' a → Q v H'
theorem ok_Lone {f : Addr} {fd : FuncData} (F : FunD K "_law_one" "_law_one" (defArgs s_Lone) (defBody s_Lone) (defScope s_Lone) [] [] f fd) (B : Blt mg) (c_Ldraw : Fn P w K mg base CX0 1 "_law_draw" ["_law_well_here", "_law_many"] [] sp_Ldraw) : FnOk P w K mg base CX0 2 f fd ["_law_well_here", "_law_some"] sp_Lone := by
  refine F.ok sc_Lone (fun vs H Q E h => ?_) (fun cdv A outer s H vs Q E hr h => ?_)
  · obtain ⟨a, l, xs, rfl, _⟩ := h; rfl
  · obtain ⟨a, l, xs, rfl, hw, hl, ne, x0, x1, q⟩ := h
    refine ⟨_, PSs.nox (pss_one (ps_ret (pe_ix ix_seq (pv 1) (pe_fn c_Ldraw (hr.mono (by first | decide | omega)) pass0 (pa_cons (pv 0) (pa_cons (pe_callB call_len_seq (by rfl) B.len (by decide +kernel) (pa_cons (pv 1) pa_nil)) pa_nil))) (fun _ _ => rfl)))), ?_⟩
    walk_at "go"
    refine g_lenL hl ?_
    walk_at "go"
    refine ⟨a, _, rfl, by omega, by omega, hw, fun k H1 k0 k1 s1 hw1 => ?_⟩
    have hi : k.toNat < xs.length := by omega
    refine g_ixL (s1 _ _ ne hl) (v := xs[k.toNat]) ?_ (q _ _ (List.getElem_mem hi) s1 hw1)
    have e : ixN xs.length k = some k.toNat := by unfold ixN; rw [if_pos k0, if_pos k1]
    unfold atI
    rw [e]
    simp [hi]
/-! _law_great -/
theorem sc_Lgreat : FnScope ["_law_well_here", "_law_bits", "_law_number", "_law_k"] ["_law_well_here", "_law_bits"] (defScope s_Lgreat) := ⟨rfl, rfl, rfl, by decide +kernel, rfl, by decide +kernel, by decide +kernel⟩
def sp_Lgreat : Sp := fun vs H Q _ => ∃ (a : Addr) (m : Int), vs = [.ref a, .int m] ∧ 0 ≤ m ∧ m ≤ 1000 ∧ Well H a ∧ ∀ k H', 0 ≤ k → k < 2 ^ m.toNat → Stp a H H' → Well H' a → Q (.int k) H'
theorem ok_Lgreat {f : Addr} {fd : FuncData} (F : FunD K "_law_great" "_law_great" (defArgs s_Lgreat) (defBody s_Lgreat) (defScope s_Lgreat) [] [] f fd) (B : Blt mg) (c_Ldraw : Fn P w K mg base CX0 1 "_law_draw" ["_law_well_here", "_law_many"] [] sp_Ldraw) : FnOk P w K mg base CX0 2 f fd ["_law_well_here", "_law_bits"] sp_Lgreat := by
  refine F.ok sc_Lgreat (fun vs H Q E h => ?_) (fun cdv A outer s H vs Q E hr h => ?_)
  · obtain ⟨a, m, rfl, _⟩ := h; rfl
  · obtain ⟨a, m, rfl, m0, m1, hw, q⟩ := h
    refine ⟨_, PSs.nox (pss_cons (ps_set (i := 2) sc_Lgreat.nd rfl (Or.inl rfl) pe_int)
  (pss_cons (ps_for PassesOwn.never rfl (pi_range1 (by rfl) B.range (pa_cons (pe_op op_oAdd pe_int (pe_op op_oDiv (pv 1) pe_int)) pa_nil)) (pg_name (i := 3) sc_Lgreat.nd rfl (Or.inl rfl))
    (pss_one (ps_set (i := 2) sc_Lgreat.nd rfl (Or.inl rfl) (pe_op op_oAdd (pe_op op_oMul (pv 2) pe_int) (pe_fn c_Ldraw (hr.mono (by first | decide | omega)) pass0 (pa_cons (pv 0) (pa_cons pe_int pa_nil)))))))
  (pss_one (ps_ret (pe_op op_oMod (pe_callTy call_int1 (by rfl) B.int (by decide +kernel) (pa_cons (pv 2) pa_nil)) (pe_op op_oShl pe_int (pv 1))))))), ?_⟩
    walk_at "go"
    refine g_divI (by decide) (by decide) ?_
    walk_at "go"
    have e0 : m.fdiv 20 = m / 20 := Int.fdiv_eq_ediv_of_nonneg _ (by decide)
    refine ⟨by omega, by omega, ?_⟩
    refine for_range (fun i σ' H' => ∃ (n : Int) (v : Option V), σ' = [some (.ref a), some (.int m), some (.int n), v] ∧ Stp a H H' ∧ Well H' a) ⟨0, none, rfl, Stp.refl _ _, hw⟩ ?_ ?_
    · rintro i _ H1 hi ⟨n, v, rfl, s1, hw1⟩
      walk_at "go"
      refine g_mulI (.of_right (by decide)) ?_
      walk_at "go"
      refine ⟨a, _, rfl, by decide, by decide, hw1, fun k H2 k0 k1 s2 hw2 => ?_⟩
      walk_at "go"
      exact ⟨_, _, rfl, s1.trans s2, hw2⟩
    · rintro _ H1 ⟨n, v, rfl, s1, hw1⟩
      walk_at "go"
      refine g_II (shl_small m0 (by omega) (lt_pow_mono (a := 1) (by decide) (by decide))) ?_
      rw [Int.one_mul]
      have hp : (0 : Int) < 2 ^ m.toNat := Int.pow_pos (by decide)
      refine g_modI (by omega) ?_
      exact q _ H1 (fmod_lt hp).1 (fmod_lt hp).2 s1 hw1
end
end Up

set_option Elab.async false
set_option linter.all false
set_option pp.maxSteps 900
set_option maxRecDepth 100000
set_option maxHeartbeats 4000000
set_option exponentiation.threshold 200000
namespace Up
open PySem PySem.Spec PyProof.Rows L2
local macro_rules | `(tactic| walk_at "u") => `(tactic| first
  | with_reducible refine g_seq ?_
  | with_reducible refine g_asg ?_
  | with_reducible refine g_op ?_
  | ((with_reducible show tVar _ _ _ _); apply g_var; exact rfl)
  | with_reducible refine g_c ?_
  | with_reducible refine g_name ?_
  | with_reducible refine g_ifs ?_
  | with_reducible refine g_tt ?_
  | with_reducible refine g_tB ?_
  | with_reducible refine g_bl ?_
  | with_reducible refine g_ret ?_
  | with_reducible refine g_cb ?_
  | with_reducible refine g_cons ?_
  | with_reducible refine g_nil ?_
  | with_reducible refine g_call ?_
  | with_reducible refine g_and ?_
  | with_reducible refine g_or ?_
  | with_reducible refine g_not ?_
  | with_reducible refine g_andV ?_
  | with_reducible refine g_orV ?_
  | with_reducible refine g_notV ?_
  | with_reducible refine g_if ?_
  | with_reducible refine g_un ?_
  | with_reducible refine g_neg ?_
  | with_reducible refine g_addI ?_
  | with_reducible refine g_subI ?_
  | with_reducible refine g_subB ?_
  | with_reducible refine g_I0 ?_
  | with_reducible refine g_cmpI ?_
  | with_reducible refine g_eqI ?_
  | with_reducible refine g_neI ?_
  | with_reducible refine g_eqS ?_
  | with_reducible refine g_neS ?_
  | with_reducible refine g_eqB ?_
  | with_reducible refine g_neB ?_
  | with_reducible refine g_bits ?_
  | with_reducible refine g_bitsI ?_
  | with_reducible refine g_fld ?_
  | with_reducible refine g_tup ?_
  | with_reducible refine g_lst ?_
  | with_reducible refine g_gtup ?_
  | with_reducible refine g_make ?_
  | with_reducible refine g_lc ?_
  | with_reducible refine g_yesT ?_
  | with_reducible refine g_intI ?_
  | with_reducible refine g_intB ?_
  | with_reducible refine g_max2 ?_
  | with_reducible refine g_abs1 ?_
  | with_reducible refine g_for ?_
  | with_reducible refine g_iList ?_
  | with_reducible refine g_iTup ?_
  | with_reducible refine g_iRng1 ?_
  | with_reducible refine g_iEnum ?_
  | with_reducible refine g_slice ?_
  | with_reducible refine g_po0 ?_
  | with_reducible refine g_po1 ?_
  | with_reducible refine g_gsub ?_
  | with_reducible refine g_par ?_
  | with_reducible refine g_par2 ?_
  | with_reducible refine g_rfl ?_
  | with_reducible refine g_meth ?_
  | with_reducible refine g_gcons ?_
  | with_reducible refine g_gnil ?_
  | with_reducible refine g_gfld ?_
  | with_reducible refine g_sfld ?_
  | with_reducible refine g_drop ?_
  | with_reducible refine g_next ?_
  | with_reducible refine iteT ?_
  | with_reducible refine iteF ?_)
local macro_rules | `(tactic| walk_at "go") => `(tactic| (repeat walk_at "u"))
local macro_rules | `(tactic| walk_at "f") => `(tactic| (repeat (first
  | walk_at "u"
  | with_reducible refine g_chain ?_
  | with_reducible refine g_par3 ?_
  | with_reducible refine g_par3' ?_
  | ((with_reducible refine show_ex ?_); first
    | refine fT (by assumption) (by assumption) ?_
    | refine fS (by assumption) (by assumption) ?_
    | refine fP (by assumption) (by assumption) ?_))))

section
variable {P : Program} {w : World} {K : PySem.W.Frag} {mg : Str → Option Value} {base : Heap} {C : Addr} {H : Hp} {Q : VK}
/-! _law_tens -/
theorem sc_Ltens : FnScope ["_law_many", "_law_found", "_law_k"] ["_law_many"] (defScope s_Ltens) := ⟨rfl, rfl, rfl, by decide +kernel, rfl, by decide +kernel, by decide +kernel⟩
def sp_Ltens : Sp := fun vs H Q _ => ∃ n : Nat, vs = [.int n] ∧ n ≤ 1000 ∧ Q (.int ((10 ^ n : Nat) : Int)) H
theorem ok_Ltens {f : Addr} {fd : FuncData} (F : FunD K "_law_tens" "_law_tens" (defArgs s_Ltens) (defBody s_Ltens) (defScope s_Ltens) [] [] f fd) (B : Blt mg) : FnOk P w K mg base CX0 1 f fd ["_law_many"] sp_Ltens := by
  refine F.ok sc_Ltens (fun vs H Q E h => ?_) (fun cdv A outer s H vs Q E hr h => ?_)
  · obtain ⟨n, rfl, _⟩ := h; rfl
  · obtain ⟨n, rfl, h1, q⟩ := h
    refine ⟨_, PSs.nox (pss_cons (ps_set (i := 1) sc_Ltens.nd rfl (Or.inl rfl) pe_int)
  (pss_cons (ps_for PassesOwn.never rfl (pi_range1 (by rfl) B.range (pa_cons (pv 0) pa_nil)) (pg_name (i := 2) sc_Ltens.nd rfl (Or.inl rfl))
    (pss_one (ps_set (i := 1) sc_Ltens.nd rfl (Or.inl rfl) (pe_op op_oMul (pv 1) pe_int))))
  (pss_one (ps_ret (pv 1))))), ?_⟩
    walk_at "f"
    refine ⟨by omega, by omega, ?_⟩
    refine for_range (fun i σ' H' => ∃ v : Option V, σ' = [some (.int n), some (.int ((10 ^ i : Nat) : Int)), v] ∧ H' = H) ⟨none, rfl, rfl⟩ ?_ ?_
    · rintro i _ H1 hi ⟨v, rfl, rfl⟩
      walk_at "f"
      refine g_mulI (.of_right (by decide)) ?_
      walk_at "f"
      refine ⟨some (.int (0 + (i : Int))), ?_, rfl⟩
      rw [show (((10 ^ i : Nat) : Int) * 10) = ((10 ^ (i + 1) : Nat) : Int) by rw [Nat.pow_succ]; rfl]
      rfl
    · rintro _ H1 ⟨v, rfl, rfl⟩
      walk_at "f"
      exact q
theorem litD : ("0123456789" : Str) = Sx [48, 49, 50, 51, 52, 53, 54, 55, 56, 57] := by decide +kernel
theorem in_dig {c : Nat} (h : 48 ≤ c ∧ c ≤ 57) : (!(Builtin.Str.occurrences ("0123456789" : Str) (⟨#[c]⟩ : Str) 0 ("0123456789" : Str).length 1).isEmpty) = true := by
  rw [litD]
  rw [show (⟨#[c]⟩ : Str) = SX.S [c] from rfl, SX.in_one]
  have : c = 48 ∨ c = 49 ∨ c = 50 ∨ c = 51 ∨ c = 52 ∨ c = 53 ∨ c = 54 ∨ c = 55 ∨ c = 56 ∨ c = 57 := by omega
  simp [this]
structure Cut (l M N B Pt U : List Nat) : Prop where
  e1 : ∃ Fg, Fg.length ≤ l.length ∧ Txt.partition (Sx l) "e" = (Sx Fg, Sx M, Sx N) ∧ Txt.partition (Sx Fg) "." = (Sx B, Sx Pt, Sx U)
  dg : Dg (B ++ U)
  b0 : B ≠ []
  pu : decide (Sx Pt = Sx []) = decide (Sx U = Sx [])
  ln : B.length + U.length ≤ l.length ∧ N.length ≤ l.length
theorem nil_not {l : List Nat} {c : Nat} (h : Dg l) (hc : 57 < c ∨ c < 48) : c ∉ l := fun m => by have := h c m; omega
theorem part_e {Fg N : List Nat} (h : 101 ∉ Fg) : Txt.partition (Sx (Fg ++ 101 :: N)) "e" = (Sx Fg, Sx [101], Sx N) := by
  rw [litE]
  exact SX.partition_some (by simp) (SX.par_head (sep := []) N h)
theorem part_e0 {Fg : List Nat} (h : 101 ∉ Fg) : Txt.partition (Sx Fg) "e" = (Sx Fg, Sx [], Sx []) := by
  rw [litE]
  exact SX.partition_none (by simp) (SX.par_head_none h)
theorem part_p {B U : List Nat} (h : 46 ∉ B) : Txt.partition (Sx (B ++ 46 :: U)) "." = (Sx B, Sx [46], Sx U) := by
  rw [litP]
  exact SX.partition_some (by simp) (SX.par_head (sep := []) U h)
theorem part_p0 {B : List Nat} (h : 46 ∉ B) : Txt.partition (Sx B) "." = (Sx B, Sx [], Sx []) := by
  rw [litP]
  exact SX.partition_none (by simp) (SX.par_head_none h)
theorem cut_pl {B U : List Nat} (hB : Dg B) (hU : Dg U) (b0 : B ≠ []) (u0 : U ≠ []) : Cut (B ++ 46 :: U) [] [] B [46] U := by
  refine ⟨⟨B ++ 46 :: U, Nat.le_refl _, part_e0 ?_, part_p (nil_not hB (.inr (by decide)))⟩, dg_app hB hU, b0, ?_, ?_, Nat.zero_le _⟩
  · intro m
    rcases List.mem_append.mp m with m | m
    · exact nil_not hB (.inl (by decide)) m
    · rcases List.mem_cons.mp m with m | m
      · cases m
      · exact nil_not hU (.inl (by decide)) m
  · rw [decide_eq_false (fun z => by cases Sx_inj.mp z), decide_eq_false (fun z => u0 (Sx_inj.mp z))]
  · simp only [List.length_append, List.length_cons]; omega
theorem cut_ex {c s : Nat} {U N : List Nat} (h : Dg (c :: U)) : Cut (([c] ++ if U = [] then [] else 46 :: U) ++ 101 :: s :: N) [101] (s :: N) [c] (if U = [] then [] else [46]) U := by
  have hc : Dg [c] := fun x m => h x (by rw [List.mem_singleton.mp m]; exact List.mem_cons_self)
  have hU : Dg U := fun x m => h x (List.mem_cons_of_mem _ m)
  by_cases z : U = []
  · subst z
    rw [if_pos rfl, List.append_nil]
    exact ⟨⟨[c], by simp, part_e (nil_not hc (.inl (by decide))), part_p0 (nil_not hc (.inr (by decide)))⟩, by rw [List.append_nil]; exact hc, by simp, rfl, by simp, by simp⟩
  · rw [if_neg z, if_neg z]
    refine ⟨⟨[c] ++ 46 :: U, by simp, part_e ?_, part_p (nil_not hc (.inr (by decide)))⟩, dg_app hc hU, by simp, ?_, by simp; omega, by simp; omega⟩
    · intro m
      rcases List.mem_append.mp m with m | m
      · exact nil_not hc (.inl (by decide)) m
      · rcases List.mem_cons.mp m with m | m
        · cases m
        · exact nil_not hU (.inl (by decide)) m
    · rw [decide_eq_false (fun z => by cases Sx_inj.mp z), decide_eq_false (fun z2 => z (Sx_inj.mp z2))]
theorem lstrip0 (c z : Nat) (r : List Nat) (hc : c ≠ 48) : Txt.lstripChars (Sx (Zs z ++ c :: r)) (Sx [48]) = Sx (c :: r) := by
  rw [← lit0]
  exact lstrip_S c z r hc
theorem ne46 : (!decide (Sx [46] = Sx [])) = true := by rw [decide_eq_false (fun z => by cases Sx_inj.mp z)]; rfl
theorem ne_S {c d : Nat} (h : c ≠ d) : ¬ ((⟨#[c]⟩ : Str) = Sx [d]) := fun z => h (by cases Sx_inj.mp (show Sx [c] = Sx [d] from z); rfl)
theorem atI_last (G0 : List Nat) (d : Nat) : atI (G0 ++ [d]) (-1) = some d := by
  unfold atI ixN
  rw [if_neg (by decide), List.length_append, List.length_singleton, if_pos (by omega)]
  show ((G0 ++ [d])[(-1 + ((G0.length + 1 : Nat) : Int)).toNat]?) = some d
  rw [show (-1 + ((G0.length + 1 : Nat) : Int)).toNat = G0.length by omega]
  simp
theorem atI0 (c : Nat) (r : List Nat) : atI (c :: r) 0 = some c := by
  unfold atI ixN
  rw [if_pos (by decide), if_pos (by rw [List.length_cons]; omega)]
  rfl
theorem last2 {U : List Nat} (h : U = [48] ∨ LNz U) (l : 1 < U.length) : LNz U := by
  rcases h with h | h
  · rw [h] at l
    exact absurd l (by decide)
  · exact h
theorem prt_cut {l R : List Nat} {p : Int} (h : Prt l R p) : ∃ M N B Pt U, Cut l M N B Pt U ∧ ((M = [] ∧ Pt = [46] ∧ ((B = [48] ∧ (∃ z c r, U = Zs z ++ c :: r ∧ z ≤ 3 ∧ c ≠ 48 ∧ LNz (c :: r) ∧ R = c :: r ∧ p = -1 - (z : Int))) ∨ (∃ c r, B = c :: r ∧ r.length ≤ 13 ∧ c ≠ 48 ∧ (U = [48] ∨ LNz U) ∧ R = (c :: r) ++ U ∧ p = (r.length : Nat)))) ∨
    (M = [101] ∧ ∃ c s N', B = [c] ∧ N = s :: N' ∧ c ≠ 48 ∧ (U = [] ∨ LNz U) ∧ Dg N' ∧ 2 ≤ N'.length ∧ (2 < N'.length → N'.getD 0 0 ≠ 48) ∧ (s = 43 ∧ p = (NumText.digitsVal N' : Nat) ∨ s = 45 ∧ p = 0 - ((NumText.digitsVal N' : Nat) : Int)) ∧ (p < -4 ∨ 13 < p) ∧ R = c :: U)) := by
  cases h with
  | low z c r h1 h2 h3 h4 =>
    exact ⟨_, _, _, _, _, cut_pl (by intro x m; rw [List.mem_singleton.mp m]; omega) (dg_app (dg_zs z) h2) (by simp) (by simp), .inl ⟨rfl, rfl, .inl ⟨rfl, z, c, r, rfl, h1, h3, h4, rfl, rfl⟩⟩⟩
  | mid c r U h1 h2 h3 h4 h5 =>
    refine ⟨_, _, _, _, _, cut_pl h2 h3 (by simp) ?_, .inl ⟨rfl, rfl, .inr ⟨c, r, rfl, h1, h4, h5, rfl, rfl⟩⟩⟩
    rcases h5 with h5 | ⟨G0, x, h5, _⟩ <;> rw [h5] <;> simp
  | exp c s U N p h1 h2 h3 h4 h5 h6 h7 h8 =>
    exact ⟨_, _, _, _, _, cut_ex h1, .inr ⟨rfl, c, s, N, rfl, rfl, h2, h3, h4, h5, h6, h7, h8, rfl⟩⟩
/-! _law_parts -/
theorem sc_Lparts : FnScope ["_law_text", "_law_figures", "_law_mark", "_law_far", "_law_before", "_law_point", "_law_behind", "_law_signs", "_law_sign", "_law_place", "_law_is_formed", "_law_number"] ["_law_text"] (defScope s_Lparts) := ⟨rfl, rfl, rfl, by decide +kernel, rfl, by decide +kernel, by decide +kernel⟩
def sp_Lparts : Sp := fun vs H Q _ => ∃ (l R : List Nat) (p : Int), vs = [.str (Sx l)] ∧ Prt l R p ∧ l.length ≤ 600 ∧ ∀ a H', Same H H' → H' a = some (.tup [.str (Sx R), .int p]) → Q (.ref a) H'
theorem ok_Lparts {f : Addr} {fd : FuncData} (F : FunD K "_law_parts" "_law_parts" (defArgs s_Lparts) (defBody s_Lparts) (defScope s_Lparts) [] [] f fd) (B : Blt mg) : FnOk P w K mg base CX0 1 f fd ["_law_text"] sp_Lparts := by
  refine F.ok sc_Lparts (fun vs H Q E h => ?_) (fun cdv A outer s H vs Q E hr h => ?_)
  · obtain ⟨_, _, _, rfl, _⟩ := h; rfl
  · obtain ⟨l, R, p, rfl, P, hl, q⟩ := h
    obtain ⟨M, N, B', Pt, U, ct, cs⟩ := prt_cut P
    obtain ⟨⟨Fg, lF, e1, e2⟩, dg, b0, pu, ln1, ln2⟩ := ct
    clear P
    refine ⟨_, PSs.nox (pss_cons (ps_asg (pe_partition (pv 0) pe_str) (pg_tup rfl (pgs_cons (pg_name (i := 1) sc_Lparts.nd rfl (Or.inl rfl)) (pgs_cons (pg_name (i := 2) sc_Lparts.nd rfl (Or.inl rfl)) (pgs_cons (pg_name (i := 3) sc_Lparts.nd rfl (Or.inl rfl)) pgs_nil)))))
  (pss_cons (ps_asg (pe_partition (pv 1) pe_str) (pg_tup rfl (pgs_cons (pg_name (i := 4) sc_Lparts.nd rfl (Or.inl rfl)) (pgs_cons (pg_name (i := 5) sc_Lparts.nd rfl (Or.inl rfl)) (pgs_cons (pg_name (i := 6) sc_Lparts.nd rfl (Or.inl rfl)) pgs_nil)))))
  (pss_cons (ps_set (i := 7) sc_Lparts.nd rfl (Or.inl rfl) (pe_op op_oAdd (pv 4) (pv 6)))
  (pss_cons (ps_if (pt_cut (PW.pt (pw_or (pt_cmpR (op_neE hr.units) (pe_lc (own := [("_law_sign", 8)]) (g := gName 8) rfl sc_Lparts.nd (pi_str (pv 7)) (blkOk_by (own := [("_law_sign", 8)]) (N := ["_law_text", "_law_figures", "_law_mark", "_law_far", "_law_before", "_law_point", "_law_behind", "_law_signs", "_law_sign", "_law_place", "_law_is_formed", "_law_number"]) (sc := defScope s_Lparts) (by decide +kernel)) (fun _ _ _ _ _ => pg_name (i := 8) sc_Lparts.nd rfl (Or.inl rfl)) (fun _ _ _ _ _ => (pts_one (pt_cmpR op_notIn_str (pv 8) pe_str (by rfl)))) (fun _ _ _ _ _ => (pv 8))) (pe_lstN pa_nil) (nomark _)) (pw_or (pt_cmpR (op_oEq hr.units) (pv 4) pe_str (nomark _)) (pw_or1 (pt_cmpR (op_oNe hr.units) (pe_cmpR (op_oNe hr.units) (pv 5) pe_str (nomark _)) (pe_cmpR (op_oNe hr.units) (pv 6) pe_str (nomark _)) (nomark _))))))) (pss_one (ps_ret pe_non)) pss_nil)
  (pss_cons (ps_if (pt_cmpR (op_oEq hr.units) (pv 2) pe_str (nomark _)) (pss_cons (ps_set (i := 9) sc_Lparts.nd rfl (Or.inl rfl) (pe_op op_oSub (pe_callB call_len_str (by rfl) B.len (by decide +kernel) (pa_cons (pv 4) pa_nil)) pe_int))
  (pss_cons (ps_if (pt_cmpR (op_oEq hr.units) (pv 4) pe_str (nomark _)) (pss_one (ps_set (i := 9) sc_Lparts.nd rfl (Or.inl rfl) (pe_op op_oSub (pe_un un_neg pe_int) (pe_op op_oSub (pe_callB call_len_str (by rfl) B.len (by decide +kernel) (pa_cons (pv 6) pa_nil)) (pe_callB call_len_str (by rfl) B.len (by decide +kernel) (pa_cons (pe_m1 PySem.F.slot_str_lstrip PySem.F.type_str_lstrip mt_lstripChars (pv 6) pe_str) pa_nil)))))) pss_nil)
  (pss_cons (ps_set (i := 10) sc_Lparts.nd rfl (Or.inl rfl) (pe_cut (pe_and (pe_cmpR (op_oNe hr.units) (pv 5) pe_str (nomark _)) (pe_and (pe_or (pe_cmpR (op_oEq hr.units) (pv 4) pe_str (nomark _)) (pe_one (pe_cmpR (op_oNe hr.units) (pe_ix ix_str (pv 4) pe_int (fun _ _ => rfl)) pe_str (nomark _)))) (pe_one (pe_chain op_oLt op_oLt (pe_un un_neg pe_int) (pv 9) pe_int))))))
  (pss_cons (ps_if (pt_cut (PW.pt (pw_and (pt_cmpR op_oGt (pe_callB call_len_str (by rfl) B.len (by decide +kernel) (pa_cons (pv 6) pa_nil)) pe_int (nomark _)) (pw_and1 (pt_cmpR (op_oEq hr.units) (pe_ix ix_str (pv 6) (pe_un un_neg pe_int) (fun _ _ => rfl)) pe_str (nomark _)))))) (pss_one (ps_ret pe_non)) pss_nil)
  (pss_one (ps_ret (pe_ifExp (pt_val (pv 10)) (pe_tupN (pa_cons (pe_m1 PySem.F.slot_str_lstrip PySem.F.type_str_lstrip mt_lstripChars (pv 7) pe_str) (pa_cons (pv 9) pa_nil))) pe_non))))))) pss_nil)
  (pss_cons (ps_set (i := 11) sc_Lparts.nd rfl (Or.inl rfl) (pe_slice sl_str (pv 3) (po_some pe_int) po_none))
  (pss_cons (ps_set (i := 10) sc_Lparts.nd rfl (Or.inl rfl) (pe_cut (pe_and (pe_cmpR (op_oEq hr.units) (pe_callB call_len_str (by rfl) B.len (by decide +kernel) (pa_cons (pv 4) pa_nil)) pe_int (nomark _)) (pe_and (pe_cmpR (op_oNe hr.units) (pv 4) pe_str (nomark _)) (pe_and (pe_cmpR op_in_seq (pe_slice sl_str (pv 3) po_none (po_some pe_int)) (pe_tupN (pa_cons pe_str (pa_cons pe_str pa_nil))) (by rfl)) (pe_one (pe_cmpR op_oGe (pe_callB call_len_str (by rfl) B.len (by decide +kernel) (pa_cons (pv 11) pa_nil)) pe_int (nomark _))))))))
  (pss_cons (ps_if (pt_cut (PW.pt (pw_or (pt_not (pt_val (pv 10))) (pw_or (pt_cmpR (op_oEq hr.units) (pe_slice sl_str (pv 6) (po_some (pe_un un_neg pe_int)) po_none) pe_str (nomark _)) (pw_or1 (PW.pt (pw_and (pt_cmpR op_oGt (pe_callB call_len_str (by rfl) B.len (by decide +kernel) (pa_cons (pv 11) pa_nil)) pe_int (nomark _)) (pw_and1 (pt_cmpR (op_oEq hr.units) (pe_ix ix_str (pv 11) pe_int (fun _ _ => rfl)) pe_str (nomark _)))))))))) (pss_one (ps_ret pe_non)) pss_nil)
  (pss_cons (ps_set (i := 9) sc_Lparts.nd rfl (Or.inl rfl) (pe_cut (pe_op op_oMul (pe_callTy call_int_str (by rfl) B.int (by decide +kernel) (pa_cons (pv 11) pa_nil)) (pe_ifExp (pt_cmpR (op_oEq hr.units) (pe_ix ix_str (pv 3) pe_int (fun _ _ => rfl)) pe_str (nomark _)) pe_int (pe_un un_neg pe_int)))))
  (pss_one (ps_ret (pe_ifExp (PW.pt (pw_or (pt_cmpR op_oLt (pv 9) (pe_un un_neg pe_int) (nomark _)) (pw_or1 (pt_cmpR op_oGt (pv 9) pe_int (nomark _))))) (pe_tupN (pa_cons (pv 7) (pa_cons (pv 9) pa_nil))) pe_non)))))))))))), ?_⟩
    walk_at "f"
    refine g_m1 ?_
    walk_at "f"
    refine ⟨⟨_, rfl⟩, ?_⟩
    walk_at "f"
    refine ⟨_, _, rfl, rfl, by decide +kernel, by rw [Sx_len]; exact Nat.le_trans hl (by decide), fun t1 n1 => ?_⟩
    rw [e1]
    dsimp only
    refine ⟨t1, _, rfl, SqT.of upd_same, rfl, ?_⟩
    have s1 : Same H (upd H t1 (.tup [.str (Sx Fg), .str (Sx M), .str (Sx N)])) := upd_sm (Same.refl _) n1
    generalize upd H t1 _ = H1 at *
    walk_at "f"
    refine g_m1 ?_
    walk_at "f"
    refine ⟨⟨_, rfl⟩, ?_⟩
    walk_at "f"
    refine ⟨_, _, rfl, rfl, by decide +kernel, by rw [Sx_len]; exact Nat.le_trans (Nat.le_trans lF hl) (by decide), fun t2 n2 => ?_⟩
    rw [e2]
    dsimp only
    refine ⟨t2, _, rfl, SqT.of upd_same, rfl, ?_⟩
    have s2 : Same H1 (upd H1 t2 (.tup [.str (Sx B'), .str (Sx Pt), .str (Sx U)])) := upd_sm (Same.refl _) n2
    generalize upd H1 t2 _ = H2 at *
    replace s2 := s1.trans s2
    clear s1 n1 n2 e1 e2
    walk_at "f"
    refine g_addS (sz (Nat.ble_eq.mpr (by rw [Sx_len, Sx_len]; omega))) ?_
    rw [Sx_cat]
    walk_at "f"
    refine g_cutT (fun c H' => c = false ∧ Same H H') ?_ ?_
    · walk_at "f"
      refine g_iStr ?_
      walk_at "f"
      refine ⟨_, rfl, fun D nD => lc_it walk_str (fun i H' => H' D = some (.lst []) ∧ Same H2 H') ⟨upd_same, upd_sm (Same.refl _) nD⟩ (fun _ _ _ _ => trivial) ?_ ?_⟩
      · rintro i x H3 _ hi ⟨d1, d2⟩ ⟨rfl, c, hc, rfl⟩
        walk_at "f"
        refine ⟨rfl, ?_⟩
        walk_at "f"
        refine ⟨_, _, rfl, rfl, ?_⟩
        rw [in_dig (dg c (by rw [← Sx_cps (B' ++ U)]; exact List.mem_of_getElem? (by rw [Array.getElem?_toList]; exact hc)))]
        walk_at "f"
        exact ⟨d1, d2⟩
      · rintro H3 ⟨d1, d2⟩
        walk_at "f"
        refine g_new (sz rfl) fun a H4 na s4 ha _ => ?_
        refine g_neE (s4 _ _ d1) ha ?_
        rw [litN]
        refine ⟨false, rfl, ?_⟩
        walk_at "f"
        rw [decide_eq_false (fun z => b0 (Sx_inj.mp z))]
        walk_at "f"
        rw [pu, decide_eq_true rfl]
        walk_at "f"
        exact ⟨rfl, (s2.trans d2).trans s4⟩
    rintro _ H3 ⟨rfl, s3⟩
    clear s2
    walk_at "f"
    rw [litN]
    rcases cs with ⟨rfl, rfl, cs⟩ | ⟨rfl, c, s, N', rfl, rfl, c48, lU, dN, n2, n0, es, ep, rfl⟩
    · rw [if_pos (decide_eq_true rfl)]
      walk_at "f"
      refine ⟨_, rfl, by rw [Sx_len]; exact Nat.le_trans (by omega : _ ≤ 1000) (by decide), ?_⟩
      rw [Sx_len]
      walk_at "f"
      rw [lit0]
      rcases cs with ⟨rfl, z, c, r, rfl, z3, c48, lG, rfl, rfl⟩ | ⟨c, r, rfl, r13, c48, lU, rfl, rfl⟩
      · rw [if_pos (decide_eq_true rfl)]
        have lU : (Zs z ++ c :: r).length = z + (r.length + 1) := by rw [List.length_append, List.length_replicate]; rfl
        have lU2 : (Zs z ++ c :: r).length ≤ 1000 := by omega
        walk_at "f"
        refine ⟨_, rfl, by rw [Sx_len]; exact Nat.le_trans lU2 (by decide), ?_⟩
        rw [Sx_len]
        walk_at "f"
        refine g_m1 ?_
        walk_at "f"
        refine ⟨⟨_, rfl⟩, ?_⟩
        walk_at "f"
        refine ⟨_, _, rfl, rfl, by rw [Sx_len]; exact Nat.le_trans lU2 (by decide), ?_⟩
        rw [lstrip0 c z r c48]
        refine ⟨_, rfl, by rw [Sx_len, List.length_cons]; exact Nat.le_trans (by omega : _ ≤ 1000) (by decide), ?_⟩
        rw [Sx_len, lU]
        walk_at "f"
        have ep : (-(1 : Int) - (((z + (r.length + 1) : Nat) : Int) - (((c :: r).length : Nat) : Int))) = -1 - (z : Int) := by rw [List.length_cons]; omega
        rw [ep]
        refine g_cutE (fun v H' => v = .bl true ∧ H' = H3) ?_ ?_
        · walk_at "f"
          rw [if_pos ne46]
          walk_at "f"
          rw [if_pos (decide_eq_true rfl)]
          walk_at "f"
          rw [decide_eq_true (show (-5 : Int) < -1 - z by omega)]
          walk_at "f"
          rw [decide_eq_true (show (-1 : Int) - z < 14 by omega)]
          walk_at "f"
          rfl
        · rintro _ H3 ⟨rfl, rfl⟩
          have lZ : (Zs z ++ c :: r) = [48] ∨ LNz (Zs z ++ c :: r) := by
            obtain ⟨G0, d, eG, d48⟩ := lG
            exact .inr ⟨Zs z ++ G0, d, by rw [eG, List.append_assoc], d48⟩
          have lS : ([48] ++ (Zs z ++ c :: r)).length ≤ 1000 := by rw [List.length_append, lU]; simp only [List.length_cons, List.length_nil]; omega
          walk_at "f"
          refine g_cutT (fun v H' => v = false ∧ H' = H3) ?_ ?_
          · walk_at "f"
            refine ⟨_, rfl, by rw [Sx_len]; exact Nat.le_trans lU2 (by decide), ?_⟩
            rw [Sx_len]
            walk_at "f"
            refine g_ite (fun h1 => ?_) fun h1 => ?_
            · walk_at "f"
              obtain ⟨G0, d, eU, d48⟩ := last2 lZ (by omega)
              refine ⟨_, -1, d, rfl, rfl, by rw [Sx_len]; exact Nat.le_trans lU2 (by decide), by rw [Sx_cps, eU]; exact atI_last G0 d, ?_⟩
              walk_at "f"
              rw [decide_eq_false (ne_S d48)]
              walk_at "f"
              first | rfl | exact ⟨rfl, rfl⟩
            · walk_at "f"
              first | rfl | exact ⟨rfl, rfl⟩
          rintro _ H3 ⟨rfl, rfl⟩
          walk_at "f"
          refine g_m1 ?_
          walk_at "f"
          refine ⟨⟨_, rfl⟩, ?_⟩
          walk_at "f"
          refine ⟨_, _, rfl, rfl, by rw [Sx_len]; exact Nat.le_trans lS (by decide), ?_⟩
          rw [show [48] ++ (Zs z ++ c :: r) = Zs (z + 1) ++ c :: r from rfl, lstrip0 c (z + 1) r c48]
          walk_at "f"
          refine g_new (sz rfl) fun a H4 na s4 ha _ => ?_
          exact q a H4 (s3.trans s4) ha
      · rw [if_neg (fun z => by cases Sx_inj.mp (of_decide_eq_true z); exact c48 rfl)]
        walk_at "f"
        rw [show (((c :: r).length : Nat) : Int) - 1 = (r.length : Nat) by rw [List.length_cons]; omega]
        refine g_cutE (fun v H' => v = .bl true ∧ H' = H3) ?_ ?_
        · walk_at "f"
          rw [if_pos ne46]
          walk_at "f"
          rw [if_neg (fun z => by cases Sx_inj.mp (of_decide_eq_true z); exact c48 rfl)]
          walk_at "f"
          refine ⟨_, 0, c, rfl, rfl, by rw [Sx_len]; exact Nat.le_trans (show (c :: r).length ≤ 1000 by rw [List.length_cons]; omega) (by decide), by rw [Sx_cps]; exact atI0 c r, ?_⟩
          walk_at "f"
          rw [decide_eq_false (ne_S c48)]
          refine g_nf ?_
          walk_at "f"
          rw [decide_eq_true (show (-5 : Int) < (r.length : Nat) by omega)]
          walk_at "f"
          rw [decide_eq_true (show ((r.length : Nat) : Int) < 14 by omega)]
          walk_at "f"
          first | rfl | exact ⟨rfl, rfl⟩
        · rintro _ H3 ⟨rfl, rfl⟩
          have lU2 : U.length ≤ 1000 := by omega
          have lZ : U = [48] ∨ LNz U := lU
          have lS : ((c :: r) ++ U).length ≤ 1000 := by rw [List.length_append]; omega
          walk_at "f"
          refine g_cutT (fun v H' => v = false ∧ H' = H3) ?_ ?_
          · walk_at "f"
            refine ⟨_, rfl, by rw [Sx_len]; exact Nat.le_trans lU2 (by decide), ?_⟩
            rw [Sx_len]
            walk_at "f"
            refine g_ite (fun h1 => ?_) fun h1 => ?_
            · walk_at "f"
              obtain ⟨G0, d, eU, d48⟩ := last2 lZ (by omega)
              refine ⟨_, -1, d, rfl, rfl, by rw [Sx_len]; exact Nat.le_trans lU2 (by decide), by rw [Sx_cps, eU]; exact atI_last G0 d, ?_⟩
              walk_at "f"
              rw [decide_eq_false (ne_S d48)]
              walk_at "f"
              first | rfl | exact ⟨rfl, rfl⟩
            · walk_at "f"
              first | rfl | exact ⟨rfl, rfl⟩
          rintro _ H3 ⟨rfl, rfl⟩
          walk_at "f"
          refine g_m1 ?_
          walk_at "f"
          refine ⟨⟨_, rfl⟩, ?_⟩
          walk_at "f"
          refine ⟨_, _, rfl, rfl, by rw [Sx_len]; exact Nat.le_trans lS (by decide), ?_⟩
          rw [show (c :: r) ++ U = Zs 0 ++ c :: (r ++ U) from rfl, lstrip0 c 0 (r ++ U) c48]
          walk_at "f"
          refine g_new (sz rfl) fun a H4 na s4 ha _ => ?_
          exact q a H4 (s3.trans s4) ha
    rw [if_neg (fun z => by cases Sx_inj.mp (of_decide_eq_true z))]
    walk_at "f"
    refine g_slS (by rw [Sx_len]; exact Nat.le_trans ln2 (Nat.le_trans hl (by decide))) ?_
    rw [cut_from _ (by decide), show (s :: N').drop (Int.toNat 1) = N' from rfl]
    walk_at "f"
    have lN : N'.length ≤ 600 := by rw [List.length_cons] at ln2; omega
    refine g_cutE (fun v H' => v = .bl true ∧ Same H3 H') ?_ ?_
    · walk_at "f"
      refine ⟨_, rfl, by rw [Sx_len]; exact (by decide : 1 ≤ sizeLine), ?_⟩
      rw [Sx_len]
      walk_at "f"
      rw [decide_eq_true (show (([c].length : Nat) : Int) = 1 from rfl)]
      walk_at "f"
      rw [lit0, decide_eq_false (fun z => c48 (by cases Sx_inj.mp z; rfl))]
      refine g_nf ?_
      walk_at "f"
      refine g_slS (by rw [Sx_len]; exact Nat.le_trans ln2 (Nat.le_trans hl (by decide))) ?_
      rw [cut_to _ (by decide), show (s :: N').take (Int.toNat 1) = [s] from rfl]
      walk_at "f"
      refine g_new (sz rfl) fun a H4 na s4 ha _ => ?_
      refine g_in2 ha (.str _) (.str _) (.str _) ?_
      rw [litA, litM]
      have es2 : decide (V.str (Sx [43]) = V.str (Sx [s]) ∨ V.str (Sx [45]) = V.str (Sx [s])) = true := by
        rcases es with ⟨rfl, _⟩ | ⟨rfl, _⟩
        · exact decide_eq_true (.inl rfl)
        · exact decide_eq_true (.inr rfl)
      rw [es2]
      walk_at "f"
      refine ⟨_, rfl, by rw [Sx_len]; exact Nat.le_trans lN (by decide), ?_⟩
      rw [Sx_len]
      walk_at "f"
      rw [decide_eq_true (show (2 : Int) ≤ (N'.length : Nat) by omega)]
      first | exact s4 | exact ⟨rfl, s4⟩
    rintro _ H4 ⟨rfl, s4⟩
    walk_at "f"
    refine g_cutT (fun v H' => v = false ∧ H' = H4) ?_ ?_
    · walk_at "f"
      refine g_nt ?_
      walk_at "f"
      refine g_slS (by rw [Sx_len]; exact Nat.le_trans (show U.length ≤ 1000 by omega) (by decide)) ?_
      rw [lit0]
      have eL : ¬ (cutS (Sx U) (some (-1)) none = Sx [48]) := by
        rw [C8.cutS_slice]
        rcases lU with rfl | ⟨G0, d, rfl, d48⟩
        · decide +kernel
        · intro z
          rw [SX.last_snoc] at z
          cases Sx_inj.mp z
          exact d48 rfl
      walk_at "f"
      rw [decide_eq_false eL]
      walk_at "f"
      refine ⟨_, rfl, by rw [Sx_len]; exact Nat.le_trans lN (by decide), ?_⟩
      rw [Sx_len]
      walk_at "f"
      refine g_ite (fun h1 => ?_) fun h1 => ?_
      · walk_at "f"
        refine ⟨_, 0, N'.getD 0 0, rfl, rfl, by rw [Sx_len]; exact Nat.le_trans lN (by decide), ?_, ?_⟩
        · rw [Sx_cps]
          cases N' with
          | nil => cases n2
          | cons x y => exact atI0 x y
        · walk_at "f"
          rw [decide_eq_false (ne_S (n0 (by omega)))]
          walk_at "f"
          first | rfl | exact ⟨rfl, rfl⟩
      · walk_at "f"
        first | rfl | exact ⟨rfl, rfl⟩
    rintro _ H4 ⟨rfl, rfl⟩
    walk_at "f"
    have hint : intText? (Sx N') = some ((NumText.digitsVal N' : Nat) : Int) := SX.int_S (by
      rw [List.all_eq_true]
      intro x hx
      have := dN x hx
      simp [this]) (fun z => by rw [z] at n2; cases n2) (by omega)
    refine g_cutE (fun v H' => v = .int p ∧ H' = H4) ?_ ?_
    · walk_at "f"
      refine ⟨_, _, rfl, hint, by rw [Sx_len]; omega, ?_⟩
      walk_at "f"
      refine ⟨_, 0, s, rfl, rfl, by rw [Sx_len]; exact Nat.le_trans ln2 (Nat.le_trans hl (by decide)), by rw [Sx_cps]; exact atI0 _ _, ?_⟩
      walk_at "f"
      rw [litA]
      rcases es with ⟨rfl, e⟩ | ⟨rfl, e⟩
      · rw [if_pos (decide_eq_true rfl)]
        walk_at "f"
        refine g_mulI (.of_right (by decide)) ?_
        refine ⟨?_, rfl⟩
        rw [e, Int.mul_one]
      · rw [decide_eq_false (ne_S (by decide))]
        walk_at "f"
        refine g_mulI (.of_right (by decide)) ?_
        refine ⟨?_, rfl⟩
        rw [e]
        congr 1
        omega
    rintro _ H4 ⟨rfl, rfl⟩
    walk_at "f"
    refine g_ite (fun h1 => ?_) fun h1 => ?_
    · walk_at "f"
      refine g_new (sz rfl) fun a H5 na s5 ha _ => ?_
      exact q a H5 ((s3.trans s4).trans s5) ha
    · walk_at "f"
      rw [decide_eq_true (show p > 13 by omega)]
      walk_at "f"
      refine g_new (sz rfl) fun a H5 na s5 ha _ => ?_
      exact q a H5 ((s3.trans s4).trans s5) ha
end
end Up

set_option Elab.async false
set_option linter.all false
set_option pp.maxSteps 900
set_option maxRecDepth 100000
set_option maxHeartbeats 4000000
set_option exponentiation.threshold 200000
namespace Up
open PySem PySem.Spec PyProof.Rows L2
local macro_rules | `(tactic| walk_at "u") => `(tactic| first
  | with_reducible refine g_seq ?_
  | with_reducible refine g_asg ?_
  | with_reducible refine g_op ?_
  | ((with_reducible show tVar _ _ _ _); apply g_var; exact rfl)
  | with_reducible refine g_c ?_
  | with_reducible refine g_name ?_
  | with_reducible refine g_ifs ?_
  | with_reducible refine g_tt ?_
  | with_reducible refine g_tB ?_
  | with_reducible refine g_bl ?_
  | with_reducible refine g_ret ?_
  | with_reducible refine g_cb ?_
  | with_reducible refine g_cons ?_
  | with_reducible refine g_nil ?_
  | with_reducible refine g_call ?_
  | with_reducible refine g_and ?_
  | with_reducible refine g_or ?_
  | with_reducible refine g_not ?_
  | with_reducible refine g_andV ?_
  | with_reducible refine g_orV ?_
  | with_reducible refine g_notV ?_
  | with_reducible refine g_if ?_
  | with_reducible refine g_un ?_
  | with_reducible refine g_neg ?_
  | with_reducible refine g_addI ?_
  | with_reducible refine g_subI ?_
  | with_reducible refine g_subB ?_
  | with_reducible refine g_I0 ?_
  | with_reducible refine g_cmpI ?_
  | with_reducible refine g_eqI ?_
  | with_reducible refine g_neI ?_
  | with_reducible refine g_eqS ?_
  | with_reducible refine g_neS ?_
  | with_reducible refine g_eqB ?_
  | with_reducible refine g_neB ?_
  | with_reducible refine g_bits ?_
  | with_reducible refine g_bitsI ?_
  | with_reducible refine g_fld ?_
  | with_reducible refine g_tup ?_
  | with_reducible refine g_lst ?_
  | with_reducible refine g_gtup ?_
  | with_reducible refine g_make ?_
  | with_reducible refine g_lc ?_
  | with_reducible refine g_yesT ?_
  | with_reducible refine g_intI ?_
  | with_reducible refine g_intB ?_
  | with_reducible refine g_max2 ?_
  | with_reducible refine g_abs1 ?_
  | with_reducible refine g_for ?_
  | with_reducible refine g_iList ?_
  | with_reducible refine g_iTup ?_
  | with_reducible refine g_iRng1 ?_
  | with_reducible refine g_iEnum ?_
  | with_reducible refine g_slice ?_
  | with_reducible refine g_po0 ?_
  | with_reducible refine g_po1 ?_
  | with_reducible refine g_gsub ?_
  | with_reducible refine g_par ?_
  | with_reducible refine g_par2 ?_
  | with_reducible refine g_rfl ?_
  | with_reducible refine g_meth ?_
  | with_reducible refine g_gcons ?_
  | with_reducible refine g_gnil ?_
  | with_reducible refine g_gfld ?_
  | with_reducible refine g_sfld ?_
  | with_reducible refine g_drop ?_
  | with_reducible refine g_next ?_
  | with_reducible refine iteT ?_
  | with_reducible refine iteF ?_)
local macro_rules | `(tactic| walk_at "go") => `(tactic| (repeat walk_at "u"))
local macro_rules | `(tactic| walk_at "f") => `(tactic| (repeat (first
  | walk_at "u"
  | with_reducible refine g_chain ?_
  | with_reducible refine g_par3 ?_
  | with_reducible refine g_par3' ?_
  | ((with_reducible refine show_ex ?_); first
    | refine fT (by assumption) (by assumption) ?_
    | refine fS (by assumption) (by assumption) ?_
    | refine fP (by assumption) (by assumption) ?_))))

section
variable {P : Program} {w : World} {K : PySem.W.Frag} {mg : Str → Option Value} {base : Heap} {C : Addr} {H : Hp} {Q : VK}
theorem sc_Lisshown : FnScope ["_law_text", "_law_top", "_law_bottom", "_law_parts_here", "_law_figures", "_law_place", "_law_whole", "_law_high", "_law_low", "_law_gap", "_law_is_even", "_law_unit"] ["_law_text", "_law_top", "_law_bottom"] (defScope s_Lisshown) := ⟨rfl, rfl, rfl, by decide +kernel, rfl, by decide +kernel, by decide +kernel⟩
def sp_Lisshown : Sp := fun vs H Q _ => ∃ (l G : List Nat) (k t b : Nat), vs = [.str (Sx l), .int t, .int b] ∧ 0 < t ∧ 0 < b ∧ t < 2 ^ 1200 ∧ b < 2 ^ 1200 ∧ Prt l (G ++ Zs k) (shP t b) ∧ l.length ≤ 600 ∧ k ≤ 14 ∧ Figs t b G ∧ ∀ H', Same H H' → Q (.bl true) H'
theorem ok_Lisshown {f : Addr} {fd : FuncData} (F : FunD K "_law_is_shown" "_law_is_shown" (defArgs s_Lisshown) (defBody s_Lisshown) (defScope s_Lisshown) [] [] f fd) (B : Blt mg) (c_Lparts : Fn P w K mg base CX0 1 "_law_parts" ["_law_text"] [] sp_Lparts) (c_Ltens : Fn P w K mg base CX0 1 "_law_tens" ["_law_many"] [] sp_Ltens) : FnOk P w K mg base CX0 2 f fd ["_law_text", "_law_top", "_law_bottom"] sp_Lisshown := by
  refine F.ok sc_Lisshown (fun vs H Q E h => ?_) (fun cdv A outer s H vs Q E hr h => ?_)
  · obtain ⟨_, _, _, _, _, rfl, _⟩ := h; rfl
  · obtain ⟨l, G, k, t, b, rfl, t0, b0, ht, hb, P, hl, hk, F, q⟩ := h
    refine ⟨_, PSs.nox (pss_cons (ps_set (i := 3) sc_Lisshown.nd rfl (Or.inl rfl) (pe_fn c_Lparts (hr.mono (by first | decide | omega)) pass0 (pa_cons (pv 0) pa_nil)))
  (pss_cons (ps_if (pt_cmpR op_isN (pv 3) pe_non (nomark _)) (pss_one (ps_ret pe_bl)) pss_nil)
  (pss_cons (ps_asg (pv 3) (pg_tup rfl (pgs_cons (pg_name (i := 4) sc_Lisshown.nd rfl (Or.inl rfl)) (pgs_cons (pg_name (i := 5) sc_Lisshown.nd rfl (Or.inl rfl)) pgs_nil))))
  (pss_cons (ps_while PassesOwn.never (pt_cut (PW.pt (pw_and (pt_cmpR op_oGt (pe_callB call_len_str (by rfl) B.len (by decide +kernel) (pa_cons (pv 4) pa_nil)) pe_int (nomark _)) (pw_and1 (pt_cmpR (op_oEq hr.units) (pe_ix ix_str (pv 4) (pe_un un_neg pe_int) (fun _ _ => rfl)) pe_str (nomark _))))))
    (pss_one (ps_set (i := 4) sc_Lisshown.nd rfl (Or.inl rfl) (pe_slice sl_str (pv 4) po_none (po_some (pe_un un_neg pe_int))))))
  (pss_cons (ps_if (pt_cmpR op_oGt (pe_callB call_len_str (by rfl) B.len (by decide +kernel) (pa_cons (pv 4) pa_nil)) pe_int (nomark _)) (pss_one (ps_ret pe_bl)) pss_nil)
  (pss_cons (ps_set (i := 6) sc_Lisshown.nd rfl (Or.inl rfl) (pe_op op_oMul (pe_callTy call_int_str (by rfl) B.int (by decide +kernel) (pa_cons (pv 4) pa_nil)) (pe_fn c_Ltens (hr.mono (by first | decide | omega)) pass0 (pa_cons (pe_op op_oSub pe_int (pe_callB call_len_str (by rfl) B.len (by decide +kernel) (pa_cons (pv 4) pa_nil))) pa_nil))))
  (pss_cons (ps_asg (pe_tupN (pa_cons pe_int (pa_cons pe_int pa_nil))) (pg_tup rfl (pgs_cons (pg_name (i := 7) sc_Lisshown.nd rfl (Or.inl rfl)) (pgs_cons (pg_name (i := 8) sc_Lisshown.nd rfl (Or.inl rfl)) pgs_nil))))
  (C8.pss_cut (ps_if (pt_cmpR op_oGt (pv 5) pe_int (nomark _)) (pss_one (ps_set (i := 7) sc_Lisshown.nd rfl (Or.inl rfl) (pe_fn c_Ltens (hr.mono (by first | decide | omega)) pass0 (pa_cons (pe_op op_oSub (pv 5) pe_int) pa_nil)))) (pss_one (ps_set (i := 8) sc_Lisshown.nd rfl (Or.inl rfl) (pe_fn c_Ltens (hr.mono (by first | decide | omega)) pass0 (pa_cons (pe_op op_oSub pe_int (pv 5)) pa_nil)))))
  (pss_cons (ps_set (i := 9) sc_Lisshown.nd rfl (Or.inl rfl) (pe_op op_oMul pe_int (pe_op op_oSub (pe_op op_oMul (pv 1) (pv 8)) (pe_op op_oMul (pe_op op_oMul (pv 6) (pv 7)) (pv 2)))))
  (pss_cons (ps_set (i := 10) sc_Lisshown.nd rfl (Or.inl rfl) (pe_cmpR (op_oEq hr.units) (pe_op op_oMod (pe_callTy call_int1 (by rfl) B.int (by decide +kernel) (pa_cons (pv 6) pa_nil)) pe_int) pe_int (nomark _)))
  (pss_cons (ps_set (i := 11) sc_Lisshown.nd rfl (Or.inl rfl) (pe_op op_oMul (pv 7) (pv 2)))
  (pss_cons (ps_if (pt_cut (PW.pt (pw_or (pt_cmpR op_oGt (pe_callB call_abs (by rfl) B.abs (by decide +kernel) (pa_cons (pv 9) pa_nil)) (pv 11) (nomark _)) (pw_or1 (PW.pt (pw_and (pt_cmpR (op_oEq hr.units) (pe_callB call_abs (by rfl) B.abs (by decide +kernel) (pa_cons (pv 9) pa_nil)) (pv 11) (nomark _)) (pw_and1 (pt_not (pt_val (pv 10)))))))))) (pss_one (ps_ret pe_bl)) pss_nil)
  (pss_one (ps_ret (pe_or (pe_cmpR op_oGt (pv 6) (pe_fn c_Ltens (hr.mono (by first | decide | omega)) pass0 (pa_cons pe_int pa_nil)) (nomark _)) (pe_or (pe_cmpR op_oGe (pv 9) pe_int (nomark _)) (pe_one (pe_cmpR op_oLe (pe_op op_oMul pe_int (pe_op op_oSub (pe_op op_oMul (pe_op op_oMul (pv 6) (pv 7)) (pv 2)) (pe_op op_oMul (pv 1) (pv 8)))) (pv 11) (nomark _))))))))))))))))))), ?_⟩
    have sh := sh_ok t0 b0
    walk_at "f"
    obtain ⟨p1, p2⟩ := pcF_small ht hb
    have p3 : -450 ≤ shP t b ∧ shP t b ≤ 450 := by unfold shP; split <;> omega
    clear p1 p2
    refine ⟨l, _, _, rfl, P, hl, fun a H1 s1 ha => ?_⟩
    clear P
    walk_at "f"
    refine g_rN ?_
    walk_at "f"
    refine ⟨a, _, rfl, SqT.of ha, rfl, ?_⟩
    walk_at "f"
    obtain ⟨c, r, eG, c1, c2⟩ := F.hd
    obtain ⟨G0, d, eT, d48⟩ := F.tl
    have dig := F.dig
    have len := F.len
    have val := F.val
    obtain ⟨f1, f2, up, dn, ue, de, fl⟩ := sh
    clear F
    generalize shP t b = p at *
    generalize shF t b = f at *
    have lT : G.length = G0.length + 1 := by rw [eT]; simp
    refine g_while (fun m σ' H' => ∃ z, m = z ∧ z ≤ k ∧ H' = H1 ∧ σ' = [some (.str (Sx l)), some (.int t), some (.int b), some (.ref a), some (.str (Sx (G ++ Zs z))), some (.int p), none, none, none, none, none, none]) k ⟨k, rfl, Nat.le_refl _, rfl, rfl⟩ ?_
    rintro z _ H1 ⟨_, rfl, hz, rfl, rfl⟩
    have lz : (G ++ Zs z).length = G.length + z := by rw [List.length_append, List.length_replicate]
    have lz2 : (G ++ Zs z).length ≤ 1000 := by omega
    have lst : (G ++ Zs z).length ≤ 1 ∨ ∃ X e, G ++ Zs z = X ++ [e] ∧ (e = 48 ↔ 0 < z) := by
      cases z with
      | zero =>
        refine .inr ⟨G0, d, by rw [show Zs 0 = [] from rfl, List.append_nil]; exact eT, ⟨fun y => absurd y d48, fun y => absurd y (by decide)⟩⟩
      | succ n => exact .inr ⟨G ++ Zs n, 48, by rw [List.append_assoc]; congr 1; exact List.replicate_succ' .., ⟨fun _ => Nat.succ_pos _, fun _ => rfl⟩⟩
    refine g_cutT (fun v H' => v = decide (0 < z) ∧ H' = H1) ?_ ?_
    · walk_at "f"
      refine ⟨_, rfl, by rw [Sx_len]; exact Nat.le_trans lz2 (by decide), ?_⟩
      rw [Sx_len]
      walk_at "f"
      refine g_ite (fun h1 => ?_) fun h1 => ?_
      · rcases lst with lst | ⟨X, e, eX, e0⟩
        · omega
        · walk_at "f"
          refine ⟨_, -1, e, rfl, rfl, by rw [Sx_len]; exact Nat.le_trans lz2 (by decide), by rw [Sx_cps, eX]; exact atI_last X e, ?_⟩
          walk_at "f"
          rw [lit0]
          refine ⟨?_, rfl⟩
          by_cases y : e = 48
          · rw [decide_eq_true (e0.mp y), y]
            exact decide_eq_true rfl
          · rw [decide_eq_false (fun y2 => y (e0.mpr y2)), decide_eq_false (ne_S y)]
      · walk_at "f"
        refine ⟨(decide_eq_false (by omega)).symm, rfl⟩
    rintro _ H1 ⟨rfl, rfl⟩
    by_cases z0 : 0 < z
    · rw [decide_eq_true z0]
      walk_at "f"
      refine g_wbody ?_
      walk_at "f"
      refine g_slS (by rw [Sx_len]; exact Nat.le_trans lz2 (by decide)) ?_
      obtain ⟨n, rfl⟩ : ∃ n, z = n + 1 := ⟨z - 1, by omega⟩
      have eC : cutS (Sx (G ++ Zs (n + 1))) none (some (-1)) = Sx (G ++ Zs n) := by
        rw [C8.cutS_slice, show G ++ Zs (n + 1) = (G ++ Zs n) ++ [48] by rw [List.append_assoc]; congr 1; exact List.replicate_succ' ..]
        exact SX.butlast_snoc _ _
      rw [eC]
      walk_at "f"
      exact ⟨n, by omega, n, rfl, by omega, rfl, rfl⟩
    rw [decide_eq_false z0]
    walk_at "f"
    have z1 : z = 0 := by omega
    subst z1
    rw [show G ++ Zs 0 = G from List.append_nil G]
    clear lst z0 lz lz2 hz
    have hint : intText? (Sx G) = some ((NumText.digitsVal G : Nat) : Int) := SX.int_S (by
      rw [List.all_eq_true]
      intro x hx
      have := dig x hx
      simp [this]) (fun z => by rw [z] at lT; cases lT) (by omega)
    walk_at "f"
    refine ⟨_, rfl, by rw [Sx_len]; exact Nat.le_trans len (by decide), ?_⟩
    rw [Sx_len]
    walk_at "f"
    rw [decide_eq_false (show ¬ ((14 : Int) < (G.length : Nat)) by omega)]
    walk_at "f"
    refine ⟨_, _, rfl, hint, by rw [Sx_len]; omega, ?_⟩
    walk_at "f"
    refine ⟨_, rfl, by rw [Sx_len]; exact Nat.le_trans len (by decide), ?_⟩
    rw [Sx_len]
    walk_at "f"
    refine ⟨14 - G.length, by rw [show (14 : Int) - (G.length : Nat) = ((14 - G.length : Nat) : Int) by omega]; rfl, by omega, ?_⟩
    refine g_mulI (mul_small (lt_pow_mono (a := 100) (by rw [Int.natAbs_natCast]; exact Nat.lt_of_le_of_lt (Nat.le_trans (Nat.le_mul_of_pos_right _ (ten_pos (14 - G.length))) (Nat.le_of_eq val)) (Nat.lt_trans f2 (by decide))) (by decide)) (by rw [Int.natAbs_natCast]; have := ten_small (n := 14 - G.length) (by omega); rw [ten_abs] at this; exact this)) ?_
    rw [← Int.natCast_mul, val]
    walk_at "f"
    refine g_new (sz rfl) fun a2 H2 na s2 ha2 _ => ?_
    refine ⟨a2, _, rfl, SqT.of ha2, rfl, ?_⟩
    walk_at "f"
    refine g_cut (fun σ' H' => H' = H2 ∧ σ' = [some (.str (Sx l)), some (.int t), some (.int b), some (.ref a), some (.str (Sx G)), some (.int p), some (.int f), some (.int (hiN p : Nat)), some (.int (loN p : Nat)), none, none, none]) ?_ ?_
    · walk_at "f"
      unfold hiN loN
      refine g_ite (fun h1 => ?_) fun h1 => ?_
      · walk_at "f"
        refine ⟨(p - 13).toNat, by rw [show p - 13 = (((p - 13).toNat : Nat) : Int) by omega]; rfl, by omega, ?_⟩
        walk_at "f"
        rw [if_pos (show 13 < p by omega), if_pos (show 13 < p by omega)]
        exact ⟨rfl, rfl⟩
      · walk_at "f"
        refine ⟨(13 - p).toNat, by rw [show 13 - p = (((13 - p).toNat : Nat) : Int) by omega]; rfl, by omega, ?_⟩
        walk_at "f"
        rw [if_neg (show ¬ 13 < p by omega), if_neg (show ¬ 13 < p by omega)]
        exact ⟨rfl, rfl⟩
    rintro _ H3 ⟨rfl, rfl⟩
    have hiB : hiN p < 2 ^ 2000 := by
      unfold hiN
      split
      · exact Nat.lt_of_lt_of_le (ten_lt _) (Nat.pow_le_pow_right (by decide) (by omega))
      · decide
    have loB : loN p < 2 ^ 2000 := by
      unfold loN
      split
      · decide
      · exact Nat.lt_of_lt_of_le (ten_lt _) (Nat.pow_le_pow_right (by decide) (by omega))
    generalize hiN p = hi at *
    generalize loN p = lo at *
    have big : ∀ {n m : Nat}, n < 2 ^ m → m ≤ 100000 → ((n : Nat) : Int).natAbs < 2 ^ 100000 := fun h1 h2 => by rw [Int.natAbs_natCast]; exact Nat.lt_of_lt_of_le h1 (Nat.pow_le_pow_right (by decide) h2)
    have fB : f < 2 ^ 100 := Nat.lt_trans f2 (by decide)
    have fhB : f * hi < 2 ^ 2100 := by
      rw [show (2 : Nat) ^ 2100 = 2 ^ 100 * 2 ^ 2000 by rw [← Nat.pow_add]]
      exact Nat.mul_lt_mul_of_lt_of_lt fB hiB
    walk_at "f"
    refine g_mulI (mul_small (big ht (by decide)) (big loB (by decide))) ?_
    walk_at "f"
    refine g_mulI (mul_small (big fB (by decide)) (big hiB (by decide))) ?_
    rw [← Int.natCast_mul, ← Int.natCast_mul]
    walk_at "f"
    refine g_mulI (mul_small (big fhB (by decide)) (big hb (by decide))) ?_
    rw [← Int.natCast_mul]
    walk_at "f"
    refine g_mulI (.of_left (by decide)) ?_
    walk_at "f"
    refine g_modI (by decide) ?_
    walk_at "f"
    refine g_mulI (mul_small (big hiB (by decide)) (big hb (by decide))) ?_
    rw [← Int.natCast_mul]
    rw [show f * (hi * b) = f * hi * b from (Nat.mul_assoc f hi b).symm] at up dn ue de fl
    have eX2 : (t : Int) * (lo : Int) = ((t * lo : Nat) : Int) := (Int.natCast_mul t lo).symm
    have eY1 : (f : Int) * (hi : Int) = ((f * hi : Nat) : Int) := (Int.natCast_mul f hi).symm
    have eY2 : ((f * hi : Nat) : Int) * (b : Int) = ((f * hi * b : Nat) : Int) := (Int.natCast_mul (f * hi) b).symm
    generalize t * lo = X at *
    generalize f * hi * b = Y at *
    generalize hi * b = U at *
    walk_at "f"
    refine g_cutT (fun v H' => v = false ∧ H' = H3) ?_ ?_
    · walk_at "f"
      rw [decide_eq_false (show ¬ ((if (2 : Int) * (((X : Nat) : Int) - ((Y : Nat) : Int)) < 0 then -((2 : Int) * (((X : Nat) : Int) - ((Y : Nat) : Int))) else (2 : Int) * (((X : Nat) : Int) - ((Y : Nat) : Int))) > ((U : Nat) : Int)) by split <;> omega)]
      walk_at "f"
      refine g_ite (fun h1 => ?_) fun h1 => ?_
      · have ev : f % 2 = 0 := by
          by_cases z : (2 : Int) * (((X : Nat) : Int) - ((Y : Nat) : Int)) < 0
          · rw [if_pos z] at h1
            exact ue (by omega)
          · rw [if_neg z] at h1
            exact de (by omega)
        have ev2 : ((f : Nat) : Int).fmod 2 = 0 := by
          rw [Int.fmod_eq_emod_of_nonneg _ (by decide)]
          omega
        walk_at "f"
        rw [decide_eq_true ev2]
        walk_at "f"
        first | rfl | exact ⟨rfl, rfl⟩
      · walk_at "f"
        first | rfl | exact ⟨rfl, rfl⟩
    rintro _ H3 ⟨rfl, rfl⟩
    walk_at "f"
    refine ⟨13, rfl, by decide, ?_⟩
    walk_at "f"
    have S := (s1.trans s2)
    refine g_ite (fun h1 => ?_) fun h1 => ?_
    · exact q _ S
    · walk_at "f"
      refine g_ite (fun h2 => ?_) fun h2 => ?_
      · exact q _ S
      · walk_at "f"
        refine g_mulI (mul_small (big fB (by decide)) (big hiB (by decide))) ?_
        rw [eY1]
        walk_at "f"
        refine g_mulI (mul_small (big fhB (by decide)) (big hb (by decide))) ?_
        rw [eY2]
        walk_at "f"
        refine g_mulI (mul_small (big ht (by decide)) (big loB (by decide))) ?_
        rw [eX2]
        walk_at "f"
        refine g_mulI (.of_left (by decide)) ?_
        walk_at "f"
        rw [decide_eq_true (show (20 : Int) * (((Y : Nat) : Int) - ((X : Nat) : Int)) ≤ ((U : Nat) : Int) by
          have h1 : ¬ (f : Int) > ((10 ^ 13 : Nat) : Int) := h1
          omega)]
        exact q _ S
end
end Up

set_option Elab.async false
set_option linter.all false
set_option pp.maxSteps 900
set_option maxRecDepth 100000
set_option maxHeartbeats 4000000
set_option exponentiation.threshold 200000
namespace Up
open PySem PySem.Spec PyProof.Rows L2
local macro_rules | `(tactic| walk_at "u") => `(tactic| first
  | with_reducible refine g_seq ?_
  | with_reducible refine g_asg ?_
  | with_reducible refine g_op ?_
  | ((with_reducible show tVar _ _ _ _); apply g_var; exact rfl)
  | with_reducible refine g_c ?_
  | with_reducible refine g_name ?_
  | with_reducible refine g_ifs ?_
  | with_reducible refine g_tt ?_
  | with_reducible refine g_tB ?_
  | with_reducible refine g_bl ?_
  | with_reducible refine g_ret ?_
  | with_reducible refine g_cb ?_
  | with_reducible refine g_cons ?_
  | with_reducible refine g_nil ?_
  | with_reducible refine g_call ?_
  | with_reducible refine g_and ?_
  | with_reducible refine g_or ?_
  | with_reducible refine g_not ?_
  | with_reducible refine g_andV ?_
  | with_reducible refine g_orV ?_
  | with_reducible refine g_notV ?_
  | with_reducible refine g_if ?_
  | with_reducible refine g_un ?_
  | with_reducible refine g_neg ?_
  | with_reducible refine g_addI ?_
  | with_reducible refine g_subI ?_
  | with_reducible refine g_subB ?_
  | with_reducible refine g_I0 ?_
  | with_reducible refine g_cmpI ?_
  | with_reducible refine g_eqI ?_
  | with_reducible refine g_neI ?_
  | with_reducible refine g_eqS ?_
  | with_reducible refine g_neS ?_
  | with_reducible refine g_eqB ?_
  | with_reducible refine g_neB ?_
  | with_reducible refine g_bits ?_
  | with_reducible refine g_bitsI ?_
  | with_reducible refine g_fld ?_
  | with_reducible refine g_tup ?_
  | with_reducible refine g_lst ?_
  | with_reducible refine g_gtup ?_
  | with_reducible refine g_make ?_
  | with_reducible refine g_lc ?_
  | with_reducible refine g_yesT ?_
  | with_reducible refine g_intI ?_
  | with_reducible refine g_intB ?_
  | with_reducible refine g_max2 ?_
  | with_reducible refine g_abs1 ?_
  | with_reducible refine g_for ?_
  | with_reducible refine g_iList ?_
  | with_reducible refine g_iTup ?_
  | with_reducible refine g_iRng1 ?_
  | with_reducible refine g_iEnum ?_
  | with_reducible refine g_slice ?_
  | with_reducible refine g_po0 ?_
  | with_reducible refine g_po1 ?_
  | with_reducible refine g_gsub ?_
  | with_reducible refine g_par ?_
  | with_reducible refine g_par2 ?_
  | with_reducible refine g_rfl ?_
  | with_reducible refine g_meth ?_
  | with_reducible refine g_gcons ?_
  | with_reducible refine g_gnil ?_
  | with_reducible refine g_gfld ?_
  | with_reducible refine g_sfld ?_
  | with_reducible refine g_drop ?_
  | with_reducible refine g_next ?_
  | with_reducible refine iteT ?_
  | with_reducible refine iteF ?_)
local macro_rules | `(tactic| walk_at "go") => `(tactic| (repeat walk_at "u"))
local macro_rules | `(tactic| walk_at "f") => `(tactic| (repeat (first
  | walk_at "u"
  | with_reducible refine g_chain ?_
  | with_reducible refine g_par3 ?_
  | with_reducible refine g_par3' ?_
  | ((with_reducible refine show_ex ?_); first
    | refine fT (by assumption) (by assumption) ?_
    | refine fS (by assumption) (by assumption) ?_
    | refine fP (by assumption) (by assumption) ?_))))

section
variable {P : Program} {w : World} {K : PySem.W.Frag} {mg : Str → Option Value} {base : Heap} {C : Addr} {H : Hp} {Q : VK}
/-! ### texts of all finite floats -/
theorem rat_bd {n : Nat} {s p : Int} (h : FlOk s (.int n) p) (n0 : n ≠ 0) : 0 < (ratN 1 n p).toNat ∧ 0 < (ratD p).toNat ∧ (ratN 1 n p).toNat < 2 ^ 1200 ∧ (ratD p).toNat < 2 ^ 1200 := by
  obtain ⟨f1, f2, f3, f4, f5, f6⟩ := fin_of h
  rw [intBits_nat] at f4
  have bl := bits_lt n
  unfold ratN ratD
  by_cases hp : p < 0
  · rw [if_pos hp, if_pos hp]
    have e : (2 : Int) ^ (0 - p).toNat = ((2 ^ (0 - p).toNat : Nat) : Int) := by rw [Int.natCast_pow]; rfl
    rw [e, Int.toNat_natCast, Int.one_mul, Int.toNat_natCast]
    have : (2 : Nat) ^ 53 < 2 ^ 1200 := by decide
    refine ⟨by omega, Nat.pow_pos (by decide), by omega, Nat.pow_lt_pow_right (by decide) (by omega)⟩
  · rw [if_neg hp, if_neg hp]
    have e : (1 : Int) * ((n : Int) * 2 ^ p.toNat) = ((n * 2 ^ p.toNat : Nat) : Int) := by rw [Int.one_mul, Int.natCast_mul, Int.natCast_pow]; rfl
    rw [e, Int.toNat_natCast]
    refine ⟨Nat.mul_pos (by omega) (Nat.pow_pos (by decide)), by decide, ?_, by decide⟩
    refine Nat.lt_of_lt_of_le (Nat.mul_lt_mul_of_pos_right bl (Nat.pow_pos (by decide))) ?_
    rw [← Nat.pow_add]
    exact Nat.pow_le_pow_right (by decide) (by omega)
theorem sh_okay {t b : Nat} (t0 : 0 < t) (b0 : 0 < b) (ht : t < 2 ^ 1200) (hb : b < 2 ^ 1200) : ShOk t b := by
  have big : (2 : Nat) ^ 1200 < 10 ^ 400 := by decide +kernel
  have l1 : (nL (t / b)).length ≤ 400 := nL_le (by decide) (Nat.lt_of_le_of_lt (Nat.div_le_self _ _) (by omega))
  have l2 : (nL (b / t)).length ≤ 400 := nL_le (by decide) (Nat.lt_of_le_of_lt (Nat.div_le_self _ _) (by omega))
  have l3 := nL_pos (b / t)
  obtain ⟨p1, p2⟩ := pcF_small ht hb
  have sh := sh_ok t0 b0
  obtain ⟨G, F⟩ := figs_ex t0 b0
  have f2 := sh.f2
  have l4 : (nL (shF t b)).length ≤ 14 := nL_le (by decide) f2
  have p3 : -450 ≤ shP t b ∧ shP t b ≤ 450 := by unfold shP; split <;> omega
  have l5 : (nL (shP t b).natAbs).length ≤ 3 := nL_le (by decide) (by omega)
  refine ⟨⟨t0, b0, ht, hb, by rw [dg_len]; omega, by rw [dg_len]; omega, by rw [dg_len]; omega⟩, by omega, by omega, Nat.lt_trans f2 (by decide), by rw [dg_len]; omega, ?_, ?_, by rw [fr_S, Sx_len]; omega⟩
  · rw [F.eq, Sx_len]
    obtain ⟨c, r, e, _⟩ := F.hd
    rw [e, List.length_cons]
    omega
  · rw [F.eq, Sx_len]
    have := F.len
    omega
theorem tx_okay {s p : Int} {t : V} (h : FlOk s t p) : TxOk (.f s t p) := by
  rcases h.2 with ⟨rfl, _⟩ | ⟨rfl, _⟩ | ⟨n, rfl, hf⟩
  · trivial
  · trivial
  · obtain ⟨m, rfl⟩ := Int.eq_ofNat_of_zero_le hf.1
    by_cases z : m = 0
    · exact .inl (by rw [z]; rfl)
    · obtain ⟨t0, b0, ht, hb⟩ := rat_bd h z
      obtain ⟨G, l, k, F, e, P, hk, hl⟩ := shS_ex t0 b0 ht hb
      exact .inr ⟨sh_okay t0 b0 ht hb, by rw [e, Sx_len]; omega⟩
def sgL (s : Int) : List Nat := if s < 0 then [45] else []
theorem sgA_S (s : Int) : sgA s = Sx (sgL s) := by
  unfold sgA sgL
  split
  · exact litM
  · exact litN
theorem prt_head {l R : List Nat} {p : Int} (h : Prt l R p) : ∃ c r, l = c :: r ∧ c ≠ 45 := by
  cases h with
  | low z c r h1 h2 h3 h4 => exact ⟨48, _, rfl, by decide⟩
  | mid c r U h1 h2 h3 h4 h5 => exact ⟨c, _, rfl, by have := h2 c List.mem_cons_self; omega⟩
  | exp c s U N p h1 h2 h3 h4 h5 h6 h7 h8 => exact ⟨c, _, rfl, by have := h1 c List.mem_cons_self; omega⟩
theorem sc_Lright : FnScope ["_law_number", "_law_text", "_law_ahead"] ["_law_number"] (defScope s_Lright) := ⟨rfl, rfl, rfl, by decide +kernel, rfl, by decide +kernel, by decide +kernel⟩
abbrev CTx (P : Program) (w : World) (K : PySem.W.Frag) (mg : Str → Option Value) (base : Heap) (C : Addr) : Prop := Fn P w K mg base CX0 4 "text_of" ["number"] [] (sp_textof C)
def sp_Lright (C : Addr) : Sp := fun vs H Q _ => ∃ (v : V) (s p : Int) (t : V), vs = [v] ∧ NumAt C H v (.f s t p) ∧ ∀ H', Same H H' → Q (.bl true) H'
theorem ok_Lright {f : Addr} {fd : FuncData} (F : FunD K "_law_right" "_law_right" (defArgs s_Lright) (defBody s_Lright) (defScope s_Lright) [] [] f fd) (B : Blt mg) (T : FlC K mg C) (c_textof : CTx P w K mg base C) (c_Lisshown : Fn P w K mg base CX0 2 "_law_is_shown" ["_law_text", "_law_top", "_law_bottom"] [] sp_Lisshown) : FnOk P w K mg base CX0 5 f fd ["_law_number"] (sp_Lright C) := by
  refine F.ok sc_Lright (fun vs H Q E h => ?_) (fun cdv A outer s H vs Q E hr h => ?_)
  · obtain ⟨_, _, _, _, rfl, _⟩ := h; rfl
  · obtain ⟨_, sg, p, tp, rfl, hn, q⟩ := h
    refine ⟨_, PSs.nox (pss_cons (ps_set (i := 1) sc_Lright.nd rfl (Or.inl rfl) (pe_fn c_textof (hr.mono (by first | decide | omega)) pass0 (pa_cons (pv 0) pa_nil)))
  (pss_cons (ps_if (pt_cmpR (op_oEq hr.units) (pe_fld (pv 0) rfl) pe_str (nomark _)) (pss_one (ps_ret (pe_cmpR (op_oEq hr.units) (pv 1) pe_str (nomark _)))) pss_nil)
  (pss_cons (ps_set (i := 2) sc_Lright.nd rfl (Or.inl rfl) (pe_cut (pe_ifExp (pt_cmpR op_oLt (pe_fld (pv 0) rfl) pe_int (nomark _)) pe_str pe_str)))
  (pss_cons (ps_if (pt_cmpR (op_oEq hr.units) (pe_fld (pv 0) rfl) pe_str (nomark _)) (pss_one (ps_ret (pe_cmpR (op_oEq hr.units) (pv 1) (pe_op op_oAdd (pv 2) pe_str) (nomark _)))) pss_nil)
  (pss_cons (ps_if (pt_cmpR (op_oEq hr.units) (pe_fld (pv 0) rfl) pe_int (nomark _)) (pss_one (ps_ret (pe_cmpR (op_oEq hr.units) (pv 1) (pe_op op_oAdd (pv 2) pe_str) (nomark _)))) pss_nil)
  (pss_cons (ps_if (pt_cut (PW.pt (pw_or (pt_cmpR (op_oNe hr.units) (pe_slice sl_str (pv 1) po_none (po_some (pe_callB call_len_str (by rfl) B.len (by decide +kernel) (pa_cons (pv 2) pa_nil)))) (pv 2) (nomark _)) (pw_or1 (pt_cmpR (op_oEq hr.units) (pe_slice sl_str (pe_slice sl_str (pv 1) (po_some (pe_callB call_len_str (by rfl) B.len (by decide +kernel) (pa_cons (pv 2) pa_nil))) po_none) po_none (po_some pe_int)) pe_str (nomark _)))))) (pss_one (ps_ret pe_bl)) pss_nil)
  (pss_cons (ps_if (pt_cmpR op_oLt (pe_fld (pv 0) rfl) pe_int (nomark _)) (pss_one (ps_ret (pe_fn c_Lisshown (hr.mono (by first | decide | omega)) pass0 (pa_cons (pe_slice sl_str (pv 1) (po_some (pe_callB call_len_str (by rfl) B.len (by decide +kernel) (pa_cons (pv 2) pa_nil))) po_none) (pa_cons (pe_fld (pv 0) rfl) (pa_cons (pe_op op_oShl pe_int (pe_op op_oSub pe_int (pe_fld (pv 0) rfl))) pa_nil)))))) pss_nil)
  (pss_one (ps_ret (pe_fn c_Lisshown (hr.mono (by first | decide | omega)) pass0 (pa_cons (pe_slice sl_str (pv 1) (po_some (pe_callB call_len_str (by rfl) B.len (by decide +kernel) (pa_cons (pv 2) pa_nil))) po_none) (pa_cons (pe_op op_oShl (pe_fld (pv 0) rfl) (pe_fld (pv 0) rfl)) (pa_cons pe_int pa_nil))))))))))))), ?_⟩
    obtain ⟨a, rfl, ha, ho⟩ := hn
    obtain ⟨l1, l2, l3, l4, l5, l6, l7⟩ := lens
    walk_at "f"
    refine ⟨_, .f sg tp p, rfl, ⟨a, rfl, ha, ho⟩, tx_okay ho, fun H1 s1 => ?_⟩
    replace ha := ha.same s1
    walk_at "f"
    refine g_eqV (IS.scal (FL.ok.is (x := ⟨sg, tp, p⟩) ho) (.str _)) ?_
    walk_at "f"
    refine g_ite (fun h1 => ?_) fun h1 => ?_
    · subst h1
      walk_at "f"
      show Q (.bl (decide (txN (Nm.f sg (.str "nan") p) = ("nan" : Str)))) H1
      rw [decide_eq_true (show txN (Nm.f sg (.str "nan") p) = ("nan" : Str) by unfold txN; exact if_pos rfl)]
      exact q _ s1
    · walk_at "f"
      refine g_cutE (fun z H' => z = .str (sgA sg) ∧ H' = H1) ?_ ?_
      · walk_at "f"
        unfold sgA
        refine g_ite (fun h2 => ?_) fun h2 => ?_
        · walk_at "f"
          rw [if_pos h2]
          exact ⟨rfl, rfl⟩
        · walk_at "f"
          rw [if_neg h2]
          exact ⟨rfl, rfl⟩
      rintro _ H1 ⟨rfl, rfl⟩
      have lp : (sgA sg).length ≤ 1 := by unfold sgA; split <;> omega
      walk_at "f"
      refine g_eqV (IS.scal (FL.ok.is (x := ⟨sg, tp, p⟩) ho) (.str _)) ?_
      walk_at "f"
      refine g_ite (fun h2 => ?_) fun h2 => ?_
      · subst h2
        walk_at "f"
        refine g_addS (sz (Nat.ble_eq.mpr (by rw [show ("inf" : Str).length = 3 by decide +kernel]; omega))) ?_
        walk_at "f"
        have e : txN (.f sg (.str "inf") p) = sgA sg ++ "inf" := by
          unfold txN
          exact if_neg (fun z => inf_nan z)
        show Q (.bl (decide (txN (Nm.f sg (.str "inf") p) = sgA sg ++ "inf"))) H1
        rw [decide_eq_true e]
        exact q _ s1
      · obtain ⟨m, rfl, hfin⟩ := FL.ok.fin (x := ⟨sg, tp, p⟩) ho h1 h2
        obtain ⟨n, rfl⟩ := Int.eq_ofNat_of_zero_le hfin.1
        walk_at "f"
        refine g_ite (fun h3 => ?_) fun h3 => ?_
        · walk_at "f"
          refine g_addS (sz (Nat.ble_eq.mpr (by rw [show ("0.0" : Str).length = 3 by decide +kernel]; omega))) ?_
          walk_at "f"
          have e : txN (.f sg (.int (n : Nat)) p) = sgA sg ++ "0.0" := if_pos h3
          show Q (.bl (decide (txN (.f sg (.int (n : Nat)) p) = sgA sg ++ "0.0"))) H1
          rw [decide_eq_true e]
          exact q _ s1
        · have n0 : n ≠ 0 := fun z => h3 (by rw [z]; rfl)
          obtain ⟨q1, q2, q3, q4, q5, q6⟩ := fin_of ho
          rw [intBits_nat] at q4
          obtain ⟨t0, b0, ht, hb⟩ := rat_bd ho n0
          obtain ⟨G, l, k, Fg, el, Pt, hk, hl⟩ := shS_ex t0 b0 ht hb
          have e : txN (.f sg (.int (n : Nat)) p) = Sx (sgL sg ++ l) := by
            have e : txN (.f sg (.int (n : Nat)) p) = sgA sg ++ shS (ratN 1 (n : Nat) p).toNat (ratD p).toNat := if_neg h3
            rw [e, el, sgA_S, Sx_cat]
          rw [e, sgA_S]
          have ls : (sgL sg).length ≤ 1 := by unfold sgL; split <;> simp
          have lt : (sgL sg ++ l).length ≤ 100 := by rw [List.length_append]; omega
          have cf : cutS (Sx (sgL sg ++ l)) (some (((sgL sg).length : Nat) : Int)) none = Sx l := by
            rw [C8.cutS_slice]
            exact SX.from_app _ _ rfl
          refine g_cutT (fun v H' => v = false ∧ H' = H1) ?_ ?_
          · walk_at "f"
            refine ⟨_, rfl, by rw [Sx_len]; exact Nat.le_trans ls (by decide), ?_⟩
            rw [Sx_len]
            walk_at "f"
            refine g_slS (by rw [Sx_len]; exact Nat.le_trans lt (by decide)) ?_
            rw [C8.cutS_slice, show Txt.slice (Sx (sgL sg ++ l)) none (some (((sgL sg).length : Nat) : Int)) = Sx (sgL sg) from SX.to_app _ _ rfl]
            walk_at "f"
            rw [decide_eq_true rfl]
            refine g_nt ?_
            walk_at "f"
            refine ⟨_, rfl, by rw [Sx_len]; exact Nat.le_trans ls (by decide), ?_⟩
            rw [Sx_len]
            walk_at "f"
            refine g_slS (by rw [Sx_len]; exact Nat.le_trans lt (by decide)) ?_
            rw [cf]
            walk_at "f"
            refine g_slS (by rw [Sx_len]; exact Nat.le_trans hl (by decide)) ?_
            obtain ⟨c, r, e5, c45⟩ := prt_head Pt
            rw [cut_to _ (by decide), e5, show (c :: r).take (Int.toNat 1) = [c] from rfl]
            walk_at "f"
            rw [litM, decide_eq_false (ne_S c45)]
            first | rfl | exact ⟨rfl, rfl⟩
          rintro _ H1 ⟨rfl, rfl⟩
          walk_at "f"
          refine g_ite (fun h4 => ?_) fun h4 => ?_
          · have eb : (1 : Int) * 2 ^ (0 - p).toNat = (((ratD p).toNat : Nat) : Int) := by
              unfold ratD
              rw [if_pos h4, Int.one_mul, Int.toNat_of_nonneg (Int.le_of_lt (Int.pow_pos (by decide)))]
            have et : ((n : Nat) : Int) = (((ratN 1 n p).toNat : Nat) : Int) := by
              unfold ratN
              rw [if_pos h4, Int.one_mul, Int.toNat_natCast]
            walk_at "f"
            refine ⟨_, rfl, by rw [Sx_len]; exact Nat.le_trans ls (by decide), ?_⟩
            rw [Sx_len]
            walk_at "f"
            refine g_slS (by rw [Sx_len]; exact Nat.le_trans lt (by decide)) ?_
            rw [cf]
            walk_at "f"
            refine g_II (shl_small (by omega) (by omega) (lt_pow_mono (a := 1) (by decide) (by decide))) ?_
            rw [eb]
            walk_at "f"
            refine ⟨l, G, k, _, _, by rw [← et]; rfl, t0, b0, ht, hb, Pt, by omega, hk, Fg, fun H2 s2 => ?_⟩
            exact q _ (s1.trans s2)
          · have eb : (1 : Int) = (((ratD p).toNat : Nat) : Int) := by
              unfold ratD
              rw [if_neg h4]
              rfl
            have et : ((n : Nat) : Int) * 2 ^ p.toNat = (((ratN 1 n p).toNat : Nat) : Int) := by
              unfold ratN
              rw [if_neg h4, Int.one_mul, Int.toNat_of_nonneg (Int.mul_nonneg (by omega) (Int.le_of_lt (Int.pow_pos (by decide))))]
            walk_at "f"
            refine ⟨_, rfl, by rw [Sx_len]; exact Nat.le_trans ls (by decide), ?_⟩
            rw [Sx_len]
            walk_at "f"
            refine g_slS (by rw [Sx_len]; exact Nat.le_trans lt (by decide)) ?_
            rw [cf]
            walk_at "f"
            refine g_II (shl_small (by omega) (by omega) (lt_pow_mono (a := 53) (by omega) (by decide))) ?_
            rw [et]
            walk_at "f"
            refine ⟨l, G, k, _, _, by rw [← eb]; rfl, t0, b0, ht, hb, Pt, by omega, hk, Fg, fun H2 s2 => ?_⟩
            exact q _ (s1.trans s2)
end
end Up

set_option Elab.async false
set_option linter.all false
set_option maxRecDepth 100000
set_option maxHeartbeats 4000000
set_option exponentiation.threshold 200000
namespace Up
open PySem PySem.Spec PyProof.Rows L2
local macro_rules | `(tactic| walk_at "u") => `(tactic| first
  | with_reducible refine g_seq ?_
  | with_reducible refine g_asg ?_
  | with_reducible refine g_op ?_
  | ((with_reducible show tVar _ _ _ _); apply g_var; exact rfl)
  | with_reducible refine g_c ?_
  | with_reducible refine g_name ?_
  | with_reducible refine g_ifs ?_
  | with_reducible refine g_tt ?_
  | with_reducible refine g_tB ?_
  | with_reducible refine g_bl ?_
  | with_reducible refine g_ret ?_
  | with_reducible refine g_cb ?_
  | with_reducible refine g_cons ?_
  | with_reducible refine g_nil ?_
  | with_reducible refine g_call ?_
  | with_reducible refine g_and ?_
  | with_reducible refine g_or ?_
  | with_reducible refine g_not ?_
  | with_reducible refine g_andV ?_
  | with_reducible refine g_orV ?_
  | with_reducible refine g_notV ?_
  | with_reducible refine g_if ?_
  | with_reducible refine g_un ?_
  | with_reducible refine g_neg ?_
  | with_reducible refine g_addI ?_
  | with_reducible refine g_subI ?_
  | with_reducible refine g_subB ?_
  | with_reducible refine g_I0 ?_
  | with_reducible refine g_cmpI ?_
  | with_reducible refine g_eqI ?_
  | with_reducible refine g_neI ?_
  | with_reducible refine g_eqS ?_
  | with_reducible refine g_neS ?_
  | with_reducible refine g_eqB ?_
  | with_reducible refine g_neB ?_
  | with_reducible refine g_bits ?_
  | with_reducible refine g_bitsI ?_
  | with_reducible refine g_fld ?_
  | with_reducible refine g_tup ?_
  | with_reducible refine g_lst ?_
  | with_reducible refine g_gtup ?_
  | with_reducible refine g_make ?_
  | with_reducible refine g_lc ?_
  | with_reducible refine g_yesT ?_
  | with_reducible refine g_intI ?_
  | with_reducible refine g_intB ?_
  | with_reducible refine g_max2 ?_
  | with_reducible refine g_abs1 ?_
  | with_reducible refine g_for ?_
  | with_reducible refine g_iList ?_
  | with_reducible refine g_iTup ?_
  | with_reducible refine g_iRng1 ?_
  | with_reducible refine g_iEnum ?_
  | with_reducible refine g_slice ?_
  | with_reducible refine g_po0 ?_
  | with_reducible refine g_po1 ?_
  | with_reducible refine g_gsub ?_
  | with_reducible refine g_par ?_
  | with_reducible refine g_par2 ?_
  | with_reducible refine g_rfl ?_
  | with_reducible refine g_meth ?_
  | with_reducible refine g_gcons ?_
  | with_reducible refine g_gnil ?_
  | with_reducible refine g_gfld ?_
  | with_reducible refine g_sfld ?_
  | with_reducible refine g_drop ?_
  | with_reducible refine g_next ?_
  | with_reducible refine iteT ?_
  | with_reducible refine iteF ?_)
local macro_rules | `(tactic| walk_at "go") => `(tactic| (repeat walk_at "u"))
local macro_rules | `(tactic| walk_at "f") => `(tactic| (repeat (first
  | walk_at "u"
  | with_reducible refine g_chain ?_
  | with_reducible refine g_par3 ?_
  | with_reducible refine g_par3' ?_
  | ((with_reducible refine show_ex ?_); first
    | refine fT (by assumption) (by assumption) ?_
    | refine fS (by assumption) (by assumption) ?_
    | refine fP (by assumption) (by assumption) ?_))))

section
variable {P : Program} {w : World} {K : PySem.W.Frag} {mg : Str → Option Value} {base : Heap} {C : Addr}
/-! by_floats -/
theorem sc_byfloats : FnScope ["word", "one", "other", "found"] ["word", "one", "other"] (defScope s_byfloats) := ⟨rfl, rfl, rfl, by decide +kernel, rfl, by decide +kernel, by decide +kernel⟩
def Wd (c : Str) : Prop := c = "add" ∨ c = "sub" ∨ c = "mul" ∨ c = "div"
def sp_byfloats (C : Addr) : Sp := fun vs H Q _ => ∃ c v u x y, vs = [.str c, v, u] ∧ Wd c ∧ FA C H v x ∧ FA C H u y ∧ x.ok ∧ y.ok ∧ RetN C H (byL c x y) Q
theorem ok_byfloats {f : Addr} {fd : FuncData} (F : FunD K "by_floats" "by_floats" (defArgs s_byfloats) (defBody s_byfloats) (defScope s_byfloats) [] [] f fd) (B : Blt mg) (T : FlC K mg C) (c_Float : CnF P w K mg base C) (c_nan : CNan P w K mg base C) (c_added : Fn P w K mg base CX0 6 "added" ["one", "other"] [] (sp_added C)) (c_multiplied : Fn P w K mg base CX0 6 "multiplied" ["one", "other"] [] (sp_multiplied C)) (c_divided : Fn P w K mg base CX0 6 "divided" ["one", "other"] [] (sp_divided C)) :
    FnOk P w K mg base CX0 7 f fd ["word", "one", "other"] (sp_byfloats C) := by
  refine F.ok sc_byfloats (fun vs H Q E h => ?_) (fun cdv A outer s H vs Q E hr h => ?_)
  · obtain ⟨_, _, _, _, _, rfl, _⟩ := h; rfl
  · obtain ⟨c, _, _, x, y, rfl, hc, ⟨a, rfl, ha⟩, ⟨b, rfl, hb⟩, ox, oy, q⟩ := h
    refine ⟨_, PSs.nox (pss_cons (ps_if (pt_cmpR op_in_seq pe_str (pe_tupN (pa_cons (pe_fld (pv 1) rfl) (pa_cons (pe_fld (pv 2) rfl) pa_nil))) (by rfl)) (pss_one (ps_ret (pe_fn0 c_nan (hr.mono (by first | decide | omega)) pass0))) pss_nil)
  (pss_cons (ps_if (pt_cmpR (op_oEq hr.units) (pv 0) pe_str (nomark _)) (pss_one (ps_ret (pe_fn c_added (hr.mono (by first | decide | omega)) pass0 (pa_cons (pv 1) (pa_cons (pv 2) pa_nil))))) pss_nil)
  (pss_cons (ps_if (pt_cmpR (op_oEq hr.units) (pv 0) pe_str (nomark _)) (pss_one (ps_ret (pe_fn c_added (hr.mono (by first | decide | omega)) pass0 (pa_cons (pv 1) (pa_cons (pe_cn c_Float (hr.mono (by first | decide | omega)) pass0 (pa_cons (pe_op op_oSub pe_int (pe_fld (pv 2) rfl)) (pa_cons (pe_fld (pv 2) rfl) (pa_cons (pe_fld (pv 2) rfl) pa_nil)))) pa_nil))))) pss_nil)
  (pss_cons (ps_if (pt_cmpR (op_oEq hr.units) (pv 0) pe_str (nomark _)) (pss_one (ps_ret (pe_fn c_multiplied (hr.mono (by first | decide | omega)) pass0 (pa_cons (pv 1) (pa_cons (pv 2) pa_nil))))) pss_nil)
  (pss_cons (ps_if (pt_cmpR (op_oEq hr.units) (pv 0) pe_str (nomark _)) pss_never pss_nil)
  (pss_cons (ps_set (i := 3) sc_byfloats.nd rfl (Or.inl rfl) (pe_fn c_divided (hr.mono (by first | decide | omega)) pass0 (pa_cons (pv 1) (pa_cons (pv 2) pa_nil))))
  (pss_one (ps_ret (pe_ifExp (pt_cmpR (op_oEq hr.units) (pv 0) pe_str (nomark _)) pe_never (pv 3)))))))))), ?_⟩
    unfold byL at q
    walk_at "f"
    refine g_new (sz rfl) fun k H1 n1 s1 h1 _ => ?_
    refine g_in2 h1 (.str _) ox.is oy.is ?_
    have q := q.later s1
    have ha := ha.same s1
    have hb := hb.same s1
    walk_at "f"
    refine g_ite (fun h2 => ?_) fun h2 => ?_
    · rw [if_pos h2] at q
      walk_at "f"
      exact ⟨rfl, q⟩
    · rw [if_neg h2] at q
      have nx1 : x.t ≠ .str "nan" := fun z => h2 (.inl z)
      have ny1 : y.t ≠ .str "nan" := fun z => h2 (.inr z)
      walk_at "f"
      refine g_ite (fun h3 => ?_) fun h3 => ?_
      · rw [if_pos h3] at q
        walk_at "f"
        exact ⟨_, _, x, y, rfl, ⟨a, rfl, ha⟩, ⟨b, rfl, hb⟩, ox, oy, nx1, ny1, q⟩
      · rw [if_neg h3] at q
        walk_at "f"
        refine g_ite (fun h4 => ?_) fun h4 => ?_
        · rw [if_pos h4] at q
          walk_at "f"
          obtain ⟨k1, k2⟩ := neg_mk oy ny1
          refine mkN k1 fun H2 v s2 h5 => ?_
          rw [k2] at h5
          walk_at "f"
          exact ⟨_, _, x, negL y, rfl, ⟨a, rfl, ha.same s2⟩, h5, ox, neg_ok oy ny1, nx1, ny1, q.later s2⟩
        · rw [if_neg h4] at q
          walk_at "f"
          refine g_ite (fun h5 => ?_) fun h5 => ?_
          · rw [if_pos h5] at q
            walk_at "f"
            exact ⟨_, _, x, y, rfl, ⟨a, rfl, ha⟩, ⟨b, rfl, hb⟩, ox, oy, nx1, ny1, q⟩
          · rw [if_neg h5] at q
            have hd : c = "div" := by rcases hc with z | z | z | z <;> first | exact absurd z h3 | exact absurd z h4 | exact absurd z h5 | exact z
            walk_at "f"
            refine g_no (by rw [hd]; decide +kernel) ?_
            walk_at "f"
            refine ⟨_, _, x, y, rfl, ⟨a, rfl, ha⟩, ⟨b, rfl, hb⟩, ox, oy, nx1, ny1, fun H2 v s2 h6 => ?_⟩
            walk_at "f"
            refine g_no (by rw [hd]; decide +kernel) ?_
            walk_at "f"
            exact q _ _ s2 h6
/-! arith -/
theorem sc_arith : FnScope ["word", "one", "other"] ["word", "one", "other"] (defScope s_arith) := ⟨rfl, rfl, rfl, by decide +kernel, rfl, by decide +kernel, by decide +kernel⟩
def sp_arith (C : Addr) : Sp := fun vs H Q _ => ∃ c v u n m, vs = [.str c, v, u] ∧ Wd c ∧ NumAt C H v n ∧ NumAt C H u m ∧ nBig n ∧ nBig m ∧ (c = "div" ∨ isF n = true ∨ isF m = true) ∧ RetN C H (byL c (toL n) (toL m)) Q
theorem ok_arith {f : Addr} {fd : FuncData} (F : FunD K "arith" "arith" (defArgs s_arith) (defBody s_arith) (defScope s_arith) [] [] f fd) (B : Blt mg) (T : FlC K mg C) (c_byfloats : Fn P w K mg base CX0 7 "by_floats" ["word", "one", "other"] [] (sp_byfloats C)) (c_tofloat : Fn P w K mg base CX0 6 "to_float" ["number"] [] (sp_tofloat C)) :
    FnOk P w K mg base CX0 8 f fd ["word", "one", "other"] (sp_arith C) := by
  have g_Float : mg "Float" = some (.ref C) := T.mg
  refine F.ok sc_arith (fun vs H Q E h => ?_) (fun cdv A outer s H vs Q E hr h => ?_)
  · obtain ⟨_, _, _, _, _, rfl, _⟩ := h; rfl
  · obtain ⟨c, v, u, n, m, rfl, hc, hn, hm, bn, bm, hf, q⟩ := h
    refine ⟨_, PSs.nox (pss_cons (ps_if (pt_cmpR op_in_seq (pv 0) (pe_tupN (pa_cons pe_str (pa_cons pe_str (pa_cons pe_str (pa_cons pe_str (pa_cons pe_str pa_nil)))))) (by rfl)) pss_never pss_nil)
  (pss_cons (ps_if (pt_cut (PW.pt (pw_or (pt_cmpR (op_oEq hr.units) (pv 0) pe_str (nomark _)) (pw_or (pt_val (pe_callB call_isi (by rfl) B.isinstance (by decide +kernel) (pa_cons (pv 1) (pa_cons (pe_gref g_Float) pa_nil)))) (pw_or1 (pt_val (pe_callB call_isi (by rfl) B.isinstance (by decide +kernel) (pa_cons (pv 2) (pa_cons (pe_gref g_Float) pa_nil))))))))) (pss_one (ps_ret (pe_fn c_byfloats (hr.mono (by first | decide | omega)) pass0 (pa_cons (pv 0) (pa_cons (pe_fn c_tofloat (hr.mono (by first | decide | omega)) pass0 (pa_cons (pv 1) pa_nil)) (pa_cons (pe_fn c_tofloat (hr.mono (by first | decide | omega)) pass0 (pa_cons (pv 2) pa_nil)) pa_nil)))))) pss_nil)
  pss_never)), ?_⟩
    walk_at "f"
    refine g_new (sz rfl) fun k H1 n1 s1 h1 _ => ?_
    refine ⟨k, _, rfl, .inr (SqT.of h1), rfl, rfl, ?_⟩
    have hin : inV (.str c) [.str "band", .str "bor", .str "bxor", .str "shl", .str "shr"] = false := by rcases hc with rfl | rfl | rfl | rfl <;> decide +kernel
    walk_at "f"
    refine g_iteb (fun z => absurd (hin.symm.trans z) (by decide)) fun _ => ?_
    have q := q.later s1
    have hn := hn.same s1
    have hm := hm.same s1
    obtain ⟨t1, k1, _, _⟩ := hn.kf T
    obtain ⟨t2, k2, _, _⟩ := hm.kf T
    walk_at "f"
    refine g_cutT (fun b H' => b = true ∧ H' = H1) ?_ ?_
    · walk_at "f"
      refine g_ite (fun h2 => ?_) fun h2 => ?_
      · exact ⟨rfl, rfl⟩
      · walk_at "f"
        refine g_isiF k1 ?_
        walk_at "f"
        refine g_iteb (fun h3 => ?_) fun h3 => ?_
        · exact ⟨rfl, rfl⟩
        · walk_at "f"
          refine g_isiF k2 ?_
          walk_at "f"
          rcases hf with z | z | z
          · exact absurd z h2
          · rw [h3] at z; cases z
          · exact ⟨z, rfl⟩
    · rintro _ _ ⟨rfl, rfl⟩
      walk_at "f"
      refine g_tofl hn bn fun H2 v2 s2 f2 => ?_
      walk_at "f"
      refine g_tofl (hm.same s2) bm fun H3 v3 s3 f3 => ?_
      walk_at "f"
      exact ⟨c, _, _, _, _, rfl, hc, f2.same s3, f3, hn.tok, hm.tok, q.later (s2.trans s3)⟩
end
end Up

set_option Elab.async false
set_option linter.all false
set_option pp.maxSteps 900
set_option maxRecDepth 100000
set_option maxHeartbeats 4000000
set_option exponentiation.threshold 200000
namespace Up
open PySem PySem.Spec PyProof.Rows L2
local macro_rules | `(tactic| walk_at "u") => `(tactic| first
  | with_reducible refine g_seq ?_
  | with_reducible refine g_asg ?_
  | with_reducible refine g_op ?_
  | ((with_reducible show tVar _ _ _ _); apply g_var; exact rfl)
  | with_reducible refine g_c ?_
  | with_reducible refine g_name ?_
  | with_reducible refine g_ifs ?_
  | with_reducible refine g_tt ?_
  | with_reducible refine g_tB ?_
  | with_reducible refine g_bl ?_
  | with_reducible refine g_ret ?_
  | with_reducible refine g_cb ?_
  | with_reducible refine g_cons ?_
  | with_reducible refine g_nil ?_
  | with_reducible refine g_call ?_
  | with_reducible refine g_and ?_
  | with_reducible refine g_or ?_
  | with_reducible refine g_not ?_
  | with_reducible refine g_andV ?_
  | with_reducible refine g_orV ?_
  | with_reducible refine g_notV ?_
  | with_reducible refine g_if ?_
  | with_reducible refine g_un ?_
  | with_reducible refine g_neg ?_
  | with_reducible refine g_addI ?_
  | with_reducible refine g_subI ?_
  | with_reducible refine g_subB ?_
  | with_reducible refine g_I0 ?_
  | with_reducible refine g_cmpI ?_
  | with_reducible refine g_eqI ?_
  | with_reducible refine g_neI ?_
  | with_reducible refine g_eqS ?_
  | with_reducible refine g_neS ?_
  | with_reducible refine g_eqB ?_
  | with_reducible refine g_neB ?_
  | with_reducible refine g_bits ?_
  | with_reducible refine g_bitsI ?_
  | with_reducible refine g_fld ?_
  | with_reducible refine g_tup ?_
  | with_reducible refine g_lst ?_
  | with_reducible refine g_gtup ?_
  | with_reducible refine g_make ?_
  | with_reducible refine g_lc ?_
  | with_reducible refine g_yesT ?_
  | with_reducible refine g_intI ?_
  | with_reducible refine g_intB ?_
  | with_reducible refine g_max2 ?_
  | with_reducible refine g_abs1 ?_
  | with_reducible refine g_for ?_
  | with_reducible refine g_iList ?_
  | with_reducible refine g_iTup ?_
  | with_reducible refine g_iRng1 ?_
  | with_reducible refine g_iEnum ?_
  | with_reducible refine g_slice ?_
  | with_reducible refine g_po0 ?_
  | with_reducible refine g_po1 ?_
  | with_reducible refine g_gsub ?_
  | with_reducible refine g_par ?_
  | with_reducible refine g_par2 ?_
  | with_reducible refine g_rfl ?_
  | with_reducible refine g_meth ?_
  | with_reducible refine g_gcons ?_
  | with_reducible refine g_gnil ?_
  | with_reducible refine g_gfld ?_
  | with_reducible refine g_sfld ?_
  | with_reducible refine g_drop ?_
  | with_reducible refine g_next ?_
  | with_reducible refine iteT ?_
  | with_reducible refine iteF ?_)
local macro_rules | `(tactic| walk_at "go") => `(tactic| (repeat walk_at "u"))
local macro_rules | `(tactic| walk_at "f") => `(tactic| (repeat (first
  | walk_at "u"
  | with_reducible refine g_chain ?_
  | with_reducible refine g_par3 ?_
  | with_reducible refine g_par3' ?_
  | ((with_reducible refine show_ex ?_); first
    | refine fT (by assumption) (by assumption) ?_
    | refine fS (by assumption) (by assumption) ?_
    | refine fP (by assumption) (by assumption) ?_))))

section
variable {P : Program} {w : World} {K : PySem.W.Frag} {mg : Str → Option Value} {base : Heap} {C : Addr} {H : Hp} {Q : VK}
theorem num6 {H : Hp} {v : V} {x : FL} (h : FA C H v x) (o : x.ok) : NumAt C H v (.f x.s x.t x.p) := by
  obtain ⟨a, e, h⟩ := h
  exact ⟨a, e, h, o⟩
theorem g_ar6 {H : Hp} {Q : VK} {E : XK} {c : Str} {v u : V} {n m : Nm} (hc : Wd c) (hv : NumAt C H v n) (hu : NumAt C H u m) (bn : nBig n) (bm : nBig m) (hf : c = "div" ∨ isF n = true ∨ isF m = true) (q : RetN C H (byL c (toL n) (toL m)) Q) : sp_arith C ([.str c, v, u] ++ []) H Q E :=
  ⟨c, v, u, _, _, rfl, hc, hv, hu, bn, bm, hf, q⟩
theorem toL_ok6 (k : Int) : (toL (.i k)).ok := near_ok (tfS_sgn k) (by decide)
theorem big6 {k : Int} (h : k.natAbs < 2 ^ 70) : bigOk k := Nat.lt_of_lt_of_le h (Nat.pow_le_pow_right (by decide) (by decide))
theorem dm_ok {c : Str} {x y : FL} (hc : c = "mul" ∨ c = "div") (ox : x.ok) (oy : y.ok) : (byL c x y).ok := by
  have hs := mul_sgn ox.1 oy.1
  unfold byL
  split
  · exact nan_ok
  · rename_i hn
    have hx : x.t ≠ .str "nan" := fun z => hn (.inl z)
    have hy : y.t ≠ .str "nan" := fun z => hn (.inr z)
    have n1 : ¬ c = "add" := by rcases hc with rfl | rfl <;> decide +kernel
    have n2 : ¬ c = "sub" := by rcases hc with rfl | rfl <;> decide +kernel
    rw [if_neg n1, if_neg n2]
    split
    · unfold mulL
      split
      · split
        · exact nan_ok
        · exact inf_ok hs
      · rename_i h1
        obtain ⟨n, en, _⟩ := ox.fin hx fun z => h1 (.inl z)
        obtain ⟨m, em, _⟩ := oy.fin hy fun z => h1 (.inr z)
        exact near_ok hs (dd_pos (ox.small en).2.2 (oy.small em).2.2)
    · unfold divL
      split
      · split
        · exact nan_ok
        · exact inf_ok hs
      · rename_i h1
        split
        · exact zero_ok hs
        · rename_i h2
          split
          · split
            · exact nan_ok
            · exact inf_ok hs
          · rename_i h3
            obtain ⟨n, en, _⟩ := ox.fin hx h1
            obtain ⟨m, em, _⟩ := oy.fin hy h2
            have := Int.mul_ne_zero (Int.ne_of_gt (ox.small en).2.2) (nx_zero oy em h3)
            exact near_ok hs (by omega)
/-! rows of a number and its text -/
def RowAt (C : Addr) (H : Hp) (v : V) : Prop := ∃ (b : Addr) (x : V) (n : Nm) (z : Str), v = .ref b ∧ H b = some (.tup [x, .str z]) ∧ NumAt C H x n ∧ TxOk n ∧ txN n = z
def AllR (C : Addr) (H : Hp) (xs : List V) : Prop := ∀ v ∈ xs, RowAt C H v
theorem RowAt.same {H H' : Hp} {v : V} (h : RowAt C H v) (s : Same H H') : RowAt C H' v := by
  obtain ⟨b, x, n, z, e, hb, hn, ok, tx⟩ := h
  exact ⟨b, x, n, z, e, s _ _ hb, hn.same s, ok, tx⟩
theorem AllR.same {H H' : Hp} {xs : List V} (h : AllR C H xs) (s : Same H H') : AllR C H' xs := fun v m => (h v m).same s
theorem AllR.snoc {H : Hp} {xs : List V} {v : V} (h : AllR C H xs) (r : RowAt C H v) : AllR C H (xs ++ [v]) := fun u m => by
  rcases List.mem_append.mp m with m | m
  · exact h u m
  · rw [List.mem_singleton.mp m]; exact r
theorem AllR.app {H : Hp} {xs ys : List V} (h : AllR C H xs) (g : AllR C H ys) : AllR C H (xs ++ ys) := fun u m => (List.mem_append.mp m).elim (h u) (g u)
theorem sc_Lknownright : FnScope ["_law_rows", "_law_row"] [] (defScope s_Lknownright) := ⟨rfl, rfl, rfl, by decide +kernel, rfl, by decide +kernel, by decide +kernel⟩
abbrev CAr6 (P : Program) (w : World) (K : PySem.W.Frag) (mg : Str → Option Value) (base : Heap) (C : Addr) : Prop := Fn P w K mg base CX0 8 "arith" ["word", "one", "other"] [] (sp_arith C)
def sp_Lknown : Sp := fun vs H Q _ => vs = [] ∧ ∀ H', Same H H' → Q (.bl true) H'
theorem ok_Lknown {f : Addr} {fd : FuncData} (F : FunD K "_law_known_right" "_law_known_right" (defArgs s_Lknownright) (defBody s_Lknownright) (defScope s_Lknownright) [] [] f fd) (B : Blt mg) (T : FlC K mg C) (c_Float : CnF P w K mg base C) (c_textof : CTx P w K mg base C) (c_arith : CAr6 P w K mg base C) : FnOk P w K mg base CX0 9 f fd [] sp_Lknown := by
  refine F.ok sc_Lknownright (fun vs H Q E h => ?_) (fun cdv A outer s H vs Q E hr h => ?_)
  · obtain ⟨rfl, _⟩ := h; rfl
  · obtain ⟨rfl, q⟩ := h
    refine ⟨_, PSs.nox (pss_cons (ps_set (i := 0) sc_Lknownright.nd rfl (Or.inl rfl) (pe_lstN (pa_cons (pe_tupN (pa_cons (pe_cn c_Float (hr.mono (by first | decide | omega)) pass0 (pa_cons pe_int (pa_cons pe_int (pa_cons pe_int pa_nil)))) (pa_cons pe_str pa_nil))) (pa_cons (pe_tupN (pa_cons (pe_cn c_Float (hr.mono (by first | decide | omega)) pass0 (pa_cons (pe_un un_neg pe_int) (pa_cons pe_int (pa_cons (pe_un un_neg pe_int) pa_nil)))) (pa_cons pe_str pa_nil))) (pa_cons (pe_tupN (pa_cons (pe_cn c_Float (hr.mono (by first | decide | omega)) pass0 (pa_cons pe_int (pa_cons pe_int (pa_cons pe_int pa_nil)))) (pa_cons pe_str pa_nil))) pa_nil)))))
  (pss_cons (ps_set (i := 0) sc_Lknownright.nd rfl (Or.inl rfl) (pe_op op_oAdd (pv 0) (pe_lstN (pa_cons (pe_tupN (pa_cons (pe_cn c_Float (hr.mono (by first | decide | omega)) pass0 (pa_cons pe_int (pa_cons pe_int (pa_cons pe_int pa_nil)))) (pa_cons pe_str pa_nil))) (pa_cons (pe_tupN (pa_cons (pe_cn c_Float (hr.mono (by first | decide | omega)) pass0 (pa_cons pe_int (pa_cons pe_int (pa_cons pe_int pa_nil)))) (pa_cons pe_str pa_nil))) pa_nil)))))
  (pss_cons (ps_set (i := 0) sc_Lknownright.nd rfl (Or.inl rfl) (pe_op op_oAdd (pv 0) (pe_lstN (pa_cons (pe_tupN (pa_cons (pe_cn c_Float (hr.mono (by first | decide | omega)) pass0 (pa_cons pe_int (pa_cons pe_int (pa_cons pe_int pa_nil)))) (pa_cons pe_str pa_nil))) pa_nil))))
  (pss_cons (ps_set (i := 0) sc_Lknownright.nd rfl (Or.inl rfl) (pe_op op_oAdd (pv 0) (pe_lstN (pa_cons (pe_tupN (pa_cons (pe_cn c_Float (hr.mono (by first | decide | omega)) pass0 (pa_cons pe_int (pa_cons pe_int (pa_cons (pe_un un_neg pe_int) pa_nil)))) (pa_cons pe_str pa_nil))) (pa_cons (pe_tupN (pa_cons (pe_cn c_Float (hr.mono (by first | decide | omega)) pass0 (pa_cons pe_int (pa_cons pe_int (pa_cons (pe_un un_neg pe_int) pa_nil)))) (pa_cons pe_str pa_nil))) pa_nil)))))
  (pss_cons (ps_set (i := 0) sc_Lknownright.nd rfl (Or.inl rfl) (pe_op op_oAdd (pv 0) (pe_lstN (pa_cons (pe_tupN (pa_cons (pe_cn c_Float (hr.mono (by first | decide | omega)) pass0 (pa_cons pe_int (pa_cons pe_int (pa_cons (pe_un un_neg pe_int) pa_nil)))) (pa_cons pe_str pa_nil))) (pa_cons (pe_tupN (pa_cons (pe_fn c_arith (hr.mono (by first | decide | omega)) pass0 (pa_cons pe_str (pa_cons pe_int (pa_cons pe_int pa_nil)))) (pa_cons pe_str pa_nil))) pa_nil)))))
  (pss_cons (ps_set (i := 0) sc_Lknownright.nd rfl (Or.inl rfl) (pe_op op_oAdd (pv 0) (pe_lstN (pa_cons (pe_tupN (pa_cons (pe_cn c_Float (hr.mono (by first | decide | omega)) pass0 (pa_cons pe_int (pa_cons (pe_op op_oSub (pe_op op_oShl pe_int pe_int) pe_int) (pa_cons pe_int pa_nil)))) (pa_cons pe_str pa_nil))) (pa_cons (pe_tupN (pa_cons (pe_fn c_arith (hr.mono (by first | decide | omega)) pass0 (pa_cons pe_str (pa_cons pe_int (pa_cons pe_int pa_nil)))) (pa_cons pe_str pa_nil))) (pa_cons (pe_tupN (pa_cons (pe_un un_neg pe_int) (pa_cons pe_str pa_nil))) pa_nil))))))
  (pss_cons (ps_set (i := 0) sc_Lknownright.nd rfl (Or.inl rfl) (pe_op op_oAdd (pv 0) (pe_lstN (pa_cons (pe_tupN (pa_cons (pe_fn c_arith (hr.mono (by first | decide | omega)) pass0 (pa_cons pe_str (pa_cons (pe_op op_oPow pe_int pe_int) (pa_cons pe_int pa_nil)))) (pa_cons pe_str pa_nil))) (pa_cons (pe_tupN (pa_cons (pe_un un_neg (pe_op op_oShl pe_int pe_int)) (pa_cons pe_str pa_nil))) (pa_cons (pe_tupN (pa_cons pe_int (pa_cons pe_str pa_nil))) pa_nil))))))
  (pss_one (ps_ret (pe_cmpR (op_eqE hr.units) (pe_lc (own := [("_law_row", 1)]) (g := gName 1) rfl sc_Lknownright.nd (pi_list (pv 0)) (blkOk_by (own := [("_law_row", 1)]) (N := ["_law_rows", "_law_row"]) (sc := defScope s_Lknownright) (by decide +kernel)) (fun _ _ _ _ _ => pg_name (i := 1) sc_Lknownright.nd rfl (Or.inl rfl)) (fun _ _ _ _ _ => (pts_one (pt_cmpR (op_oNeE K rfl hr.units) (pe_fn c_textof (hr.mono (by first | decide | omega)) pass0 (pa_cons (pe_ix (ix_seqE K rfl) (pv 1) pe_int (fun _ _ => rfl)) pa_nil)) (pe_ix (ix_seqE K rfl) (pv 1) pe_int (fun _ _ => rfl)) (nomark _)))) (fun _ _ _ _ _ => (pv 1))) (pe_lstN pa_nil) (nomark _))))))))))), ?_⟩
    have hr2 : AllR C H [] := fun _ m => nomatch m
    have xr : AllR C H [] := fun _ m => nomatch m
    have S : Same H H := Same.refl _
    walk_at "f"
    walk_at "f"
    have k1 : MkOk (1) (.int ((1 : Nat) : Int)) (0) := mk_of_flok (.inl rfl) (by decide) (by decide) (by decide +kernel)
    refine mkF k1 fun H1 x1 n1 s1 h1 => ?_
    replace S := S.trans s1
    replace hr2 := hr2.same s1
    replace xr := xr.same s1
    walk_at "f"
    refine g_new (sz rfl) fun b2 H2 n2 s2 h2 _ => ?_
    have m2 := NumAt.same (show NumAt C H1 (.ref x1) (.f (1) (redV (.int ((1 : Nat) : Int)) (0)).1 (redV (.int ((1 : Nat) : Int)) (0)).2) from ⟨x1, rfl, h1, mk_flok k1⟩) s2
    replace S := S.trans s2
    replace hr2 := hr2.same s2
    replace xr := xr.same s2
    replace xr := xr.snoc (v := .ref b2) ⟨b2, _, _, _, rfl, h2, m2, tx_okay (mk_flok k1), by decide +kernel⟩
    walk_at "f"
    have k3 : MkOk (-1) (.int ((1 : Nat) : Int)) (-1) := mk_of_flok (.inr rfl) (by decide) (by decide) (by decide +kernel)
    refine mkF k3 fun H3 x3 n3 s3 h3 => ?_
    replace S := S.trans s3
    replace hr2 := hr2.same s3
    replace xr := xr.same s3
    walk_at "f"
    refine g_new (sz rfl) fun b4 H4 n4 s4 h4 _ => ?_
    have m4 := NumAt.same (show NumAt C H3 (.ref x3) (.f (-1) (redV (.int ((1 : Nat) : Int)) (-1)).1 (redV (.int ((1 : Nat) : Int)) (-1)).2) from ⟨x3, rfl, h3, mk_flok k3⟩) s4
    replace S := S.trans s4
    replace hr2 := hr2.same s4
    replace xr := xr.same s4
    replace xr := xr.snoc (v := .ref b4) ⟨b4, _, _, _, rfl, h4, m4, tx_okay (mk_flok k3), by decide +kernel⟩
    walk_at "f"
    have k5 : MkOk (1) (.int ((1 : Nat) : Int)) (53) := mk_of_flok (.inl rfl) (by decide) (by decide) (by decide +kernel)
    refine mkF k5 fun H5 x5 n5 s5 h5 => ?_
    replace S := S.trans s5
    replace hr2 := hr2.same s5
    replace xr := xr.same s5
    walk_at "f"
    refine g_new (sz rfl) fun b6 H6 n6 s6 h6 _ => ?_
    have m6 := NumAt.same (show NumAt C H5 (.ref x5) (.f (1) (redV (.int ((1 : Nat) : Int)) (53)).1 (redV (.int ((1 : Nat) : Int)) (53)).2) from ⟨x5, rfl, h5, mk_flok k5⟩) s6
    replace S := S.trans s6
    replace hr2 := hr2.same s6
    replace xr := xr.same s6
    replace xr := xr.snoc (v := .ref b6) ⟨b6, _, _, _, rfl, h6, m6, tx_okay (mk_flok k5), by decide +kernel⟩
    walk_at "f"
    refine g_new (sz rfl) fun l7 H7 n7 s7 h7 _ => ?_
    replace S := S.trans s7
    replace hr2 := hr2.same s7
    replace xr := xr.same s7
    have hl := h7
    replace hr2 : AllR C H7 _ := xr
    replace xr : AllR C H7 [] := fun _ m => nomatch m
    have T : Same H7 H7 := Same.refl _
    walk_at "f"
    have k8 : MkOk (1) (.int ((5 : Nat) : Int)) (1) := mk_of_flok (.inl rfl) (by decide) (by decide) (by decide +kernel)
    refine mkF k8 fun H8 x8 n8 s8 h8 => ?_
    replace S := S.trans s8
    replace T := T.trans s8
    replace hr2 := hr2.same s8
    replace xr := xr.same s8
    walk_at "f"
    refine g_new (sz rfl) fun b9 H9 n9 s9 h9 _ => ?_
    have m9 := NumAt.same (show NumAt C H8 (.ref x8) (.f (1) (redV (.int ((5 : Nat) : Int)) (1)).1 (redV (.int ((5 : Nat) : Int)) (1)).2) from ⟨x8, rfl, h8, mk_flok k8⟩) s9
    replace S := S.trans s9
    replace T := T.trans s9
    replace hr2 := hr2.same s9
    replace xr := xr.same s9
    replace xr := xr.snoc (v := .ref b9) ⟨b9, _, _, _, rfl, h9, m9, tx_okay (mk_flok k8), by decide +kernel⟩
    walk_at "f"
    have k10 : MkOk (1) (.int ((1 : Nat) : Int)) (46) := mk_of_flok (.inl rfl) (by decide) (by decide) (by decide +kernel)
    refine mkF k10 fun H10 x10 n10 s10 h10 => ?_
    replace S := S.trans s10
    replace T := T.trans s10
    replace hr2 := hr2.same s10
    replace xr := xr.same s10
    walk_at "f"
    refine g_new (sz rfl) fun b11 H11 n11 s11 h11 _ => ?_
    have m11 := NumAt.same (show NumAt C H10 (.ref x10) (.f (1) (redV (.int ((1 : Nat) : Int)) (46)).1 (redV (.int ((1 : Nat) : Int)) (46)).2) from ⟨x10, rfl, h10, mk_flok k10⟩) s11
    replace S := S.trans s11
    replace T := T.trans s11
    replace hr2 := hr2.same s11
    replace xr := xr.same s11
    replace xr := xr.snoc (v := .ref b11) ⟨b11, _, _, _, rfl, h11, m11, tx_okay (mk_flok k10), by decide +kernel⟩
    walk_at "f"
    refine g_new (sz rfl) fun l12 H12 n12 s12 h12 _ => ?_
    replace S := S.trans s12
    replace T := T.trans s12
    replace hr2 := hr2.same s12
    replace xr := xr.same s12
    refine .inl ⟨l7, l12, _, _, rfl, rfl, SqL.of (T _ _ hl), SqL.of h12, sz rfl, fun l13 H13 n13 s13 h13 _ => ?_⟩
    replace S := S.trans s13
    replace T := T.trans s13
    replace hr2 := hr2.same s13
    replace xr := xr.same s13
    have hl := h13
    replace hr2 := hr2.app xr
    replace xr : AllR C H13 [] := fun _ m => nomatch m
    have T : Same H13 H13 := Same.refl _
    walk_at "f"
    have k14 : MkOk (1) (.int ((1 : Nat) : Int)) (47) := mk_of_flok (.inl rfl) (by decide) (by decide) (by decide +kernel)
    refine mkF k14 fun H14 x14 n14 s14 h14 => ?_
    replace S := S.trans s14
    replace T := T.trans s14
    replace hr2 := hr2.same s14
    replace xr := xr.same s14
    walk_at "f"
    refine g_new (sz rfl) fun b15 H15 n15 s15 h15 _ => ?_
    have m15 := NumAt.same (show NumAt C H14 (.ref x14) (.f (1) (redV (.int ((1 : Nat) : Int)) (47)).1 (redV (.int ((1 : Nat) : Int)) (47)).2) from ⟨x14, rfl, h14, mk_flok k14⟩) s15
    replace S := S.trans s15
    replace T := T.trans s15
    replace hr2 := hr2.same s15
    replace xr := xr.same s15
    replace xr := xr.snoc (v := .ref b15) ⟨b15, _, _, _, rfl, h15, m15, tx_okay (mk_flok k14), by decide +kernel⟩
    walk_at "f"
    refine g_new (sz rfl) fun l16 H16 n16 s16 h16 _ => ?_
    replace S := S.trans s16
    replace T := T.trans s16
    replace hr2 := hr2.same s16
    replace xr := xr.same s16
    refine .inl ⟨l13, l16, _, _, rfl, rfl, SqL.of (T _ _ hl), SqL.of h16, sz rfl, fun l17 H17 n17 s17 h17 _ => ?_⟩
    replace S := S.trans s17
    replace T := T.trans s17
    replace hr2 := hr2.same s17
    replace xr := xr.same s17
    have hl := h17
    replace hr2 := hr2.app xr
    replace xr : AllR C H17 [] := fun _ m => nomatch m
    have T : Same H17 H17 := Same.refl _
    walk_at "f"
    have k18 : MkOk (1) (.int ((1 : Nat) : Int)) (-13) := mk_of_flok (.inl rfl) (by decide) (by decide) (by decide +kernel)
    refine mkF k18 fun H18 x18 n18 s18 h18 => ?_
    replace S := S.trans s18
    replace T := T.trans s18
    replace hr2 := hr2.same s18
    replace xr := xr.same s18
    walk_at "f"
    refine g_new (sz rfl) fun b19 H19 n19 s19 h19 _ => ?_
    have m19 := NumAt.same (show NumAt C H18 (.ref x18) (.f (1) (redV (.int ((1 : Nat) : Int)) (-13)).1 (redV (.int ((1 : Nat) : Int)) (-13)).2) from ⟨x18, rfl, h18, mk_flok k18⟩) s19
    replace S := S.trans s19
    replace T := T.trans s19
    replace hr2 := hr2.same s19
    replace xr := xr.same s19
    replace xr := xr.snoc (v := .ref b19) ⟨b19, _, _, _, rfl, h19, m19, tx_okay (mk_flok k18), by decide +kernel⟩
    walk_at "f"
    have k20 : MkOk (1) (.int ((1 : Nat) : Int)) (-14) := mk_of_flok (.inl rfl) (by decide) (by decide) (by decide +kernel)
    refine mkF k20 fun H20 x20 n20 s20 h20 => ?_
    replace S := S.trans s20
    replace T := T.trans s20
    replace hr2 := hr2.same s20
    replace xr := xr.same s20
    walk_at "f"
    refine g_new (sz rfl) fun b21 H21 n21 s21 h21 _ => ?_
    have m21 := NumAt.same (show NumAt C H20 (.ref x20) (.f (1) (redV (.int ((1 : Nat) : Int)) (-14)).1 (redV (.int ((1 : Nat) : Int)) (-14)).2) from ⟨x20, rfl, h20, mk_flok k20⟩) s21
    replace S := S.trans s21
    replace T := T.trans s21
    replace hr2 := hr2.same s21
    replace xr := xr.same s21
    replace xr := xr.snoc (v := .ref b21) ⟨b21, _, _, _, rfl, h21, m21, tx_okay (mk_flok k20), by decide +kernel⟩
    walk_at "f"
    refine g_new (sz rfl) fun l22 H22 n22 s22 h22 _ => ?_
    replace S := S.trans s22
    replace T := T.trans s22
    replace hr2 := hr2.same s22
    replace xr := xr.same s22
    refine .inl ⟨l17, l22, _, _, rfl, rfl, SqL.of (T _ _ hl), SqL.of h22, sz rfl, fun l23 H23 n23 s23 h23 _ => ?_⟩
    replace S := S.trans s23
    replace T := T.trans s23
    replace hr2 := hr2.same s23
    replace xr := xr.same s23
    have hl := h23
    replace hr2 := hr2.app xr
    replace xr : AllR C H23 [] := fun _ m => nomatch m
    have T : Same H23 H23 := Same.refl _
    walk_at "f"
    have k24 : MkOk (1) (.int ((1 : Nat) : Int)) (-1074) := mk_of_flok (.inl rfl) (by decide) (by decide) (by decide +kernel)
    refine mkF k24 fun H24 x24 n24 s24 h24 => ?_
    replace S := S.trans s24
    replace T := T.trans s24
    replace hr2 := hr2.same s24
    replace xr := xr.same s24
    walk_at "f"
    refine g_new (sz rfl) fun b25 H25 n25 s25 h25 _ => ?_
    have m25 := NumAt.same (show NumAt C H24 (.ref x24) (.f (1) (redV (.int ((1 : Nat) : Int)) (-1074)).1 (redV (.int ((1 : Nat) : Int)) (-1074)).2) from ⟨x24, rfl, h24, mk_flok k24⟩) s25
    replace S := S.trans s25
    replace T := T.trans s25
    replace hr2 := hr2.same s25
    replace xr := xr.same s25
    replace xr := xr.snoc (v := .ref b25) ⟨b25, _, _, _, rfl, h25, m25, tx_okay (mk_flok k24), by decide +kernel⟩
    walk_at "f"
    refine g_ar6 (n := .i 1) (m := .i 3) (.inr (.inr (.inr rfl))) rfl rfl (big6 (by decide)) (big6 (by decide)) (.inl rfl) fun H26 v26 s26 h26 => ?_
    have o26 := dm_ok (c := "div") (.inr rfl) (toL_ok6 1) (toL_ok6 3)
    replace S := S.trans s26
    replace T := T.trans s26
    replace hr2 := hr2.same s26
    replace xr := xr.same s26
    walk_at "f"
    refine g_new (sz rfl) fun b27 H27 n27 s27 h27 _ => ?_
    have m27 := NumAt.same (num6 h26 o26) s27
    replace S := S.trans s27
    replace T := T.trans s27
    replace hr2 := hr2.same s27
    replace xr := xr.same s27
    replace xr := xr.snoc (v := .ref b27) ⟨b27, _, _, _, rfl, h27, m27, tx_okay o26, by decide +kernel⟩
    walk_at "f"
    refine g_new (sz rfl) fun l28 H28 n28 s28 h28 _ => ?_
    replace S := S.trans s28
    replace T := T.trans s28
    replace hr2 := hr2.same s28
    replace xr := xr.same s28
    refine .inl ⟨l23, l28, _, _, rfl, rfl, SqL.of (T _ _ hl), SqL.of h28, sz rfl, fun l29 H29 n29 s29 h29 _ => ?_⟩
    replace S := S.trans s29
    replace T := T.trans s29
    replace hr2 := hr2.same s29
    replace xr := xr.same s29
    have hl := h29
    replace hr2 := hr2.app xr
    replace xr : AllR C H29 [] := fun _ m => nomatch m
    have T : Same H29 H29 := Same.refl _
    walk_at "f"
    refine g_II (shl_small (by decide) (by decide) (lt_pow_mono (a := 1) (by decide) (by decide))) ?_
    walk_at "f"
    rw [show (1 : Int) * 2 ^ Int.toNat 53 - 1 = ((9007199254740991 : Nat) : Int) by decide]
    walk_at "f"
    have k30 : MkOk (1) (.int ((9007199254740991 : Nat) : Int)) (971) := mk_of_flok (.inl rfl) (by decide) (by decide) (by decide +kernel)
    refine mkF k30 fun H30 x30 n30 s30 h30 => ?_
    replace S := S.trans s30
    replace T := T.trans s30
    replace hr2 := hr2.same s30
    replace xr := xr.same s30
    walk_at "f"
    refine g_new (sz rfl) fun b31 H31 n31 s31 h31 _ => ?_
    have m31 := NumAt.same (show NumAt C H30 (.ref x30) (.f (1) (redV (.int ((9007199254740991 : Nat) : Int)) (971)).1 (redV (.int ((9007199254740991 : Nat) : Int)) (971)).2) from ⟨x30, rfl, h30, mk_flok k30⟩) s31
    replace S := S.trans s31
    replace T := T.trans s31
    replace hr2 := hr2.same s31
    replace xr := xr.same s31
    replace xr := xr.snoc (v := .ref b31) ⟨b31, _, _, _, rfl, h31, m31, tx_okay (mk_flok k30), by decide +kernel⟩
    walk_at "f"
    refine g_ar6 (n := .i 1) (m := .i 10) (.inr (.inr (.inr rfl))) rfl rfl (big6 (by decide)) (big6 (by decide)) (.inl rfl) fun H32 v32 s32 h32 => ?_
    have o32 := dm_ok (c := "div") (.inr rfl) (toL_ok6 1) (toL_ok6 10)
    replace S := S.trans s32
    replace T := T.trans s32
    replace hr2 := hr2.same s32
    replace xr := xr.same s32
    walk_at "f"
    refine g_new (sz rfl) fun b33 H33 n33 s33 h33 _ => ?_
    have m33 := NumAt.same (num6 h32 o32) s33
    replace S := S.trans s33
    replace T := T.trans s33
    replace hr2 := hr2.same s33
    replace xr := xr.same s33
    replace xr := xr.snoc (v := .ref b33) ⟨b33, _, _, _, rfl, h33, m33, tx_okay o32, by decide +kernel⟩
    walk_at "f"
    walk_at "f"
    refine g_new (sz rfl) fun b34 H34 n34 s34 h34 _ => ?_
    have m34 := NumAt.same (show NumAt C H33 (.int (-7)) (.i (-7)) from rfl) s34
    replace S := S.trans s34
    replace T := T.trans s34
    replace hr2 := hr2.same s34
    replace xr := xr.same s34
    replace xr := xr.snoc (v := .ref b34) ⟨b34, _, _, _, rfl, h34, m34, ⟨by decide +kernel, by decide +kernel⟩, by decide +kernel⟩
    walk_at "f"
    refine g_new (sz rfl) fun l35 H35 n35 s35 h35 _ => ?_
    replace S := S.trans s35
    replace T := T.trans s35
    replace hr2 := hr2.same s35
    replace xr := xr.same s35
    refine .inl ⟨l29, l35, _, _, rfl, rfl, SqL.of (T _ _ hl), SqL.of h35, sz rfl, fun l36 H36 n36 s36 h36 _ => ?_⟩
    replace S := S.trans s36
    replace T := T.trans s36
    replace hr2 := hr2.same s36
    replace xr := xr.same s36
    have hl := h36
    replace hr2 := hr2.app xr
    replace xr : AllR C H36 [] := fun _ m => nomatch m
    have T : Same H36 H36 := Same.refl _
    walk_at "f"
    refine g_II ⟨by decide, by decide, by decide⟩ ?_
    walk_at "f"
    rw [show (10 : Int) ^ Int.toNat 15 = 1000000000000000 by decide]
    refine g_ar6 (n := .i 1000000000000000) (m := .i 1) (.inr (.inr (.inr rfl))) rfl rfl (big6 (by decide)) (big6 (by decide)) (.inl rfl) fun H37 v37 s37 h37 => ?_
    have o37 := dm_ok (c := "div") (.inr rfl) (toL_ok6 1000000000000000) (toL_ok6 1)
    replace S := S.trans s37
    replace T := T.trans s37
    replace hr2 := hr2.same s37
    replace xr := xr.same s37
    walk_at "f"
    refine g_new (sz rfl) fun b38 H38 n38 s38 h38 _ => ?_
    have m38 := NumAt.same (num6 h37 o37) s38
    replace S := S.trans s38
    replace T := T.trans s38
    replace hr2 := hr2.same s38
    replace xr := xr.same s38
    replace xr := xr.snoc (v := .ref b38) ⟨b38, _, _, _, rfl, h38, m38, tx_okay o37, by decide +kernel⟩
    walk_at "f"
    refine g_II (shl_small (by decide) (by decide) (lt_pow_mono (a := 1) (by decide) (by decide))) ?_
    walk_at "f"
    rw [show -((1 : Int) * 2 ^ Int.toNat 63) = -9223372036854775808 by decide]
    walk_at "f"
    refine g_new (sz rfl) fun b39 H39 n39 s39 h39 _ => ?_
    have m39 := NumAt.same (show NumAt C H38 (.int (-9223372036854775808)) (.i (-9223372036854775808)) from rfl) s39
    replace S := S.trans s39
    replace T := T.trans s39
    replace hr2 := hr2.same s39
    replace xr := xr.same s39
    replace xr := xr.snoc (v := .ref b39) ⟨b39, _, _, _, rfl, h39, m39, ⟨by decide +kernel, by decide +kernel⟩, by decide +kernel⟩
    walk_at "f"
    walk_at "f"
    refine g_new (sz rfl) fun b40 H40 n40 s40 h40 _ => ?_
    have m40 := NumAt.same (show NumAt C H39 (.int (0)) (.i (0)) from rfl) s40
    replace S := S.trans s40
    replace T := T.trans s40
    replace hr2 := hr2.same s40
    replace xr := xr.same s40
    replace xr := xr.snoc (v := .ref b40) ⟨b40, _, _, _, rfl, h40, m40, ⟨by decide +kernel, by decide +kernel⟩, by decide +kernel⟩
    walk_at "f"
    refine g_new (sz rfl) fun l41 H41 n41 s41 h41 _ => ?_
    replace S := S.trans s41
    replace T := T.trans s41
    replace hr2 := hr2.same s41
    replace xr := xr.same s41
    refine .inl ⟨l36, l41, _, _, rfl, rfl, SqL.of (T _ _ hl), SqL.of h41, sz rfl, fun l42 H42 n42 s42 h42 _ => ?_⟩
    replace S := S.trans s42
    replace T := T.trans s42
    replace hr2 := hr2.same s42
    replace xr := xr.same s42
    have hl := h42
    replace hr2 := hr2.app xr
    replace xr : AllR C H42 [] := fun _ m => nomatch m
    have T : Same H42 H42 := Same.refl _
    obtain ⟨xs, hxs⟩ : ∃ xs, H42 l42 = some (.lst xs) ∧ AllR C H42 xs ∧ xs.length ≤ 100 := ⟨_, hl, hr2, by simp⟩
    obtain ⟨hl, hr2, hlen⟩ := hxs
    walk_at "f"
    refine ⟨l42, rfl, ⟨_, SqL.of hl⟩, fun D nD => ?_⟩
    refine lc_list (K := K) (a := l42) (xs := xs) (fun i H' => Same H42 H' ∧ H' D = some (.lst [])) ⟨upd_sm (Same.refl _) nD, upd_same⟩ ?_ ?_ ?_
    · rintro i H' _ ⟨s1, _⟩
      exact SqL.of (s1 _ _ hl)
    · rintro i z H' hz ⟨s1, d1⟩
      obtain ⟨b, x, n, y, rfl, hb, hn, ok, tx⟩ := (hr2 z (List.mem_of_getElem? hz)).same s1
      walk_at "f"
      refine ⟨rfl, ?_⟩
      walk_at "f"
      refine g_ixT hb (atI_of (by decide) rfl) ?_
      walk_at "f"
      refine ⟨x, n, rfl, hn, ok, fun H1 s2 => ?_⟩
      rw [tx]
      walk_at "f"
      refine g_ixT (s2 _ _ hb) (atI_of (by decide) rfl) ?_
      walk_at "f"
      rw [decide_eq_true rfl]
      walk_at "f"
      exact ⟨s1.trans s2, s2 _ _ d1⟩
    · rintro H' ⟨s1, d1⟩
      walk_at "f"
      refine g_new (sz rfl) fun a2 H3 na s3 ha _ => ?_
      refine g_eqE (s3 _ _ d1) ha ?_
      exact q _ ((S.trans s1).trans s3)
end
end Up

set_option Elab.async false
set_option linter.all false
set_option maxRecDepth 100000
set_option maxHeartbeats 4000000
set_option exponentiation.threshold 200000
namespace Up
open PySem PySem.Spec PyProof.Rows L2
local macro_rules | `(tactic| walk_at "u") => `(tactic| first
  | with_reducible refine g_seq ?_
  | with_reducible refine g_asg ?_
  | with_reducible refine g_op ?_
  | ((with_reducible show tVar _ _ _ _); apply g_var; exact rfl)
  | with_reducible refine g_c ?_
  | with_reducible refine g_name ?_
  | with_reducible refine g_ifs ?_
  | with_reducible refine g_tt ?_
  | with_reducible refine g_tB ?_
  | with_reducible refine g_bl ?_
  | with_reducible refine g_ret ?_
  | with_reducible refine g_cb ?_
  | with_reducible refine g_cons ?_
  | with_reducible refine g_nil ?_
  | with_reducible refine g_call ?_
  | with_reducible refine g_and ?_
  | with_reducible refine g_or ?_
  | with_reducible refine g_not ?_
  | with_reducible refine g_andV ?_
  | with_reducible refine g_orV ?_
  | with_reducible refine g_notV ?_
  | with_reducible refine g_if ?_
  | with_reducible refine g_un ?_
  | with_reducible refine g_neg ?_
  | with_reducible refine g_addI ?_
  | with_reducible refine g_subI ?_
  | with_reducible refine g_subB ?_
  | with_reducible refine g_I0 ?_
  | with_reducible refine g_cmpI ?_
  | with_reducible refine g_eqI ?_
  | with_reducible refine g_neI ?_
  | with_reducible refine g_eqS ?_
  | with_reducible refine g_neS ?_
  | with_reducible refine g_eqB ?_
  | with_reducible refine g_neB ?_
  | with_reducible refine g_bits ?_
  | with_reducible refine g_bitsI ?_
  | with_reducible refine g_fld ?_
  | with_reducible refine g_tup ?_
  | with_reducible refine g_lst ?_
  | with_reducible refine g_gtup ?_
  | with_reducible refine g_make ?_
  | with_reducible refine g_lc ?_
  | with_reducible refine g_yesT ?_
  | with_reducible refine g_intI ?_
  | with_reducible refine g_intB ?_
  | with_reducible refine g_max2 ?_
  | with_reducible refine g_abs1 ?_
  | with_reducible refine g_for ?_
  | with_reducible refine g_iList ?_
  | with_reducible refine g_iTup ?_
  | with_reducible refine g_iRng1 ?_
  | with_reducible refine g_iEnum ?_
  | with_reducible refine g_slice ?_
  | with_reducible refine g_po0 ?_
  | with_reducible refine g_po1 ?_
  | with_reducible refine g_gsub ?_
  | with_reducible refine g_par ?_
  | with_reducible refine g_par2 ?_
  | with_reducible refine g_rfl ?_
  | with_reducible refine g_meth ?_
  | with_reducible refine g_gcons ?_
  | with_reducible refine g_gnil ?_
  | with_reducible refine g_gfld ?_
  | with_reducible refine g_sfld ?_
  | with_reducible refine g_drop ?_
  | with_reducible refine g_next ?_
  | with_reducible refine iteT ?_
  | with_reducible refine iteF ?_)
local macro_rules | `(tactic| walk_at "go") => `(tactic| (repeat walk_at "u"))

section
variable {P : Program} {w : World} {K : PySem.W.Frag} {mg : Str → Option Value} {base : Heap} {C : Addr}
/-! _law_finite -/
theorem sc_Lfinite : FnScope ["_law_well_here", "_law_sign", "_law_way", "_law_some"] ["_law_well_here"] (defScope s_Lfinite) := ⟨rfl, rfl, rfl, by decide +kernel, rfl, by decide +kernel, by decide +kernel⟩
def FinD (s t p : Int) : Prop := (s = 1 ∨ s = -1) ∧ 0 ≤ t ∧ t < 2 ^ 53 ∧ -1074 ≤ p ∧ p ≤ 971
def sp_Lfinite : Sp := fun vs H Q _ => ∃ (a : Addr), vs = [.ref a] ∧ Well H a ∧ ∀ b H' s t p, H b = none → Stp a H H' → Well H' a → H' b = some (.tup [.int s, .int t, .int p]) → FinD s t p → Q (.ref b) H'
theorem pow53 {k : Int} {n : Nat} (h : k < 2 ^ n) (hn : n ≤ 53) : k < 2 ^ 53 := by
  have : (2 : Int) ^ n ≤ 2 ^ 53 := by exact_mod_cast Nat.pow_le_pow_right (show 0 < 2 by decide) hn
  omega
theorem ok_Lfinite {f : Addr} {fd : FuncData} (F : FunD K "_law_finite" "_law_finite" (defArgs s_Lfinite) (defBody s_Lfinite) (defScope s_Lfinite) [] [] f fd) (B : Blt mg) (c_Ldraw : Fn P w K mg base CX0 1 "_law_draw" ["_law_well_here", "_law_many"] [] sp_Ldraw) (c_Lone : Fn P w K mg base CX0 2 "_law_one" ["_law_well_here", "_law_some"] [] sp_Lone)
    (c_Lgreat : Fn P w K mg base CX0 2 "_law_great" ["_law_well_here", "_law_bits"] [] sp_Lgreat) : FnOk P w K mg base CX0 3 f fd ["_law_well_here"] sp_Lfinite := by
  refine F.ok sc_Lfinite (fun vs H Q E h => ?_) (fun cdv A outer s H vs Q E hr h => ?_)
  · obtain ⟨a, rfl, _⟩ := h; rfl
  · obtain ⟨a, rfl, hw, q⟩ := h
    refine ⟨_, PSs.nox (pss_cons (ps_par (i := 1) (j := 2) rfl sc_Lfinite.nd rfl rfl (by decide) rfl rfl (pa_cons (pe_fn c_Lone (hr.mono (by first | decide | omega)) pass0 (pa_cons (pv 0) (pa_cons (pe_lstN (pa_cons pe_int (pa_cons (pe_un un_neg pe_int) pa_nil))) pa_nil))) (pa_cons (pe_fn c_Ldraw (hr.mono (by first | decide | omega)) pass0 (pa_cons (pv 0) (pa_cons pe_int pa_nil))) pa_nil)) (by rfl))
  (pss_cons (ps_if (pt_cmpR (op_oEq hr.units) (pv 2) pe_int (nomark _)) (pss_one (ps_ret (pe_tupN (pa_cons (pv 1) (pa_cons pe_int (pa_cons pe_int pa_nil)))))) pss_nil)
  (pss_cons (ps_if (pt_cmpR op_oLt (pv 2) pe_int (nomark _)) (pss_one (ps_ret (pe_tupN (pa_cons (pv 1) (pa_cons (pe_fn c_Ldraw (hr.mono (by first | decide | omega)) pass0 (pa_cons (pv 0) (pa_cons pe_int pa_nil))) (pa_cons (pe_fn c_Lone (hr.mono (by first | decide | omega)) pass0 (pa_cons (pv 0) (pa_cons (pe_lstN (pa_cons pe_int (pa_cons pe_int (pa_cons (pe_un un_neg pe_int) (pa_cons (pe_un un_neg pe_int) pa_nil))))) pa_nil))) pa_nil)))))) pss_nil)
  (pss_cons (ps_set (i := 3) sc_Lfinite.nd rfl (Or.inl rfl) (pe_lstN (pa_cons (pe_op op_oSub (pe_fn c_Ldraw (hr.mono (by first | decide | omega)) pass0 (pa_cons (pv 0) (pa_cons pe_int pa_nil))) pe_int) (pa_cons (pe_op op_oSub pe_int (pe_fn c_Ldraw (hr.mono (by first | decide | omega)) pass0 (pa_cons (pv 0) (pa_cons pe_int pa_nil)))) (pa_cons (pe_fn c_Ldraw (hr.mono (by first | decide | omega)) pass0 (pa_cons (pv 0) (pa_cons pe_int pa_nil))) (pa_cons (pe_op op_oSub pe_int (pe_fn c_Ldraw (hr.mono (by first | decide | omega)) pass0 (pa_cons (pv 0) (pa_cons pe_int pa_nil)))) pa_nil))))))
  (pss_cons (ps_set (i := 3) sc_Lfinite.nd rfl (Or.inl rfl) (pe_op op_oAdd (pv 3) (pe_lstN (pa_cons (pe_op op_oSub (pe_un un_neg pe_int) (pe_fn c_Ldraw (hr.mono (by first | decide | omega)) pass0 (pa_cons (pv 0) (pa_cons pe_int pa_nil)))) (pa_cons (pe_op op_oSub (pe_fn c_Ldraw (hr.mono (by first | decide | omega)) pass0 (pa_cons (pv 0) (pa_cons pe_int pa_nil))) pe_int) pa_nil)))))
  (pss_one (ps_ret (pe_tupN (pa_cons (pv 1) (pa_cons (pe_fn c_Lgreat (hr.mono (by first | decide | omega)) pass0 (pa_cons (pv 0) (pa_cons (pe_fn c_Lone (hr.mono (by first | decide | omega)) pass0 (pa_cons (pv 0) (pa_cons (pe_lstN (pa_cons pe_int (pa_cons pe_int (pa_cons pe_int (pa_cons pe_int pa_nil))))) pa_nil))) pa_nil))) (pa_cons (pe_callB (call_min2 rfl) (by rfl) B.min (by decide +kernel) (pa_cons pe_int (pa_cons (pe_fn c_Lone (hr.mono (by first | decide | omega)) pass0 (pa_cons (pv 0) (pa_cons (pv 3) pa_nil))) pa_nil))) pa_nil))))))))))), ?_⟩
    walk_at "go"
    refine g_new (sz rfl) fun l1 H1 n1 s1 h1 _ => ?_
    refine ⟨a, l1, _, rfl, hw.same s1, h1, hw.ne_none n1, by decide, by decide, fun v H2 hv s2 hw2 => ?_⟩
    have S2 := (Stp.of (w := a) s1).trans s2
    obtain ⟨sg, rfl, hs⟩ : ∃ sg, v = .int sg ∧ (sg = 1 ∨ sg = -1) := by
      simp only [List.mem_cons, List.not_mem_nil, or_false] at hv
      rcases hv with rfl | rfl
      · exact ⟨_, rfl, .inl rfl⟩
      · exact ⟨_, rfl, .inr rfl⟩
    walk_at "go"
    refine ⟨a, _, rfl, by decide, by decide, hw2, fun k H3 k0 k1 s3 hw3 => ?_⟩
    have S3 := S2.trans s3
    walk_at "go"
    refine g_ite (fun hk => ?_) fun hk => ?_
    · walk_at "go"
      refine g_new (sz rfl) fun b H4 n4 s4 h4 _ => ?_
      exact q b H4 _ _ _ (S3.free hw3 n4) (S3.trans (Stp.of s4)) (hw3.same s4) h4 ⟨hs, by decide, by decide, by decide, by decide⟩
    · walk_at "go"
      refine g_ite (fun hk4 => ?_) fun hk4 => ?_
      · walk_at "go"
        refine ⟨a, _, rfl, by decide, by decide, hw3, fun t H4 t0 t1 s4 hw4 => ?_⟩
        have S4 := S3.trans s4
        walk_at "go"
        refine g_new (sz rfl) fun l5 H5 n5 s5 h5 _ => ?_
        refine ⟨a, l5, _, rfl, hw4.same s5, h5, hw4.ne_none n5, by decide, by decide, fun v H6 hv s6 hw6 => ?_⟩
        have S6 := (S4.trans (Stp.of s5)).trans s6
        obtain ⟨p, rfl, hp⟩ : ∃ p, v = .int p ∧ -1074 ≤ p ∧ p ≤ 971 := by
          simp only [List.mem_cons, List.not_mem_nil, or_false] at hv
          rcases hv with rfl | rfl | rfl | rfl <;> exact ⟨_, rfl, by decide, by decide⟩
        walk_at "go"
        refine g_new (sz rfl) fun b H7 n7 s7 h7 _ => ?_
        exact q b H7 _ _ _ (S6.free hw6 n7) (S6.trans (Stp.of s7)) (hw6.same s7) h7 ⟨hs, t0, by omega, hp.1, hp.2⟩
      · walk_at "go"
        refine ⟨a, _, rfl, by decide, by decide, hw3, fun d1 H4 a1 b1 s4 hw4 => ?_⟩
        walk_at "go"
        refine ⟨a, _, rfl, by decide, by decide, hw4, fun d2 H5 a2 b2 s5 hw5 => ?_⟩
        walk_at "go"
        refine ⟨a, _, rfl, by decide, by decide, hw5, fun d3 H6 a3 b3 s6 hw6 => ?_⟩
        walk_at "go"
        refine ⟨a, _, rfl, by decide, by decide, hw6, fun d4 H7 a4 b4 s7 hw7 => ?_⟩
        have S7 := (((S3.trans s4).trans s5).trans s6).trans s7
        walk_at "go"
        refine g_new (sz rfl) fun l8 H8 n8 s8 h8 _ => ?_
        have S8 := S7.trans (Stp.of s8)
        have hw8 := hw7.same s8
        have l8a := hw7.ne_none n8
        walk_at "go"
        refine ⟨a, _, rfl, by decide, by decide, hw8, fun d5 H9 a5 b5 s9 hw9 => ?_⟩
        walk_at "go"
        refine ⟨a, _, rfl, by decide, by decide, hw9, fun d6 H10 a6 b6 s10 hw10 => ?_⟩
        have S10 := (S8.trans s9).trans s10
        have h8b := s10 _ _ l8a (s9 _ _ l8a h8)
        walk_at "go"
        refine g_new (sz rfl) fun l11 H11 n11 s11 h11 _ => ?_
        refine .inl ⟨l8, l11, _, _, rfl, rfl, SqL.of (s11 _ _ h8b), SqL.of h11, sz rfl, fun l12 H12 n12 s12 h12 _ => ?_⟩
        have S12 := (S10.trans (Stp.of s11)).trans (Stp.of s12)
        have hw12 := (hw10.same s11).same s12
        have l12a := (hw10.same s11).ne_none n12
        walk_at "go"
        refine g_new (sz rfl) fun l13 H13 n13 s13 h13 _ => ?_
        refine ⟨a, l13, _, rfl, hw12.same s13, h13, hw12.ne_none n13, by decide, by decide, fun v H14 hv s14 hw14 => ?_⟩
        have S14 := (S12.trans (Stp.of s13)).trans s14
        obtain ⟨p, rfl, hp⟩ : ∃ p, v = .int p ∧ 0 ≤ p ∧ p ≤ 53 := by
          simp only [List.mem_cons, List.not_mem_nil, or_false] at hv
          rcases hv with rfl | rfl | rfl | rfl <;> exact ⟨_, rfl, by decide, by decide⟩
        walk_at "go"
        refine ⟨a, p, rfl, hp.1, by omega, hw14, fun t H15 t0 t1 s15 hw15 => ?_⟩
        have S15 := S14.trans s15
        have h12b := s15 _ _ l12a (s14 _ _ l12a (s13 _ _ h12))
        walk_at "go"
        refine ⟨a, l12, _, rfl, hw15, h12b, l12a, Nat.lt_of_lt_of_le (by decide : 0 < 6) (Nat.le_refl _), Nat.lt_of_le_of_lt (Nat.le_refl 6) (by decide), fun v H16 hv s16 hw16 => ?_⟩
        have S16 := S15.trans s16
        obtain ⟨u, rfl, hu⟩ : ∃ u, v = .int u ∧ -1074 ≤ u ∧ u ≤ 971 := by
          simp only [List.mem_append, List.mem_cons, List.not_mem_nil, or_false] at hv
          rcases hv with (rfl | rfl | rfl | rfl) | (rfl | rfl) <;> exact ⟨_, rfl, by omega, by omega⟩
        walk_at "go"
        refine g_new (sz rfl) fun b H17 n17 s17 h17 _ => ?_
        refine q b H17 _ _ _ (S16.free hw16 n17) (S16.trans (Stp.of s17)) (hw16.same s17) h17 ⟨hs, t0, pow53 t1 (by omega), ?_, ?_⟩
        · split <;> omega
        · split <;> omega
/-! _law_float -/
theorem sc_Lfloat : FnScope ["_law_well_here", "_law_sign", "_law_top", "_law_power"] ["_law_well_here"] (defScope s_Lfloat) := ⟨rfl, rfl, rfl, by decide +kernel, rfl, by decide +kernel, by decide +kernel⟩
theorem FlAt.stp {a b : Addr} {H H' : Hp} {s : Int} {t : V} {p : Int} (h : FlAt C H b s t p) (hw : Well H a) (e : Stp a H H') : FlAt C H' b s t p := by
  obtain ⟨dx, h⟩ := h
  exact ⟨dx, e.ins hw h⟩
theorem NumAt.stp {a : Addr} {H H' : Hp} {v : V} (hw : Well H a) (e : Stp a H H') : ∀ {n : Nm}, NumAt C H v n → NumAt C H' v n
  | .i _, h => h
  | .f _ _ _, ⟨b, z, h, k⟩ => ⟨b, z, h.stp hw e, k⟩
theorem mk_nan : MkOk 1 (.str "nan") 0 := ⟨.inl rfl, .inl ⟨rfl, rfl, rfl⟩⟩
theorem FinD.mk {s t p : Int} (h : FinD s t p) : MkOk s (.int t) p := by
  obtain ⟨hs, t0, t1, p0, p1⟩ := h
  obtain ⟨n, rfl⟩ := Int.eq_ofNat_of_zero_le t0
  have hb : bitsN n ≤ 53 := bits_le (by omega)
  exact mk_of_flok hs (by omega) p0 (by omega)
def sp_Lfloat (C : Addr) : Sp := fun vs H Q _ => ∃ (a : Addr), vs = [.ref a] ∧ Well H a ∧ ∀ v H' s t p, Stp a H H' → Well H' a → NumAt C H' v (.f s t p) → Q v H'
theorem ok_Lfloat {f : Addr} {fd : FuncData} (F : FunD K "_law_float" "_law_float" (defArgs s_Lfloat) (defBody s_Lfloat) (defScope s_Lfloat) [] [] f fd) (B : Blt mg) (c_Float : CnF P w K mg base C) (c_Ldraw : Fn P w K mg base CX0 1 "_law_draw" ["_law_well_here", "_law_many"] [] sp_Ldraw) (c_Lone : Fn P w K mg base CX0 2 "_law_one" ["_law_well_here", "_law_some"] [] sp_Lone)
    (c_Lfinite : Fn P w K mg base CX0 3 "_law_finite" ["_law_well_here"] [] sp_Lfinite) : FnOk P w K mg base CX0 4 f fd ["_law_well_here"] (sp_Lfloat C) := by
  refine F.ok sc_Lfloat (fun vs H Q E h => ?_) (fun cdv A outer s H vs Q E hr h => ?_)
  · obtain ⟨a, rfl, _⟩ := h; rfl
  · obtain ⟨a, rfl, hw, q⟩ := h
    refine ⟨_, PSs.nox (pss_cons (ps_if (pt_cmpR (op_oEq hr.units) (pe_fn c_Ldraw (hr.mono (by first | decide | omega)) pass0 (pa_cons (pv 0) (pa_cons pe_int pa_nil))) pe_int (nomark _)) (pss_one (ps_ret (pe_fn c_Lone (hr.mono (by first | decide | omega)) pass0 (pa_cons (pv 0) (pa_cons (pe_lstN (pa_cons (pe_cn c_Float (hr.mono (by first | decide | omega)) pass0 (pa_cons pe_int (pa_cons pe_str (pa_cons pe_int pa_nil)))) (pa_cons (pe_cn c_Float (hr.mono (by first | decide | omega)) pass0 (pa_cons (pe_un un_neg pe_int) (pa_cons pe_str (pa_cons pe_int pa_nil)))) (pa_cons (pe_cn c_Float (hr.mono (by first | decide | omega)) pass0 (pa_cons pe_int (pa_cons pe_str (pa_cons pe_int pa_nil)))) pa_nil)))) pa_nil))))) pss_nil)
  (pss_cons (ps_asg (pe_fn c_Lfinite (hr.mono (by first | decide | omega)) pass0 (pa_cons (pv 0) pa_nil)) (pg_tup rfl (pgs_cons (pg_name (i := 1) sc_Lfloat.nd rfl (Or.inl rfl)) (pgs_cons (pg_name (i := 2) sc_Lfloat.nd rfl (Or.inl rfl)) (pgs_cons (pg_name (i := 3) sc_Lfloat.nd rfl (Or.inl rfl)) pgs_nil)))))
  (pss_one (ps_ret (pe_cn c_Float (hr.mono (by first | decide | omega)) pass0 (pa_cons (pv 1) (pa_cons (pv 2) (pa_cons (pv 3) pa_nil)))))))), ?_⟩
    walk_at "go"
    refine ⟨a, _, rfl, by decide, by decide, hw, fun k H1 k0 k1 s1 hw1 => ?_⟩
    walk_at "go"
    refine g_ite (fun hk => ?_) fun hk => ?_
    · walk_at "go"
      refine mkF (mk_inf (.inl rfl)) fun H2 x2 n2 s2 h2 => ?_
      walk_at "go"
      refine mkF (mk_inf (.inr rfl)) fun H3 x3 n3 s3 h3 => ?_
      walk_at "go"
      refine mkF mk_nan fun H4 x4 n4 s4 h4 => ?_
      walk_at "go"
      refine g_new (sz rfl) fun l5 H5 n5 s5 h5 _ => ?_
      have S5 := ((s2.trans s3).trans s4).trans s5
      have hw4 := hw1.same ((s2.trans s3).trans s4)
      refine ⟨a, l5, _, rfl, hw4.same s5, h5, hw4.ne_none n5, by simp, by simp, fun v H6 hv s6 hw6 => ?_⟩
      have g : ∀ x (sg : Int) (tp : V) (p : Int), MkOk sg tp p → FlAt C H5 x sg (redV tp p).1 (redV tp p).2 → NumAt C H6 (.ref x) (.f sg (redV tp p).1 (redV tp p).2) := fun x sg tp p hm h => ⟨x, rfl, h.stp (hw4.same s5) s6, mk_flok hm⟩
      have T6 := (s1.trans (Stp.of S5)).trans s6
      simp only [List.mem_cons, List.not_mem_nil, or_false] at hv
      rcases hv with rfl | rfl | rfl
      · exact q _ _ _ _ _ T6 hw6 (g _ _ _ _ (mk_inf (.inl rfl)) (h2.same ((s3.trans s4).trans s5)))
      · exact q _ _ _ _ _ T6 hw6 (g _ _ _ _ (mk_inf (.inr rfl)) (h3.same (s4.trans s5)))
      · exact q _ _ _ _ _ T6 hw6 (g _ _ _ _ mk_nan (h4.same s5))
    · walk_at "go"
      refine ⟨a, rfl, hw1, fun b H2 sg t p n2 s2 hw2 h2 hd => ?_⟩
      walk_at "go"
      refine ⟨b, _, rfl, SqT.of h2, rfl, ?_⟩
      walk_at "go"
      refine mkF hd.mk fun H3 x3 n3 s3 h3 => ?_
      exact q _ _ _ _ _ ((s1.trans s2).trans (Stp.of s3)) (hw2.same s3) ⟨x3, rfl, h3, mk_flok hd.mk⟩
end
end Up

set_option Elab.async false
set_option linter.all false
set_option pp.maxSteps 900
set_option maxRecDepth 100000
set_option maxHeartbeats 4000000
set_option exponentiation.threshold 200000
namespace Up
open PySem PySem.Spec PyProof.Rows L2
local macro_rules | `(tactic| walk_at "u") => `(tactic| first
  | with_reducible refine g_seq ?_
  | with_reducible refine g_asg ?_
  | with_reducible refine g_op ?_
  | ((with_reducible show tVar _ _ _ _); apply g_var; exact rfl)
  | with_reducible refine g_c ?_
  | with_reducible refine g_name ?_
  | with_reducible refine g_ifs ?_
  | with_reducible refine g_tt ?_
  | with_reducible refine g_tB ?_
  | with_reducible refine g_bl ?_
  | with_reducible refine g_ret ?_
  | with_reducible refine g_cb ?_
  | with_reducible refine g_cons ?_
  | with_reducible refine g_nil ?_
  | with_reducible refine g_call ?_
  | with_reducible refine g_and ?_
  | with_reducible refine g_or ?_
  | with_reducible refine g_not ?_
  | with_reducible refine g_andV ?_
  | with_reducible refine g_orV ?_
  | with_reducible refine g_notV ?_
  | with_reducible refine g_if ?_
  | with_reducible refine g_un ?_
  | with_reducible refine g_neg ?_
  | with_reducible refine g_addI ?_
  | with_reducible refine g_subI ?_
  | with_reducible refine g_subB ?_
  | with_reducible refine g_I0 ?_
  | with_reducible refine g_cmpI ?_
  | with_reducible refine g_eqI ?_
  | with_reducible refine g_neI ?_
  | with_reducible refine g_eqS ?_
  | with_reducible refine g_neS ?_
  | with_reducible refine g_eqB ?_
  | with_reducible refine g_neB ?_
  | with_reducible refine g_bits ?_
  | with_reducible refine g_bitsI ?_
  | with_reducible refine g_fld ?_
  | with_reducible refine g_tup ?_
  | with_reducible refine g_lst ?_
  | with_reducible refine g_gtup ?_
  | with_reducible refine g_make ?_
  | with_reducible refine g_lc ?_
  | with_reducible refine g_yesT ?_
  | with_reducible refine g_intI ?_
  | with_reducible refine g_intB ?_
  | with_reducible refine g_max2 ?_
  | with_reducible refine g_abs1 ?_
  | with_reducible refine g_for ?_
  | with_reducible refine g_iList ?_
  | with_reducible refine g_iTup ?_
  | with_reducible refine g_iRng1 ?_
  | with_reducible refine g_iEnum ?_
  | with_reducible refine g_slice ?_
  | with_reducible refine g_po0 ?_
  | with_reducible refine g_po1 ?_
  | with_reducible refine g_gsub ?_
  | with_reducible refine g_par ?_
  | with_reducible refine g_par2 ?_
  | with_reducible refine g_rfl ?_
  | with_reducible refine g_meth ?_
  | with_reducible refine g_gcons ?_
  | with_reducible refine g_gnil ?_
  | with_reducible refine g_gfld ?_
  | with_reducible refine g_sfld ?_
  | with_reducible refine g_drop ?_
  | with_reducible refine g_next ?_
  | with_reducible refine iteT ?_
  | with_reducible refine iteF ?_)
local macro_rules | `(tactic| walk_at "go") => `(tactic| (repeat walk_at "u"))
local macro_rules | `(tactic| walk_at "f") => `(tactic| (repeat (first
  | walk_at "u"
  | with_reducible refine g_chain ?_
  | with_reducible refine g_par3 ?_
  | with_reducible refine g_par3' ?_
  | ((with_reducible refine show_ex ?_); first
    | refine fT (by assumption) (by assumption) ?_
    | refine fS (by assumption) (by assumption) ?_
    | refine fP (by assumption) (by assumption) ?_))))

section
variable {P : Program} {w : World} {K : PySem.W.Frag} {mg : Str → Option Value} {base : Heap} {C : Addr} {H : Hp} {Q : VK}
/-! law -/
theorem sc_law : FnScope ["_law_script", "_law_cell", "_law_well_here", "_law_turn", "_law_near", "_law_far", "_law_some", "_law_number", "_law_whole"] ["_law_script"] (defScope s_law) := ⟨rfl, rfl, rfl, by decide +kernel, rfl, by decide +kernel, by decide +kernel⟩
def spLaw (K : PySem.W.Frag) : Sp := fun vs H Q _ => ∃ (a : Addr) (ns : List Int), vs = [.ref a] ∧ SqL K H a (ns.map V.int) ∧ ns.length ≤ 63 ∧ ∀ H', Q (.bl true) H'
theorem cells_int {ns : List Int} {lo hi : Option Int} : ∀ v ∈ cutV (ns.map V.int ++ [V.int 0]) lo hi, ∃ n, v = .int n := fun v hv => by
  have h := List.mem_of_mem_drop (List.mem_of_mem_take hv)
  rcases List.mem_append.mp h with h | h
  · obtain ⟨n, _, rfl⟩ := List.mem_map.mp h
    exact ⟨n, rfl⟩
  · simp only [List.mem_cons, List.not_mem_nil, or_false] at h
    exact ⟨0, h⟩
theorem int_len {k : Int} (h : k.natAbs < 2 ^ 64) : (dg k).length ≤ 100 := by
  have e := PySem.int_text_length_le (a := k) (k := 64) (by decide) (log2_lt h (by decide))
  show (Str.ofString (toString k)).length ≤ 100
  rw [PySem.ofString_length]
  omega
theorem ok_law {f : Addr} {fd : FuncData} (F : FunD K "law" "law" (defArgs s_law) (defBody s_law) (defScope s_law) [] [] f fd) (B : Blt mg) (T : FlC K mg C) (c_Lwell : Fn P w K mg base CX0 1 "_law_well" ["_law_cell"] [] sp_Lwell) (c_Lfloat : Fn P w K mg base CX0 4 "_law_float" ["_law_well_here"] [] (sp_Lfloat C))
    (c_Lone : Fn P w K mg base CX0 2 "_law_one" ["_law_well_here", "_law_some"] [] sp_Lone) (c_Lgreat : Fn P w K mg base CX0 2 "_law_great" ["_law_well_here", "_law_bits"] [] sp_Lgreat) (c_arith : CAr6 P w K mg base C) (c_textof : CTx P w K mg base C)
    (c_Lright : Fn P w K mg base CX0 5 "_law_right" ["_law_number"] [] (sp_Lright C)) (c_Lknownright : Fn P w K mg base CX0 9 "_law_known_right" [] [] sp_Lknown) : FnOk P w K mg base CX0 10 f fd ["_law_script"] (spLaw K) := by
  refine F.ok sc_law (fun vs H Q E h => ?_) (fun cdv A outer s H vs Q E hr h => ?_)
  · obtain ⟨a, ns, rfl, _⟩ := h; rfl
  · obtain ⟨a, ns, rfl, hS, hlen, q⟩ := h
    have hT := T
    refine ⟨_, PSs.nox (pss_cons (ps_for PassesOwn.never rfl (pi_list (pe_slice sl_lstN (pe_op op_oAdd (pv 0) (pe_lstN (pa_cons pe_int pa_nil))) po_none (po_some pe_int))) (pg_name (i := 1) sc_law.nd rfl (Or.inl rfl))
    (pss_cons (ps_set (i := 2) sc_law.nd rfl (Or.inl rfl) (pe_fn c_Lwell (hr.mono (by first | decide | omega)) pass0 (pa_cons (pv 1) pa_nil)))
  (pss_cons (ps_for PassesOwn.never rfl (pi_range1 (by rfl) B.range (pa_cons pe_int pa_nil)) (pg_name (i := 3) sc_law.nd rfl (Or.inl rfl))
    (pss_cons (ps_set (i := 4) sc_law.nd rfl (Or.inl rfl) (pe_fn c_arith (hr.mono (by first | decide | omega)) pass0 (pa_cons pe_str (pa_cons (pe_fn c_Lgreat (hr.mono (by first | decide | omega)) pass0 (pa_cons (pv 2) (pa_cons (pe_fn c_Lone (hr.mono (by first | decide | omega)) pass0 (pa_cons (pv 2) (pa_cons (pe_lstN (pa_cons pe_int (pa_cons pe_int (pa_cons pe_int pa_nil)))) pa_nil))) pa_nil))) (pa_cons (pe_fn c_Lone (hr.mono (by first | decide | omega)) pass0 (pa_cons (pv 2) (pa_cons (pe_lstN (pa_cons pe_int (pa_cons pe_int (pa_cons pe_int (pa_cons (pe_op op_oPow pe_int pe_int) pa_nil))))) pa_nil))) pa_nil)))))
  (pss_cons (ps_set (i := 5) sc_law.nd rfl (Or.inl rfl) (pe_fn c_arith (hr.mono (by first | decide | omega)) pass0 (pa_cons pe_str (pa_cons (pv 4) (pa_cons (pe_fn c_arith (hr.mono (by first | decide | omega)) pass0 (pa_cons pe_str (pa_cons (pe_op op_oPow pe_int pe_int) (pa_cons (pe_fn c_Lone (hr.mono (by first | decide | omega)) pass0 (pa_cons (pv 2) (pa_cons (pe_lstN (pa_cons pe_int (pa_cons (pe_op op_oPow pe_int pe_int) (pa_cons (pe_op op_oPow pe_int pe_int) pa_nil)))) pa_nil))) pa_nil)))) pa_nil)))))
  (pss_cons (ps_set (i := 6) sc_law.nd rfl (Or.inl rfl) (pe_lstN (pa_cons (pe_fn c_Lfloat (hr.mono (by first | decide | omega)) pass0 (pa_cons (pv 2) pa_nil)) (pa_cons (pv 4) (pa_cons (pv 5) (pa_cons (pe_fn c_arith (hr.mono (by first | decide | omega)) pass0 (pa_cons pe_str (pa_cons (pv 4) (pa_cons (pe_op op_oPow pe_int pe_int) pa_nil)))) pa_nil))))))
  (pss_one (ps_if (pt_cmpR (op_neE hr.units) (pe_lc (own := [("_law_number", 7)]) (g := gName 7) rfl sc_law.nd (pi_list (pv 6)) (blkOk_by (own := [("_law_number", 7)]) (N := ["_law_script", "_law_cell", "_law_well_here", "_law_turn", "_law_near", "_law_far", "_law_some", "_law_number", "_law_whole"]) (sc := defScope s_law) (by decide +kernel)) (fun _ _ _ _ _ => pg_name (i := 7) sc_law.nd rfl (Or.inl rfl)) (fun _ _ _ _ _ => (pts_one (pt_not (pt_val (pe_fn c_Lright (hr.mono (by first | decide | omega)) pass0 (pa_cons (pv 7) pa_nil)))))) (fun _ _ _ _ _ => (pv 7))) (pe_lstN pa_nil) (nomark _)) (pss_one (ps_ret pe_bl)) pss_nil))))))
  (pss_cons (ps_set (i := 8) sc_law.nd rfl (Or.inl rfl) (pe_op op_oSub (pe_fn c_Lgreat (hr.mono (by first | decide | omega)) pass0 (pa_cons (pv 2) (pa_cons pe_int pa_nil))) (pe_op op_oShl pe_int pe_int)))
  (pss_one (ps_if (pt_cmpR (op_oNe hr.units) (pe_fn c_textof (hr.mono (by first | decide | omega)) pass0 (pa_cons (pv 8) pa_nil)) (pe_callTy call_str_int (by rfl) B.str (by decide +kernel) (pa_cons (pv 8) pa_nil)) (nomark _)) (pss_one (ps_ret pe_bl)) pss_nil))))))
  (pss_one (ps_ret (pe_fn0 c_Lknownright (hr.mono (by first | decide | omega)) pass0)))), ?_⟩
    walk_at "f"
    refine g_new (sz rfl) fun l1 H1 n1 s1 h1 _ => ?_
    refine .inl ⟨a, l1, _, _, rfl, rfl, s1.seq hS, SqL.of h1, ?_, fun l2 H2 n2 s2 h2 _ => ?_⟩
    · rw [List.length_map]
      exact Nat.le_trans (Nat.add_le_add hlen (Nat.le_refl 1)) (by decide)
    walk_at "f"
    refine ⟨l2, _, rfl, SqL.of h2, fun l3 H3 n3 s3 h3 _ => ?_⟩
    refine ⟨l3, rfl, ⟨_, SqL.of h3⟩, ?_⟩
    refine for_list (K := K) (a := l3) (xs := cutV (ns.map V.int ++ [V.int 0]) none (some 8)) (fun i σ' H' => ∃ e1 e2 e3 e4 e5 e6 e7 e8, σ' = [some (.ref a), e1, e2, e3, e4, e5, e6, e7, e8] ∧ Same H3 H') ⟨_, _, _, _, _, _, _, _, rfl, Same.refl _⟩ ?_ ?_ ?_
    · rintro i _ H' _ ⟨_, _, _, _, _, _, _, _, _, sH⟩
      exact SqL.of (sH _ _ h3)
    · rintro i z _ H4 hz ⟨e1, e2, e3, e4, e5, e6, e7, e8, rfl, s4⟩
      obtain ⟨c, rfl⟩ := cells_int z (List.mem_of_getElem? hz)
      walk_at "f"
      refine ⟨c, rfl, fun wl H5 n5 s5 hw5 => ?_⟩
      have tot : ∀ H', Stp wl H5 H' → Same H4 H' := fun H' st b o e => st b o (ne_of_none e n5) (s5 _ _ e)
      walk_at "f"
      refine ⟨by decide, by decide, ?_⟩
      refine for_range (fun i σ' H' => ∃ e3 e4 e5 e6 e7 e8, σ' = [some (.ref a), some (.int c), some (.ref wl), e3, e4, e5, e6, e7, e8] ∧ Stp wl H5 H' ∧ Well H' wl) ⟨_, _, _, _, _, _, rfl, Stp.refl _ _, hw5⟩ ?_ ?_
      · rintro i _ H6 hi ⟨e3, e4, e5, e6, e7, e8, rfl, s6, hw6⟩
        walk_at "f"
        refine g_new (sz rfl) fun l7 H7 n7 s7 h7 _ => ?_
        refine ⟨wl, l7, _, rfl, hw6.same s7, h7, hw6.ne_none n7, by simp, by simp, fun v H8 hv s8 hw8 => ?_⟩
        have S := (s6.trans (Stp.of s7)).trans s8
        obtain ⟨d1, rfl, a1, a2⟩ : ∃ d, v = .int d ∧ 0 ≤ d ∧ d ≤ 60 := by
          simp only [List.mem_cons, List.not_mem_nil, or_false] at hv
          rcases hv with rfl | rfl | rfl <;> exact ⟨_, rfl, by decide, by decide⟩
        walk_at "f"
        refine ⟨wl, d1, rfl, a1, by omega, hw8, fun g H9 g0 g1 s9 hw9 => ?_⟩
        replace S := S.trans s9
        have g2 : g.natAbs < 2 ^ 70 := by
          have : (2 : Int) ^ d1.toNat ≤ 2 ^ 60 := by exact_mod_cast Nat.pow_le_pow_right (show 0 < 2 by decide) (show d1.toNat ≤ 60 by omega)
          omega
        walk_at "f"
        refine g_II ⟨by decide, by decide, by decide⟩ ?_
        walk_at "f"
        rw [show (10 : Int) ^ Int.toNat 14 = 100000000000000 by decide]
        refine g_new (sz rfl) fun l10 H10 n10 s10 h10 _ => ?_
        refine ⟨wl, l10, _, rfl, hw9.same s10, h10, hw9.ne_none n10, by simp, by simp, fun v H11 hv s11 hw11 => ?_⟩
        replace S := (S.trans (Stp.of s10)).trans s11
        obtain ⟨d2, rfl, a3⟩ : ∃ d : Int, v = .int d ∧ d.natAbs < 2 ^ 70 := by
          simp only [List.mem_cons, List.not_mem_nil, or_false] at hv
          rcases hv with rfl | rfl | rfl | rfl <;> exact ⟨_, rfl, by decide⟩
        walk_at "f"
        refine g_ar6 (n := .i g) (m := .i d2) (.inr (.inr (.inr rfl))) rfl rfl (big6 g2) (big6 a3) (.inl rfl) fun H12 v12 s12 f12 => ?_
        have o12 := dm_ok (c := "div") (.inr rfl) (toL_ok6 g) (toL_ok6 d2)
        replace S := S.trans (Stp.of s12)
        have hw12 := hw11.same s12
        generalize byL "div" (toL (.i g)) (toL (.i d2)) = x12 at *
        walk_at "f"
        refine g_II ⟨by decide, by decide, by decide⟩ ?_
        walk_at "f"
        refine g_II ⟨by decide, by decide, by decide⟩ ?_
        walk_at "f"
        refine g_II ⟨by decide, by decide, by decide⟩ ?_
        walk_at "f"
        rw [show (10 : Int) ^ Int.toNat 18 = 1000000000000000000 by decide, show (10 : Int) ^ Int.toNat 3 = 1000 by decide]
        refine g_new (sz rfl) fun l13 H13 n13 s13 h13 _ => ?_
        refine ⟨wl, l13, _, rfl, hw12.same s13, h13, hw12.ne_none n13, by simp, by simp, fun v H14 hv s14 hw14 => ?_⟩
        replace S := (S.trans (Stp.of s13)).trans s14
        replace f12 := ((num6 f12 o12).same s13).stp (hw12.same s13) s14
        obtain ⟨d3, rfl, a4⟩ : ∃ d : Int, v = .int d ∧ d.natAbs < 2 ^ 70 := by
          simp only [List.mem_cons, List.not_mem_nil, or_false] at hv
          rcases hv with rfl | rfl | rfl <;> exact ⟨_, rfl, by decide⟩
        walk_at "f"
        refine g_ar6 (n := .i 1000000000000000000) (m := .i d3) (.inr (.inr (.inr rfl))) rfl rfl (big6 (by decide)) (big6 a4) (.inl rfl) fun H15 v15 s15 f15 => ?_
        have o15 := dm_ok (c := "div") (.inr rfl) (toL_ok6 1000000000000000000) (toL_ok6 d3)
        replace S := S.trans (Stp.of s15)
        have hw15 := hw14.same s15
        replace f12 := f12.same s15
        generalize byL "div" (toL (.i 1000000000000000000)) (toL (.i d3)) = x15 at *
        walk_at "f"
        refine g_ar6 (.inr (.inr (.inl rfl))) f12 (num6 f15 o15) trivial trivial (.inr (.inl rfl)) fun H16 v16 s16 f16 => ?_
        have o16 : (byL "mul" (toL (.f x12.s x12.t x12.p)) (toL (.f x15.s x15.t x15.p))).ok := dm_ok (c := "mul") (.inl rfl) o12 o15
        replace S := S.trans (Stp.of s16)
        have hw16 := hw15.same s16
        replace f12 := f12.same s16
        generalize byL "mul" (toL (.f x12.s x12.t x12.p)) (toL (.f x15.s x15.t x15.p)) = x16 at *
        walk_at "f"
        refine ⟨wl, rfl, hw16, fun v17 H17 sg17 t17 p17 s17 hw17 f17 => ?_⟩
        replace S := S.trans s17
        replace f12 := f12.stp hw16 s17
        replace f16 := (num6 f16 o16).stp hw16 s17
        walk_at "f"
        refine g_II ⟨by decide, by decide, by decide⟩ ?_
        walk_at "f"
        rw [show (10 : Int) ^ Int.toNat 18 = 1000000000000000000 by decide]
        refine g_ar6 (m := .i 1000000000000000000) (.inr (.inr (.inr rfl))) f12 rfl trivial (big6 (by decide)) (.inl rfl) fun H18 v18 s18 f18 => ?_
        have o18 : (byL "div" (toL (.f x12.s x12.t x12.p)) (toL (.i 1000000000000000000))).ok := dm_ok (c := "div") (.inr rfl) o12 (toL_ok6 _)
        generalize byL "div" (toL (.f x12.s x12.t x12.p)) (toL (.i 1000000000000000000)) = x18 at *
        replace S := S.trans (Stp.of s18)
        replace f12 := f12.same s18
        replace f16 := f16.same s18
        replace f17 := f17.same s18
        replace f18 := num6 f18 o18
        have hw18 := hw17.same s18
        walk_at "f"
        refine g_new (sz rfl) fun l19 H19 n19 s19 h19 _ => ?_
        replace S := S.trans (Stp.of s19)
        have hw19 := hw18.same s19
        have all : ∀ z ∈ [v17, v12, v16, v18], ∃ sg t p, NumAt C H19 z (.f sg t p) := by
          intro z hz
          simp only [List.mem_cons, List.not_mem_nil, or_false] at hz
          rcases hz with rfl | rfl | rfl | rfl
          · exact ⟨_, _, _, f17.same s19⟩
          · exact ⟨_, _, _, f12.same s19⟩
          · exact ⟨_, _, _, f16.same s19⟩
          · exact ⟨_, _, _, f18.same s19⟩
        walk_at "f"
        refine ⟨l19, rfl, ⟨_, SqL.of h19⟩, fun D nD => ?_⟩
        refine lc_list (K := K) (a := l19) (xs := [v17, v12, v16, v18]) (fun i H' => Same H19 H' ∧ H' D = some (.lst [])) ⟨upd_sm (Same.refl _) nD, upd_same⟩ ?_ ?_ ?_
        · rintro i H' _ ⟨t1, _⟩
          exact SqL.of (t1 _ _ h19)
        · rintro i z H' hz ⟨t1, d1⟩
          obtain ⟨sg, t, p, hn⟩ := all z (List.mem_of_getElem? hz)
          replace hn := hn.same t1
          walk_at "f"
          refine ⟨rfl, ?_⟩
          walk_at "f"
          refine ⟨z, sg, p, t, rfl, hn, fun H20 s20 => ?_⟩
          walk_at "f"
          exact ⟨t1.trans s20, s20 _ _ d1⟩
        · rintro H' ⟨t1, d1⟩
          walk_at "f"
          refine g_new (sz rfl) fun a2 H21 na s21 ha _ => ?_
          refine g_neE (s21 _ _ d1) ha ?_
          refine ⟨false, rfl, ?_⟩
          walk_at "f"
          exact ⟨_, _, _, _, _, _, rfl, S.trans (Stp.of (t1.trans s21)), hw19.same (t1.trans s21)⟩
      · rintro _ H6 ⟨e3, e4, e5, e6, e7, e8, rfl, s6, hw6⟩
        walk_at "f"
        refine ⟨wl, 64, rfl, by decide, by decide, hw6, fun g H7 g0 g1 s7 hw7 => ?_⟩
        walk_at "f"
        refine g_II (shl_small (by decide) (by decide) (lt_pow_mono (a := 1) (by decide) (by decide))) ?_
        walk_at "f"
        rw [show (1 : Int) * 2 ^ Int.toNat 63 = 9223372036854775808 by decide]
        have g1 : g < 18446744073709551616 := g1
        have gb : (g - 9223372036854775808).natAbs < 2 ^ 64 := by omega
        refine ⟨_, .i (g - 9223372036854775808), rfl, rfl, ⟨Nat.lt_trans gb (by decide), ?_⟩, fun H8 s8 => ?_⟩
        · exact int_len gb
        walk_at "f"
        refine ⟨Nat.lt_trans (log2_lt gb (by decide)) (by decide), ?_⟩
        have et : txN (.i (g - 9223372036854775808)) = ((toString (g - 9223372036854775808 : Int) : String) : Str) := rfl
        rw [et]
        walk_at "f"
        rw [decide_eq_true rfl]
        refine g_nt ?_
        walk_at "f"
        exact ⟨_, _, _, _, _, _, _, _, rfl, s4.trans (tot _ ((s6.trans s7).trans (Stp.of s8)))⟩
    · rintro _ H4 ⟨e1, e2, e3, e4, e5, e6, e7, e8, rfl, s4⟩
      walk_at "f"
      exact ⟨rfl, fun H' _ => q _⟩
end
end Up

set_option Elab.async false
set_option linter.all false
set_option maxRecDepth 100000
set_option maxHeartbeats 4000000
namespace Up
open PySem PySem.Spec PyProof.Rows L2
/-! ### what the head's one Bool says of a class -/
theorem ownB_ok {K : PySem.W.Frag} {C : Addr} (h : ownB K C = true) : OwnC K C := by
  unfold ownB at h
  simp only [Bool.and_eq_true, decide_eq_true_eq] at h
  obtain ⟨h1, h2, h3, h4, h5, h6, h7, h8, h9, h10, h11⟩ := h
  exact ⟨⟨h1, h2, h3, h4⟩, h5, h6, h7, h8, h9, h10, h11⟩
theorem idB_ok {K : PySem.W.Frag} {C : Addr} (h : idB K C = true) : IdC K C := by
  unfold idB at h
  simp only [Bool.and_eq_true, decide_eq_true_eq] at h
  exact ⟨h.1, h.2.1, h.2.2⟩
theorem noB_ok {K : PySem.W.Frag} {C : Addr} {xs : List Str} (h : noB K C xs = true) {f : Str} (hf : f ∈ xs) : NoAttr K C f := by
  have e := List.all_eq_true.mp h f hf
  exact of_decide_eq_true (p := PySem.W.findIn K (.ref C) f = some none) e
theorem kitB'_ok {K : PySem.W.Frag} {C : Addr} {b : Bool} {xs : List Value} (h : kitB' K C b xs = true) {t : Value} (ht : t ∈ xs) : PySem.W.kitOne K t (.ref C) = some b := of_decide_eq_true (List.all_eq_true.mp h t ht)
section
variable {P : Program} {w : World} {K : PySem.W.Frag} {mg : Str → Option Value} {base : Heap}
/-- a def by its promise, from the head's facts -/
theorem fn_mk {CX : CXT} {k : Nat} {x y qual : Str} {params : Arguments} {body : List Stmt} {scope : Scope} {f : Addr} {fd : FuncData} {ps : List Str} {sp : Sp} (F : FunD K y qual params body scope [] [] f fd) (hm : mg x = some (.ref f)) (ok : FnOk P w K mg base CX k f fd ps sp)
    (h : ∀ (kV doc pm : Value) (an : Option Addr) (cdv ct : Value) (us : List Value), us.length = ps.length → bindArgs (PySem.W.fnOf y qual params body scope .none kV doc pm an cdv ct) ⟨us, []⟩ = pure (ps.zip us)) : Fn P w K mg base CX k x ps [] sp :=
  ⟨f, fd, [], ok, hm, F.kp, F.bindsN h, .nil⟩
theorem mt_mk {CX : CXT} {k : Nat} {m qual : Str} {params : Arguments} {body : List Stmt} {scope : Scope} {f C : Addr} {fd : FuncData} {ps : List Str} {sp : Sp} (F : FunD K m qual params body scope [] [] f fd) (hm : Meth K C m f) (cl : Cls K C) (ok : FnOk P w K mg base CX k f fd ps sp)
    (h : ∀ (kV doc pm : Value) (an : Option Addr) (cdv ct : Value) (us : List Value), us.length = ps.length → bindArgs (PySem.W.fnOf m qual params body scope .none kV doc pm an cdv ct) ⟨us, []⟩ = pure (ps.zip us)) : Mt P w K mg base CX k C m ps sp :=
  ⟨f, fd, ok, hm, F.bindsN h, cl⟩
theorem cn_mk {CX : CXT} {k : Nat} {x qual : Str} {params : Arguments} {body : List Stmt} {scope : Scope} {f C : Addr} {fd : FuncData} {ps : List Str} {sp : Sp} (F : FunD K "__init__" qual params body scope [] [] f fd) (hM : Mk K C f) (hm : mg x = some (.ref C)) (ok : FnOk P w K mg base CX k f fd ps sp)
    (h : ∀ (kV doc pm : Value) (an : Option Addr) (cdv ct : Value) (us : List Value), us.length = ps.length → bindArgs (PySem.W.fnOf "__init__" qual params body scope .none kV doc pm an cdv ct) ⟨us, []⟩ = pure (ps.zip us)) : Cn P w K mg base CX k x C ps [] sp :=
  ⟨f, fd, [], ok, hM, hm, F.bindsN h, .nil⟩
end
end Up

set_option Elab.async false
set_option linter.all false
set_option maxRecDepth 100000
set_option maxHeartbeats 0
set_option pp.maxSteps 300
namespace Up
open PySem PySem.Spec PyProof.Rows L2
theorem facts {P : Program} {w : World} {K : PySem.W.Frag} {h : Heap} {mg : Str → Option Value} {f : Addr} (X : K.In h) (G : h.Ns mainGlobals mg) (hfa' : mg ("law" : Str) = some (.ref f)) (cs : He.SaysX hfa hfn [] [] hex w h K) :
    ∃ fd : FuncData, (∀ (s : Shared) (v : Value), BindsTo s fd ⟨[v], []⟩ [("_law_script", v)]) ∧ ∀ base : Heap, K.In base → base.Ns mainGlobals mg → FnOk P w K mg base CX0 10 f fd ["_law_script"] (spLaw K) := by
  have c := cs.t.d
  have glo : ∀ x ∈ hglo, mg x = some (.ref (He.ga K x)) := fun x hx => He.glo_ok X G (c.facts (f := .glo x) (List.mem_append_left _ (List.mem_map_of_mem hx)))
  have B : Blt mg := blt_of fun x hx => He.free_ok X G (c.facts (f := .free x) (List.mem_append_right _ (List.mem_append_left _ (List.mem_map_of_mem hx))))
  have i_ROOM : ∃ t, mg "ROOM" = some (.int (9007199254740992) t) := He.int_ok X G (c.facts (f := .int "ROOM" (9007199254740992)) (List.mem_append_right _ (List.mem_append_right _ (by simp))))
  have i_LOWEST : ∃ t, mg "LOWEST" = some (.int (-1074) t) := He.int_ok X G (c.facts (f := .int "LOWEST" (-1074)) (List.mem_append_right _ (List.mem_append_right _ (by simp))))
  have i_TOO_GREAT : ∃ t, mg "TOO_GREAT" = some (.int (1024) t) := He.int_ok X G (c.facts (f := .int "TOO_GREAT" (1024)) (List.mem_append_right _ (List.mem_append_right _ (by simp))))
  have i_SHOWN : ∃ t, mg "SHOWN" = some (.int (14) t) := He.int_ok X G (c.facts (f := .int "SHOWN" (14)) (List.mem_append_right _ (List.mem_append_right _ (by simp))))
  have mk_Float := He.mkr_ok (c.facts (f := .mkr "Float") (List.mem_append_right _ (List.mem_append_right _ (by simp))))
  have mt_Float_ratio := He.meth_ok (c.facts (f := .meth "Float" "ratio") (List.mem_append_right _ (List.mem_append_right _ (by simp))))
  have mt_Float_eq := He.meth_ok (c.facts (f := .meth "Float" "__eq__") (List.mem_append_right _ (List.mem_append_right _ (by simp))))
  have ex := cs.more
  unfold hex at ex
  simp only [Bool.and_eq_true] at ex
  obtain ⟨x1, x2, x3, x4, x5⟩ := ex
  have x5 := of_decide_eq_true x5
  have T : FlC K mg (He.ga K "Float") := {
    own := ownB_ok x1, nS := noB_ok x2 (by simp), nT := noB_ok x2 (by simp), nP := noB_ok x2 (by simp), mg := glo "Float" (by simp [hglo]), yes := kitB'_ok x3 (by simp)
    fi := kitB'_ok x4 (by simp), fb := kitB'_ok x4 (by simp), fs := kitB'_ok x4 (by simp), fn := kitB'_ok x4 (by simp), fl := kitB'_ok x4 (by simp), ft := kitB'_ok x4 (by simp), fd := kitB'_ok x4 (by simp) }
  obtain ⟨f_isplain, F_isplain⟩ := c.defs (d := d_isplain) (by simp [hfn])
  obtain ⟨f_reduced, F_reduced⟩ := c.defs (d := d_reduced) (by simp [hfn])
  obtain ⟨f_fits, F_fits⟩ := c.defs (d := d_fits) (by simp [hfn])
  obtain ⟨f_signof, F_signof⟩ := c.defs (d := d_signof) (by simp [hfn])
  obtain ⟨f_Float_init, F_Float_init⟩ := c.defs (d := d_Float_init) (by simp [hfn])
  obtain ⟨f_Float_ratio, F_Float_ratio⟩ := c.defs (d := d_Float_ratio) (by simp [hfn])
  obtain ⟨f_Float_eq, F_Float_eq⟩ := c.defs (d := d_Float_eq) (by simp [hfn])
  obtain ⟨f_infinity, F_infinity⟩ := c.defs (d := d_infinity) (by simp [hfn])
  obtain ⟨f_nan, F_nan⟩ := c.defs (d := d_nan) (by simp [hfn])
  obtain ⟨f_nearest, F_nearest⟩ := c.defs (d := d_nearest) (by simp [hfn])
  obtain ⟨f_tofloat, F_tofloat⟩ := c.defs (d := d_tofloat) (by simp [hfn])
  obtain ⟨f_added, F_added⟩ := c.defs (d := d_added) (by simp [hfn])
  obtain ⟨f_multiplied, F_multiplied⟩ := c.defs (d := d_multiplied) (by simp [hfn])
  obtain ⟨f_divided, F_divided⟩ := c.defs (d := d_divided) (by simp [hfn])
  obtain ⟨f_byfloats, F_byfloats⟩ := c.defs (d := d_byfloats) (by simp [hfn])
  obtain ⟨f_arith, F_arith⟩ := c.defs (d := d_arith) (by simp [hfn])
  obtain ⟨f_Lwell, F_Lwell⟩ := c.defs (d := d_Lwell) (by simp [hfn])
  obtain ⟨f_Ldraw, F_Ldraw⟩ := c.defs (d := d_Ldraw) (by simp [hfn])
  obtain ⟨f_Lone, F_Lone⟩ := c.defs (d := d_Lone) (by simp [hfn])
  obtain ⟨f_Lgreat, F_Lgreat⟩ := c.defs (d := d_Lgreat) (by simp [hfn])
  obtain ⟨f_Lfinite, F_Lfinite⟩ := c.defs (d := d_Lfinite) (by simp [hfn])
  obtain ⟨f_Lfloat, F_Lfloat⟩ := c.defs (d := d_Lfloat) (by simp [hfn])
  obtain ⟨f_tentimes, F_tentimes⟩ := c.defs (d := d_tentimes) (by simp [hfn])
  obtain ⟨f_placeoffirst, F_placeoffirst⟩ := c.defs (d := d_placeoffirst) (by simp [hfn])
  obtain ⟨f_roundedat, F_roundedat⟩ := c.defs (d := d_roundedat) (by simp [hfn])
  obtain ⟨f_shown, F_shown⟩ := c.defs (d := d_shown) (by simp [hfn])
  obtain ⟨f_textof, F_textof⟩ := c.defs (d := d_textof) (by simp [hfn])
  obtain ⟨f_Ltens, F_Ltens⟩ := c.defs (d := d_Ltens) (by simp [hfn])
  obtain ⟨f_Lparts, F_Lparts⟩ := c.defs (d := d_Lparts) (by simp [hfn])
  obtain ⟨f_Lisshown, F_Lisshown⟩ := c.defs (d := d_Lisshown) (by simp [hfn])
  obtain ⟨f_Lright, F_Lright⟩ := c.defs (d := d_Lright) (by simp [hfn])
  obtain ⟨f_Lknownright, F_Lknownright⟩ := c.defs (d := d_Lknownright) (by simp [hfn])
  obtain ⟨f_law, F_law⟩ := c.defs (d := d_law) (by simp [hfn])
  have e := hfa'.symm.trans (glo "law" (by simp [hglo]))
  cases e
  have b := FunD.bindsA (ps := ["_law_script"]) F_law fun _ _ _ _ _ _ us hl => match us, hl with | [_], _ => rfl
  refine ⟨f_law, fun s v => b s [v] rfl, fun base _ _ => ?_⟩
  have c_isplain : Fn P w K mg base CX0 1 "is_plain" _ [] _ := fn_mk F_isplain (glo "is_plain" (by simp [hglo])) (ok_isplain F_isplain B) (fun _ _ _ _ _ _ us hl => match us, hl with | [_], _ => rfl)
  have c_reduced : Fn P w K mg base CX0 1 "reduced" _ [] _ := fn_mk F_reduced (glo "reduced" (by simp [hglo])) (ok_reduced F_reduced B) (fun _ _ _ _ _ _ us hl => match us, hl with | [_, _], _ => rfl)
  have c_fits : Fn P w K mg base CX0 1 "fits" _ [] _ := fn_mk F_fits (glo "fits" (by simp [hglo])) (ok_fits F_fits B i_ROOM i_LOWEST i_TOO_GREAT) (fun _ _ _ _ _ _ us hl => match us, hl with | [_, _], _ => rfl)
  have c_signof : Fn P w K mg base CX0 1 "sign_of" _ [] _ := fn_mk F_signof (glo "sign_of" (by simp [hglo])) (ok_signof F_signof) (fun _ _ _ _ _ _ us hl => match us, hl with | [_], _ => rfl)
  have c_Float : Cn P w K mg base CX0 2 "Float" (He.ga K "Float") _ [] _ := cn_mk F_Float_init mk_Float T.mg (ok_Finit F_Float_init B T c_isplain c_reduced c_fits) (fun _ _ _ _ _ _ us hl => match us, hl with | [_, _, _, _], _ => rfl)
  have c_Float_ratio : Mt P w K mg base CX0 1 (He.ga K "Float") "ratio" _ _ := mt_mk F_Float_ratio mt_Float_ratio T.own.cl (ok_ratio F_Float_ratio B T) (fun _ _ _ _ _ _ us hl => match us, hl with | [_], _ => rfl)
  have c_Float_eq : EqC P w K mg base 1 (He.ga K "Float") _ := ⟨_, f_Float_eq, ok_Feq F_Float_eq B T, mt_Float_eq.at_, mt_Float_eq.fn, FunD.bindsN F_Float_eq (fun _ _ _ _ _ _ us hl => match us, hl with | [_, _], _ => rfl), x5, T.own.hm⟩
  have c_infinity : Fn P w K mg base CX0 4 "infinity" _ [] _ := fn_mk F_infinity (glo "infinity" (by simp [hglo])) (ok_infinity F_infinity c_Float) (fun _ _ _ _ _ _ us hl => match us, hl with | [_], _ => rfl)
  have c_nan : Fn P w K mg base CX0 4 "nan" _ [] _ := fn_mk F_nan (glo "nan" (by simp [hglo])) (ok_nan F_nan c_Float) (fun _ _ _ _ _ _ us hl => match us, hl with | [], _ => rfl)
  have c_nearest : Fn P w K mg base CX0 5 "nearest" _ [] _ := fn_mk F_nearest (glo "nearest" (by simp [hglo])) (ok_nearest F_nearest B i_ROOM i_LOWEST i_TOO_GREAT c_Float c_infinity) (fun _ _ _ _ _ _ us hl => match us, hl with | [_, _, _], _ => rfl)
  have c_tofloat : Fn P w K mg base CX0 6 "to_float" _ [] _ := fn_mk F_tofloat (glo "to_float" (by simp [hglo])) (ok_tofloat F_tofloat B T c_nearest c_signof) (fun _ _ _ _ _ _ us hl => match us, hl with | [_], _ => rfl)
  have c_added : Fn P w K mg base CX0 6 "added" _ [] _ := fn_mk F_added (glo "added" (by simp [hglo])) (ok_added F_added B T c_Float c_nan c_Float_ratio c_nearest c_signof) (fun _ _ _ _ _ _ us hl => match us, hl with | [_, _], _ => rfl)
  have c_multiplied : Fn P w K mg base CX0 6 "multiplied" _ [] _ := fn_mk F_multiplied (glo "multiplied" (by simp [hglo])) (ok_multiplied F_multiplied B T c_nan c_infinity c_Float_ratio c_nearest) (fun _ _ _ _ _ _ us hl => match us, hl with | [_, _], _ => rfl)
  have c_divided : Fn P w K mg base CX0 6 "divided" _ [] _ := fn_mk F_divided (glo "divided" (by simp [hglo])) (ok_divided F_divided B T c_Float c_nan c_infinity c_Float_ratio c_nearest) (fun _ _ _ _ _ _ us hl => match us, hl with | [_, _], _ => rfl)
  have c_byfloats : Fn P w K mg base CX0 7 "by_floats" _ [] _ := fn_mk F_byfloats (glo "by_floats" (by simp [hglo])) (ok_byfloats F_byfloats B T c_Float c_nan c_added c_multiplied c_divided) (fun _ _ _ _ _ _ us hl => match us, hl with | [_, _, _], _ => rfl)
  have c_arith : Fn P w K mg base CX0 8 "arith" _ [] _ := fn_mk F_arith (glo "arith" (by simp [hglo])) (ok_arith F_arith B T c_byfloats c_tofloat) (fun _ _ _ _ _ _ us hl => match us, hl with | [_, _, _], _ => rfl)
  have c_Lwell : Fn P w K mg base CX0 1 "_law_well" _ [] _ := fn_mk F_Lwell (glo "_law_well" (by simp [hglo])) (ok_Lwell F_Lwell B) (fun _ _ _ _ _ _ us hl => match us, hl with | [_], _ => rfl)
  have c_Ldraw : Fn P w K mg base CX0 1 "_law_draw" _ [] _ := fn_mk F_Ldraw (glo "_law_draw" (by simp [hglo])) (ok_Ldraw F_Ldraw B) (fun _ _ _ _ _ _ us hl => match us, hl with | [_, _], _ => rfl)
  have c_Lone : Fn P w K mg base CX0 2 "_law_one" _ [] _ := fn_mk F_Lone (glo "_law_one" (by simp [hglo])) (ok_Lone F_Lone B c_Ldraw) (fun _ _ _ _ _ _ us hl => match us, hl with | [_, _], _ => rfl)
  have c_Lgreat : Fn P w K mg base CX0 2 "_law_great" _ [] _ := fn_mk F_Lgreat (glo "_law_great" (by simp [hglo])) (ok_Lgreat F_Lgreat B c_Ldraw) (fun _ _ _ _ _ _ us hl => match us, hl with | [_, _], _ => rfl)
  have c_Lfinite : Fn P w K mg base CX0 3 "_law_finite" _ [] _ := fn_mk F_Lfinite (glo "_law_finite" (by simp [hglo])) (ok_Lfinite F_Lfinite B c_Ldraw c_Lone c_Lgreat) (fun _ _ _ _ _ _ us hl => match us, hl with | [_], _ => rfl)
  have c_Lfloat : Fn P w K mg base CX0 4 "_law_float" _ [] _ := fn_mk F_Lfloat (glo "_law_float" (by simp [hglo])) (ok_Lfloat F_Lfloat B c_Float c_Ldraw c_Lone c_Lfinite) (fun _ _ _ _ _ _ us hl => match us, hl with | [_], _ => rfl)
  have c_tentimes : Fn P w K mg base CX0 1 "ten_times" _ [] _ := fn_mk F_tentimes (glo "ten_times" (by simp [hglo])) (ok_ten F_tentimes) (fun _ _ _ _ _ _ us hl => match us, hl with | [_], _ => rfl)
  have c_placeoffirst : Fn P w K mg base CX0 2 "place_of_first" _ [] _ := fn_mk F_placeoffirst (glo "place_of_first" (by simp [hglo])) (ok_place1 F_placeoffirst B c_tentimes) (fun _ _ _ _ _ _ us hl => match us, hl with | [_, _], _ => rfl)
  have c_roundedat : Fn P w K mg base CX0 2 "rounded_at" _ [] _ := fn_mk F_roundedat (glo "rounded_at" (by simp [hglo])) (ok_round F_roundedat B c_tentimes) (fun _ _ _ _ _ _ us hl => match us, hl with | [_, _, _], _ => rfl)
  have c_shown : Fn P w K mg base CX0 3 "shown" _ [] _ := fn_mk F_shown (glo "shown" (by simp [hglo])) (ok_shown F_shown B i_SHOWN c_Float_ratio c_placeoffirst c_roundedat) (fun _ _ _ _ _ _ us hl => match us, hl with | [_], _ => rfl)
  have c_textof : Fn P w K mg base CX0 4 "text_of" _ [] _ := fn_mk F_textof (glo "text_of" (by simp [hglo])) (ok_textof F_textof B T c_Float c_shown) (fun _ _ _ _ _ _ us hl => match us, hl with | [_], _ => rfl)
  have c_Ltens : Fn P w K mg base CX0 1 "_law_tens" _ [] _ := fn_mk F_Ltens (glo "_law_tens" (by simp [hglo])) (ok_Ltens F_Ltens B) (fun _ _ _ _ _ _ us hl => match us, hl with | [_], _ => rfl)
  have c_Lparts : Fn P w K mg base CX0 1 "_law_parts" _ [] _ := fn_mk F_Lparts (glo "_law_parts" (by simp [hglo])) (ok_Lparts F_Lparts B) (fun _ _ _ _ _ _ us hl => match us, hl with | [_], _ => rfl)
  have c_Lisshown : Fn P w K mg base CX0 2 "_law_is_shown" _ [] _ := fn_mk F_Lisshown (glo "_law_is_shown" (by simp [hglo])) (ok_Lisshown F_Lisshown B c_Lparts c_Ltens) (fun _ _ _ _ _ _ us hl => match us, hl with | [_, _, _], _ => rfl)
  have c_Lright : Fn P w K mg base CX0 5 "_law_right" _ [] _ := fn_mk F_Lright (glo "_law_right" (by simp [hglo])) (ok_Lright F_Lright B T c_textof c_Lisshown) (fun _ _ _ _ _ _ us hl => match us, hl with | [_], _ => rfl)
  have c_Lknownright : Fn P w K mg base CX0 9 "_law_known_right" _ [] _ := fn_mk F_Lknownright (glo "_law_known_right" (by simp [hglo])) (ok_Lknown F_Lknownright B T c_Float c_textof c_arith) (fun _ _ _ _ _ _ us hl => match us, hl with | [], _ => rfl)
  exact ok_law F_law B T c_Lwell c_Lfloat c_Lone c_Lgreat c_arith c_textof c_Lright c_Lknownright
end Up
open PySem PySem.W PySem.Calls PyProof.Rows
theorem PySem.Challenge.cw_upvalues_k06_texts_of_numbers_holds : PySem.Challenge.rw_upvalues_k06_texts_of_numbers.Holds := by
  w_on; o_law
  refine HandSHeadRun.head_any (r := OpenLaw.row PySem.Challenge.rw_upvalues_k06_texts_of_numbers) (q := view (OpenLaw.row PySem.Challenge.rw_upvalues_k06_texts_of_numbers).prog [51]) (H := Up.hk) (ob := Up.hob) (M := 6000) (loose := Up.hloose) (d := HandSHeadRun.topDef (OpenLaw.row PySem.Challenge.rw_upvalues_k06_texts_of_numbers).prog 51) (kwd := []) Up.hob_eq
    (by kernel_rfl) (fun s => by kernel_rfl) Up.hrun (by kernel_rfl) (by kernel_rfl) (by kernel_rfl) (by rfl) (by first | assumption | decide +kernel) (by decide +kernel) ⟨rfl, rfl, rfl, rfl, rfl, by decide +kernel⟩ ?hw ?hc
  case hw => w_witness2
  case hc =>
    refine L2.walk_ofE (l := PySem.Challenge.rw_upvalues_k06_texts_of_numbers) (n := 63) (k := 10) (x := "_law_script") (CX := L2.CX0) rfl (by decide) (by kernel_rfl) ⟨rfl, by decide, by decide⟩ ?F (fun _ _ _ _ z => z)
    intro w mg fa h Y G hmg0
    obtain ⟨K, KX, c⟩ := Y
    have hmg : mg ("law" : PySem.Str) = some (.ref fa) := by
      have e : (HandSHeadRun.topDef (OpenLaw.row PySem.Challenge.rw_upvalues_k06_texts_of_numbers).prog 51).name = ("law" : PySem.Str) := by kernel_rfl
      rw [← e]
      exact hmg0
    obtain ⟨fd, hb, hF⟩ := Up.facts (P := (PySem.Challenge.rw_upvalues_k06_texts_of_numbers).prog) (w := w) KX G hmg c
    exact ⟨K, fd, Up.spLaw K, KX, hb, fun H a ns hl _ hS => ⟨a, ns, rfl, hS, hl, fun _ => rfl⟩, hF⟩
#print axioms PySem.Challenge.cw_upvalues_k06_texts_of_numbers_holds
