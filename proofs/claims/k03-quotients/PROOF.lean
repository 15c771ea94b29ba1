import PyProof.Rows.All
import Wide.All
import OpenK.AllK
import Wide.FinOn
import PyProof.EqAt
import PyProof.EqKinds
import PyProof.TupleCall
import HandS.ForMost
import HandS.IsInst
import HandS.Wide
import HandS.WideBits
import HandS.TupAny
import HandS.Deep
import HandS.Flow
import HandS.Defaults
import HandS.Exc
import HandS.WordsExc
import HandS.Codes
import HandS.More
import HandS.Style
import KE.KExcInit
import KE.KExcSuper
import HandS.ExcInit
import HandS.ExcField
import HandS.ExcIs
import HandS.Walk
import KE.KStateDown
import HandS.Head0
import HandS.Head1
import HandS.Head2
import HandS.HeadEnd
import HandS.HeadHook1
import HandS.HeadHook2
import HandS.HeadHook3
import HandS.HeadHook4
import PySem.Challenge.RW_upvalues_k03_whole_quotients_and_what_is
set_option Elab.async false
set_option linter.all false
set_option maxRecDepth 100000
set_option maxHeartbeats 4000000
namespace Up
open PySem PySem.Spec PyProof.Rows L2

theorem sz {n : Nat} (h : Nat.ble n 100000 = true) : n ≤ sizeLine := Nat.le_trans (Nat.le_of_ble_eq_true h) (by decide)
/-! ### a new object, by what is known of the heap behind it -/
def NewAt (H : Hp) (o : HO) (Q : VK) : Prop := ∀ p H', H p = none → Same H H' → H' p = some o → (∀ b, b ≠ p → H' b = H b) → Q (.ref p) H'
theorem NewAt.all {H : Hp} {o : HO} {Q : VK} (h : NewAt H o Q) : ∀ p, H p = none → Q (.ref p) (upd H p o) := fun p hp =>
  h p _ hp (fun b u e => by rw [upd_ne (ne_of_none e hp)]; exact e) upd_same fun b hb => upd_ne hb
def tTupN (t : TA) : TE := fun σ H Q => t σ H fun xs H1 => xs.length ≤ sizeLine ∧ NewAt H1 (.tup xs) Q
def tLstN (t : TA) : TE := fun σ H Q => t σ H fun xs H1 => xs.length ≤ sizeLine ∧ NewAt H1 (.lst xs) Q
section
variable {X : Cx} {es : List Expr} {t : TA} {pos : Pos}
theorem pe_tupN {x1} (h : PA X es t) : PE X (.Tuple es x1 pos) (tTupN t) := by
  refine ⟨fun pins s σ H Q I hq => ?_⟩
  refine wpAny_Tuple_spliced (thn (h.run pos pins s σ H _ I hq) fun us s1 ⟨xs, H1, I1, r, z, q⟩ => ⟨(by rw [← r.length]; exact z), ?_⟩)
  exact ⟨.ref s1.heap.objs.size, upd H1 s1.heap.objs.size (.tup xs), I1.laid (t' := s1.toks) (fun b u e => Heap.get?_push_of_some _ e) (Nat.le_refl _) ⟨z, us, r, ⟨_, Heap.get?_push_size _ rfl, rfl, _, rfl⟩⟩, rfl, q.all _ (I1.hok.fresh (Nat.le_refl _))⟩
theorem pe_lstN (h : PA X es t) : PE X (.List es pos) (tLstN t) := by
  refine ⟨fun pins s σ H Q I hq => ?_⟩
  refine wpAny_List_spliced (thn (h.run pos pins s σ H _ I hq) fun us s1 ⟨xs, H1, I1, r, z, q⟩ => ⟨(by rw [← r.length]; exact z), ?_⟩)
  exact ⟨.ref s1.heap.objs.size, upd H1 s1.heap.objs.size (.lst xs), I1.laid (t' := s1.toks) (fun b u e => Heap.get?_push_of_some _ e) (Nat.le_refl _) ⟨z, us, 0, r, Heap.get?_push_size _ rfl⟩, rfl, q.all _ (I1.hok.fresh (Nat.le_refl _))⟩
end
/-! ### operators by the kinds of their values -/
section
variable {X : Cx} {f : Value → Value → Sem Value} {r r' : R2}
theorem op_or (h : OpR X f r) (h' : OpR X f r') : OpR X f (fun x y H Q => r x y H Q ∨ r' x y H Q) := by
  intro pins s σ H x y v u Q I rx ry q
  rcases q with q | q
  · exact h pins s σ H x y v u Q I rx ry q
  · exact h' pins s σ H x y v u Q I rx ry q
theorem op_wk (h : OpR X f r) (k : ∀ x y H Q, r' x y H Q → r x y H Q) : OpR X f r' := by
  intro pins s σ H x y v u Q I rx ry q
  exact h pins s σ H x y v u Q I rx ry (k _ _ _ _ q)
theorem op_wh {S : Prop} (h : S → OpR X f r) (k : ∀ x y H Q, r' x y H Q → S ∧ r x y H Q) : OpR X f r' := by
  intro pins s σ H x y v u Q I rx ry q
  exact h (k _ _ _ _ q).1 pins s σ H x y v u Q I rx ry (k _ _ _ _ q).2
end
/-- two lists that are read -/
def oCatS (K : PySem.W.Frag) : R2 := fun x y H Q => ∃ a b xs ys, x = .ref a ∧ y = .ref b ∧ SqL K H a xs ∧ SqL K H b ys ∧ xs.length + ys.length ≤ sizeLine ∧ NewAt H (.lst (xs ++ ys)) Q
theorem op_catS {X : Cx} : OpR X (binaryOp .Add) (oCatS X.K) := by
  intro pins s σ H x y v u Q I rx ry h
  obtain ⟨a, b, xs, ys, rfl, rfl, ha, hb, hz, q⟩ := h
  cases rx
  cases ry
  obtain ⟨its, r1, p1, _⟩ := I.list ha
  obtain ⟨jts, r2, p2, _⟩ := I.list hb
  have l1 := r1.length
  have l2 := r2.length
  obtain ⟨⟨c1, d1, t1, z1⟩, n1, e1, k1, _, w1⟩ := p1
  obtain ⟨⟨c2, d2, t2, z2⟩, n2, e2, k2, _, w2⟩ := p2
  simp only at k1 w1 k2 w2
  subst k1 w1 k2 w2
  refine concat_meets (S := _) ⟨_, e1, rfl⟩ ⟨_, e2, rfl⟩ noFill_list_add seq_list_add PySem.F.slot_list_add PySem.F.entry_list_add (PySem.F.args_list_add_2 _ _) (list_addW a b its.toArray jts.toArray n1 n2 d1 d2 z1 z2 (by rw [List.size_toArray, List.size_toArray]; omega)) ⟨e1, e2, ?_⟩
  rw [show its.toArray ++ jts.toArray = (its ++ jts).toArray by simp]
  exact ⟨.ref _, _, I.lnew (t' := s.toks) (r1.append r2) (by rw [List.length_append]; omega), rfl, q.all _ I.fresh⟩
/-- two tuples -/
def oCatU (K : PySem.W.Frag) : R2 := fun x y H Q => ∃ a b xs ys, x = .ref a ∧ y = .ref b ∧ SqT K H a xs ∧ SqT K H b ys ∧ xs.length + ys.length ≤ sizeLine ∧ xs ≠ [] ∧ ys ≠ [] ∧ NewAt H (.tup (xs ++ ys)) Q
/-- a + b -/
def oAdd (K : PySem.W.Frag) : R2 := fun x y H Q => match x, y with
  | .int i, .int j => Q (.int (i + j)) H
  | .str a, .str b => a.length + b.length ≤ sizeLine ∧ Q (.str (a ++ b)) H
  | .ref a, .ref b => oCatS K (.ref a) (.ref b) H Q ∨ oCatU K (.ref a) (.ref b) H Q
  | _, _ => False
theorem op_oAdd {X : Cx} : OpR X (binaryOp .Add) (oAdd X.K) := by
  refine op_wk (op_or op_add (op_or op_add_str (op_or op_catS op_catA))) fun x y H Q q => ?_
  cases x <;> cases y <;> first | exact q.elim | skip
  · exact .inl ⟨_, _, rfl, rfl, q⟩
  · exact .inr (.inl ⟨_, _, rfl, rfl, q⟩)
  · rcases q with q | ⟨c, d, xs, ys, e1, e2, h1, h2, hz, n1, n2, q⟩
    · exact .inr (.inr (.inl q))
    · exact .inr (.inr (.inr ⟨c, d, xs, ys, e1, e2, h1, h2, hz, fun z => absurd z n1, fun _ z => absurd z n2, fun _ _ => q.all⟩))
/-- a - b, of ints and of bools -/
def oSub : R2 := fun x y H Q => match x, y with
  | .int i, .int j => Q (.int (i - j)) H
  | .bl i, .bl j => Q (.int (b2i i - b2i j)) H
  | _, _ => False
theorem op_sub_bb {X : Cx} : OpR X (binaryOp .Sub) (fun x y H Q => ∃ i j, x = .bl i ∧ y = .bl j ∧ Q (.int (b2i i - b2i j)) H) := by
  intro pins s σ H x y v u Q I rx ry h
  obtain ⟨i, j, rfl, rfl, q⟩ := h
  cases rx
  cases ry
  exact sub_bool ⟨.int (b2i i - b2i j), H, I.tok _, ⟨_, rfl⟩, q⟩
theorem op_oSub {X : Cx} : OpR X (binaryOp .Sub) oSub := by
  refine op_wk (op_or op_sub op_sub_bb) fun x y H Q q => ?_
  cases x <;> cases y <;> first | exact q.elim | skip
  · exact .inr ⟨_, _, rfl, rfl, q⟩
  · exact .inl ⟨_, _, rfl, rfl, q⟩
/-- a * b -/
def oMul : R2 := fun x y H Q => match x, y with
  | .int i, .int j => IntMulOk i j ∧ Q (.int (i * j)) H
  | .ref a, .int k => ∃ xs, H a = some (.lst xs) ∧ -(2 ^ 63) ≤ k ∧ k < 2 ^ 63 ∧ xs.length * k.toNat ≤ sizeLine ∧ NewAt H (.lst (List.replicate k.toNat xs).flatten) Q
  | _, _ => False
theorem op_mulK {X : Cx} : OpR X (binaryOp .Mult) (rI IntMulOk fun i j => .int (i * j)) := opI fun _ _ _ _ _ _ _ hc q => mul_int q hc
theorem op_oMul {X : Cx} : OpR X (binaryOp .Mult) oMul := by
  refine op_wk (op_or op_mulK op_rep) fun x y H Q q => ?_
  cases x <;> cases y <;> first | exact q.elim | skip
  · exact .inl ⟨_, _, rfl, rfl, q⟩
  · obtain ⟨xs, h1, h2, h3, h4, q⟩ := q
    exact .inr ⟨_, _, xs, rfl, rfl, h1, h2, h3, h4, q.all⟩
/-- a // b -/
def oDiv : R2 := fun x y H Q => match x, y with
  | .int i, .int j => (j ≠ 0 ∧ j.natAbs.log2 < 9000) ∧ Q (.int (i.fdiv j)) H
  | _, _ => False
theorem op_oDiv {X : Cx} : OpR X (binaryOp .FloorDiv) oDiv := by
  refine op_wk (r := rI (fun _ j => j ≠ 0 ∧ j.natAbs.log2 < 9000) fun i j => .int (i.fdiv j)) (opI fun _ _ _ _ _ _ _ hc q => floordiv_int hc.1 q (.inl (PyProof.noPylong_of_log2 hc.2))) fun x y H Q q => ?_
  cases x <;> cases y <;> first | exact q.elim | skip
  exact ⟨_, _, rfl, rfl, q⟩
/-- a % b -/
def oMod : R2 := fun x y H Q => match x, y with
  | .int i, .int j => j ≠ 0 ∧ Q (.int (i.fmod j)) H
  | _, _ => False
theorem op_oMod {X : Cx} : OpR X (binaryOp .Mod) oMod := by
  refine op_wk op_modN fun x y H Q q => ?_
  cases x <;> cases y <;> first | exact q.elim | skip
  exact ⟨_, _, rfl, rfl, q⟩
/-- an operator of two ints with a condition -/
def oII (C : Int → Int → Prop) (g : Int → Int → V) : R2 := fun x y H Q => match x, y with
  | .int i, .int j => C i j ∧ Q (g i j) H
  | _, _ => False
theorem op_oII {X : Cx} {f : Value → Value → Sem Value} {C : Int → Int → Prop} {g : Int → Int → V} (h : OpR X f (rI C g)) : OpR X f (oII C g) := by
  refine op_wk h fun x y H Q q => ?_
  cases x <;> cases y <;> first | exact q.elim | skip
  exact ⟨_, _, rfl, rfl, q⟩
def oI0 (g : Int → Int → V) : R2 := fun x y H Q => match x, y with
  | .int i, .int j => Q (g i j) H
  | _, _ => False
theorem op_oI0 {X : Cx} {f : Value → Value → Sem Value} {g : Int → Int → V} (h : OpR X f (rI0 g)) : OpR X f (oI0 g) := by
  refine op_wk h fun x y H Q q => ?_
  cases x <;> cases y <;> first | exact q.elim | skip
  exact ⟨_, _, rfl, rfl, q⟩
abbrev oPow : R2 := oII CPow fun i j => .int (i ^ j.toNat)
abbrev oShl : R2 := oII CShl fun i j => .int (i * 2 ^ j.toNat)
abbrev oShr : R2 := oII (fun _ j => 0 ≤ j) fun i j => .int (i / 2 ^ j.toNat)
abbrev oAnd : R2 := oI0 fun i j => .int (Builtin.bitAnd i j)
abbrev oOr : R2 := oI0 fun i j => .int (Builtin.bitOr i j)
abbrev oXor : R2 := oI0 fun i j => .int (Builtin.bitXor i j)
theorem op_oPow {X : Cx} : OpR X (binaryOp .Pow) oPow := op_oII op_pow
theorem op_oShl {X : Cx} : OpR X (binaryOp .LShift) oShl := op_oII op_shlW
theorem op_oShr {X : Cx} : OpR X (binaryOp .RShift) oShr := op_oII op_shr
theorem op_oAnd {X : Cx} : OpR X (binaryOp .BitAnd) oAnd := op_oI0 op_and
theorem op_oOr {X : Cx} : OpR X (binaryOp .BitOr) oOr := op_oI0 L2.op_or
theorem op_oXor {X : Cx} : OpR X (binaryOp .BitXor) oXor := op_oI0 op_xor
/-! ### comparisons -/
def oCmp (g : Int → Int → Bool) (k : Str → Str → Bool) : R2 := fun x y H Q => match x, y with
  | .int i, .int j => Q (.bl (g i j)) H
  | .str a, .str b => Q (.bl (k a b)) H
  | _, _ => False
theorem op_oCmp {X : Cx} {f : Value → Value → Sem Value} {g : Int → Int → Bool} {k : Str → Str → Bool} (h : OpR X f (rI0 fun i j => .bl (g i j))) (h' : OpR X f (fun x y H Q => ∃ i j, x = .str i ∧ y = .str j ∧ Q (.bl (k i j)) H)) : OpR X f (oCmp g k) := by
  refine op_wk (op_or h h') fun x y H Q q => ?_
  cases x <;> cases y <;> first | exact q.elim | skip
  · exact .inl ⟨_, _, rfl, rfl, q⟩
  · exact .inr ⟨_, _, rfl, rfl, q⟩
abbrev oLt : R2 := oCmp (fun i j => decide (i < j)) fun a b => decide (a.cps.toList < b.cps.toList)
theorem op_oLt {X : Cx} : OpR X (compareOp .Lt) oLt := op_oCmp op_lt op_lt_str
abbrev oLe : R2 := oI0 fun i j => .bl (decide (i ≤ j))
abbrev oGt : R2 := oI0 fun i j => .bl (decide (j < i))
abbrev oGe : R2 := oI0 fun i j => .bl (decide (j ≤ i))
theorem op_oLe {X : Cx} : OpR X (compareOp .LtE) oLe := op_oI0 op_le
theorem op_oGt {X : Cx} : OpR X (compareOp .Gt) oGt := op_oI0 op_gt
theorem op_oGe {X : Cx} : OpR X (compareOp .GtE) oGe := op_oI0 op_ge
/-- a == b of scalars, of data -/
def oEq (K : PySem.W.Frag) : R2 := fun x y H Q => rEq x y H Q ∨ rEqD K x y H Q
def oNe (K : PySem.W.Frag) : R2 := fun x y H Q => rNe x y H Q ∨ rNeD K x y H Q
theorem op_oEq {X : Cx} (hu : X.A.units + 64 < cLine) : OpR X (compareOp .Eq) (oEq X.K) := op_or op_eq (op_eqD hu)
theorem op_oNe {X : Cx} (hu : X.A.units + 64 < cLine) : OpR X (compareOp .NotEq) (oNe X.K) := op_or op_ne (op_neD hu)

/-! ### slices, divmod -/
def oSlL (K : PySem.W.Frag) : V → Option Int → Option Int → Hp → VK → Prop := fun x lo hi H Q => ∃ a xs, x = .ref a ∧ SqL K H a xs ∧ NewAt H (.lst (cutV xs lo hi)) Q
theorem sl_lstN {X : Cx} : SlR X (oSlL X.K) := by
  intro pins s σ H x v vl vu lo hi sl Q I rx hs pl pu h
  obtain ⟨a, xs, e, hq, q⟩ := h
  exact sl_list pins s σ H x v vl vu lo hi sl Q I rx hs pl pu ⟨a, xs, e, hq, q.all⟩
def rDivm : List V → Hp → VK → Prop := fun xs H Q => ∃ i j, xs = [.int i, .int j] ∧ (0 < j ∧ j.natAbs.log2 < 9000) ∧ NewAt H (.tup [.int (i / j), .int (i % j)]) Q
theorem call_divmodK {X : Cx} : CallR X (.builtin "divmod") rDivm := by
  intro pins s σ H xs us Q I r h
  obtain ⟨i, j, e, hc, q⟩ := h
  exact call_divmodW pins s σ H xs us Q I r ⟨i, j, e, ⟨hc.1, PyProof.noPylong_of_log2 hc.2⟩, q.all⟩
/-! ### targets: o.f of an instance -/
def gFld (K : PySem.W.Frag) (to : TE) (f : Str) : TG := fun v σ H Q => to σ H fun x H1 => ∃ a C dx fs, x = .ref a ∧ H1 a = some (.ins C dx fs) ∧ Cls K C ∧ NoAttr K C f ∧ fs.length < 1000 ∧ Q σ (upd H1 a (.ins C dx (putF f v fs)))
theorem pg_fld {X : Cx} {o : Expr} {f : Str} {pos : Pos} {to : TE} (ho : PE X o to)
    (ha : ∀ v, assign (.Attribute o f pos) X.env v = (do
      let ov ← holding [v] (eval o X.env)
      standAt pos.atName
      holding [v, ov] (setAttr ov f v)
      release [v, ov] []) := by intro _; rfl) : PG X (.Attribute o f pos) (gFld X.K to f) := by
  refine ⟨fun pins s σ H v u Q I r h => ?_⟩
  rw [ha]
  refine wpAny_bind (wpAny_holding (thn (ho.run pins s σ H _ I h) fun ov s1 ⟨x, H1, I1, r1, a, C, dx, fs, ex, ea, c, n, l, q1⟩ => ?_))
  subst ex
  obtain rfl : ov = Value.ref a := r1
  refine wpAny_bind (wpAny_standAt (wpAny_bind (wpAny_holding (setattr_ok I1 ea c n l r fun s3 I3 => ?_))))
  exact wpAny_release ⟨σ, _, I3, q1⟩

/-! ### a def of the text, called by its name -/
section
variable (P : Program) (w : World) (K : PySem.W.Frag) (mg : Str → Option Value) (base : Heap)
/-- the module's name x holds a def that keeps sp -/
def Fn (CX : CXT) (k : Nat) (x : Str) (ps : List Str) (dvs : List V) (sp : Sp) : Prop :=
  ∃ f fd ds, FnOk P w K mg base CX k f fd ps sp ∧ mg x = some (.ref f) ∧ PySem.W.keepIn K (.ref f) = true ∧ Binds K fd ps ds ∧ Vals dvs ds
/-- the class at C has a method m that keeps sp -/
def Mt (CX : CXT) (k : Nat) (C : Addr) (m : Str) (ps : List Str) (sp : Sp) : Prop :=
  ∃ f fd, FnOk P w K mg base CX k f fd ps sp ∧ Meth K C m f ∧ Binds K fd ps [] ∧ Cls K C
/-- the name x holds a class at C that is made by an __init__ that keeps sp -/
def Cn (CX : CXT) (k : Nat) (x : Str) (C : Addr) (ps : List Str) (dvs : List V) (sp : Sp) : Prop :=
  ∃ f fd ds, FnOk P w K mg base CX k f fd ps sp ∧ Mk K C f ∧ mg x = some (.ref C) ∧ Binds K fd ps ds ∧ Vals dvs ds
end
section
variable {X : Cx} {CX : CXT} {k : Nat} {C : Addr} {x m : Str} {ps : List Str} {dvs : List V} {sp : Sp} {E : XK} {p pos apos : Pos} {e o : Expr} {es : List Expr} {ta : TE} {t : TA}
theorem pe_fn (F : Fn X.prog X.w X.K X.mg X.base CX k x ps dvs sp) (hr : Room k X.A) (hx : Passes CX X E) (ha : PA X (e :: es) t) (hg : Gl X x := by rfl)
    (hdb : (x == ("__debug__" : Str)) = false := by decide) (he : starEach (e :: es) X.env = (false, eval e X.env) :: starEach es X.env := by rfl) (hpl : (backTo pos (starEach es X.env)).any (·.1) = false := by rfl) :
    PE X (.Call (.Name x p) (e :: es) [] pos) (tCall sp dvs E t) := by
  obtain ⟨f, fd, ds, F, hm, hk, hb, hd⟩ := F
  exact pe_call F hr hg hm hk hb hd hx ha hdb he hpl
theorem pe_fn0 (F : Fn X.prog X.w X.K X.mg X.base CX k x ps dvs sp) (hr : Room k X.A) (hx : Passes CX X E) (hg : Gl X x := by rfl)
    (hdb : (x == ("__debug__" : Str)) = false := by decide) : PE X (.Call (.Name x p) [] [] pos) (tCall sp dvs E tNil) := by
  obtain ⟨f, fd, ds, F, hm, hk, hb, hd⟩ := F
  exact pe_call0 F hr hg hm hk hb hd hx hdb
/-- C(..): a new instance and its dict, then __init__ -/
def MakeR (C : Addr) (sp : Sp) (vs : List V) (H : Hp) (Q : VK) (E : XK) : Prop := ∀ x dx H', H x = none → H dx = none → dx ≠ x → Same H H' → H' x = some (.ins C dx []) → (∀ b, b ≠ x → b ≠ dx → H' b = H b) →
  sp (.ref x :: vs) H' (fun v H2 => v = .non ∧ Q (.ref x) H2) E
def tMakeN (C : Addr) (sp : Sp) (dvs : List V) (E : XK) (t : TA) : TE := fun σ H Q => t σ H fun vs H1 => MakeR C sp (vs ++ dvs) H1 Q E
theorem pe_cn (F : Cn X.prog X.w X.K X.mg X.base CX k x C ps dvs sp) (hr : Room (k + 1) X.A) (hx : Passes CX X E) (ha : PA X (e :: es) t) (hg : Gl X x := by rfl)
    (hdb : (x == ("__debug__" : Str)) = false := by decide) (he : starEach (e :: es) X.env = (false, eval e X.env) :: starEach es X.env := by rfl) (hpl : (backTo pos (starEach es X.env)).any (·.1) = false := by rfl) :
    PE X (.Call (.Name x p) (e :: es) [] pos) (tMakeN C sp dvs E t) := by
  obtain ⟨f, fd, ds, F, hM, hm, hb, hd⟩ := F
  refine ⟨fun pins s σ H Q I h => ?_⟩
  refine wpAny_Call_Name_kw (ld_glob I hg hm ?_ hdb)
  refine PySem.W.callWith_K (h₀ := X.base) I.ok.mod.kin hM.kp (thn (ha.run pos pins s σ H _ I h) fun us s1 ⟨vs, H1, I1, r, q⟩ => ⟨I1.kIn, ?_⟩) he hpl
  refine run_make hM F hr hb hd hx I1 r fun y dy n1 n2 ne => q y dy _ n1 n2 ne (fun b u z => ?_) upd_same fun b hb1 hb2 => ?_
  · rw [upd_ne (ne_of_none z n1), upd_ne (ne_of_none z n2)]; exact z
  · rw [upd_ne hb1, upd_ne hb2]
theorem pe_mt {pl : Sem Bool} (F : Mt X.prog X.w X.K X.mg X.base CX k C m ps sp) (hr : Room k X.A) (hx : Passes CX X E) (he : PE X o ta) (ha : PA X (e :: es) t)
    (hst : starEach (e :: es) X.env = (false, eval e X.env) :: starEach es X.env := by rfl) (hpl : (backTo pos (starEach es X.env)).any (·.1) = false := by rfl)
    (ht : eval (.Call (.Attribute o m apos) (e :: es) [] pos) X.env = (do
      let ov ← eval o X.env
      standAt apos.atName
      let (f, first) ← holding [ov] (getMethod ov m pl)
      callWith pos f first (backTo pos (starEach (e :: es) X.env)) (backToKw pos (keywordEach [] X.env))) := by rfl) :
    PE X (.Call (.Attribute o m apos) (e :: es) [] pos) (tMeth C m sp [] E ta t) := by
  obtain ⟨f, fd, F, hm, hb, c⟩ := F
  exact pe_meth (pl := pl) he c hm F hr hb .nil hx ha hst hpl ht
theorem pe_mt0 {pl : Sem Bool} (F : Mt X.prog X.w X.K X.mg X.base CX k C m ps sp) (hr : Room k X.A) (hx : Passes CX X E) (he : PE X o ta)
    (ht : eval (.Call (.Attribute o m apos) [] [] pos) X.env = (do
      let ov ← eval o X.env
      standAt apos.atName
      let (f, first) ← holding [ov] (getMethod ov m pl)
      callWith pos f first (backTo pos (starEach [] X.env)) (backToKw pos (keywordEach [] X.env))) := by rfl) :
    PE X (.Call (.Attribute o m apos) [] [] pos) (tMeth C m sp [] E ta tNil) := by
  obtain ⟨f, fd, F, hm, hb, c⟩ := F
  exact pe_meth0 (pl := pl) he c hm F hr hb .nil hx ht
end

/-! ### the rules with the written part named (within a comprehension) -/
section
variable {X : Cx} (K : PySem.W.Frag)
theorem call_isiE (h : X.K = K) : CallR X (.builtin "isinstance") (rIsi K) := h ▸ call_isi
theorem call_len_seqE (h : X.K = K) : CallR X (.builtin "len") (fun xs H Q => ∃ p ys, xs = [.ref p] ∧ (SqL K H p ys ∨ SqT K H p ys) ∧ Q (.int ys.length) H) := h ▸ call_len_seq
theorem op_oAddE (h : X.K = K) : OpR X (binaryOp .Add) (oAdd K) := h ▸ op_oAdd
theorem op_oEqE (h : X.K = K) (hu : X.A.units + 64 < cLine) : OpR X (compareOp .Eq) (oEq K) := h ▸ op_oEq hu
theorem op_oNeE (h : X.K = K) (hu : X.A.units + 64 < cLine) : OpR X (compareOp .NotEq) (oNe K) := h ▸ op_oNe hu
theorem op_inE (h : X.K = K) : OpR X (compareOp .In) (rIn K false) := h ▸ op_in_seq
theorem op_notInE (h : X.K = K) : OpR X (compareOp .NotIn) (rIn K true) := h ▸ op_notIn_seq
theorem ix_seqE (h : X.K = K) : IxR X (rIx K) := h ▸ ix_seq
theorem pe_fldE {e : Expr} {f : Str} {pos : Pos} {ta : TE} (h : X.K = K) (he : PE X e ta) (hb : attributeBase e f X.env (eval e X.env) = eval e X.env) : PE X (.Attribute e f pos) (tFld K ta f) := h ▸ pe_fld he hb
end
/-! ### names of the module -/
theorem pe_gint {X : Cx} {x : Str} {i : Int} {pos : Pos} (h : ∃ t, X.mg x = some (.int i t)) (hg : Gl X x := by rfl) (hd : (x == ("__debug__" : Str)) = false := by decide) : PE X (.Name x pos) (tC (.int i)) := by
  obtain ⟨t, h⟩ := h
  exact pe_glob hg h ⟨_, rfl⟩ hd
theorem pe_gref {X : Cx} {x : Str} {C : Addr} {pos : Pos} (h : X.mg x = some (.ref C)) (hg : Gl X x := by rfl) (hd : (x == ("__debug__" : Str)) = false := by decide) : PE X (.Name x pos) (tC (.ref C)) := pe_glob hg h rfl hd
/-- the built-ins that the text does not hide -/
structure Blt (mg : Str → Option Value) : Prop where
  len : mg "len" = none
  int : mg "int" = none
  bool : mg "bool" = none
  str : mg "str" = none
  isinstance : mg "isinstance" = none
  abs : mg "abs" = none
  max : mg "max" = none
  min : mg "min" = none
  divmod : mg "divmod" = none
  range : mg "range" = none
  enumerate : mg "enumerate" = none
  zip : mg "zip" = none
  list : mg "list" = none
  tuple : mg "tuple" = none
  ord : mg "ord" = none
  sorted : mg "sorted" = none
def bltNames : List Str := ["len", "int", "bool", "str", "isinstance", "abs", "max", "min", "divmod", "range", "enumerate", "zip", "list", "tuple", "ord", "sorted"]
theorem blt_of {mg : Str → Option Value} (h : ∀ x ∈ bltNames, mg x = none) : Blt mg := by
  have g : ∀ x, x ∈ bltNames → mg x = none := h
  exact ⟨g _ (by simp [bltNames]), g _ (by simp [bltNames]), g _ (by simp [bltNames]), g _ (by simp [bltNames]), g _ (by simp [bltNames]), g _ (by simp [bltNames]), g _ (by simp [bltNames]), g _ (by simp [bltNames]), g _ (by simp [bltNames]), g _ (by simp [bltNames]), g _ (by simp [bltNames]), g _ (by simp [bltNames]), g _ (by simp [bltNames]), g _ (by simp [bltNames]), g _ (by simp [bltNames]), g _ (by simp [bltNames])⟩
section
variable {X : Cx}
theorem pe_tyInt {pos : Pos} (B : Blt X.mg) (hg : Gl X "int" := by rfl) : PE X (.Name "int" pos) (tC (.ty "int")) := pe_bltn (u := .type "int") hg B.int (by decide +kernel) rfl
theorem pe_tyBool {pos : Pos} (B : Blt X.mg) (hg : Gl X "bool" := by rfl) : PE X (.Name "bool" pos) (tC (.ty "bool")) := pe_bltn (u := .type "bool") hg B.bool (by decide +kernel) rfl
theorem pe_tyStr {pos : Pos} (B : Blt X.mg) (hg : Gl X "str" := by rfl) : PE X (.Name "str" pos) (tC (.ty "str")) := pe_bltn (u := .type "str") hg B.str (by decide +kernel) rfl
end
end Up

set_option Elab.async false
set_option linter.all false
set_option maxRecDepth 100000
set_option maxHeartbeats 4000000
namespace Up
open PySem PySem.Spec PyProof.Rows L2
/-! ### one step of a reading each -/
section
variable {K : PySem.W.Frag} {D : Ends} {σ : L2.St} {H : Hp} {Q : VK} {ta tb te : TE} {t u : TS} {c d : TT}
theorem g_seq (h : t { D with nx := u D } σ H) : tSeq t u D σ H := h
theorem g_ifs (h : c σ H fun b H1 => if b = true then t D σ H1 else u D σ H1) : tIfS c t u D σ H := h
theorem g_asg {g : TG} (h : te σ H fun x H1 => g x σ H1 D.nx) : tAsg te g D σ H := h
theorem g_name {i : Nat} {v : V} {R : L2.St → Hp → Prop} (h : R (σ.set i (some v)) H) : gName i v σ H R := h
theorem g_drop (h : te σ H fun _ H1 => D.nx σ H1) : tDrop te D σ H := h
theorem g_ret (h : te σ H D.rt) : tRet te D σ H := h
theorem g_retN (h : D.rt .non H) : tRetN D σ H := h
theorem g_next (h : D.nx σ H) : tNext D σ H := h
theorem g_sfld {f : Str} (h : te σ H fun y H1 => ta σ H1 fun x H2 => ∃ a C dx fs, x = .ref a ∧ H2 a = some (.ins C dx fs) ∧ Cls K C ∧ NoAttr K C f ∧ fs.length < 1000 ∧ D.nx σ (upd H2 a (.ins C dx (putF f y fs)))) : sFld K ta te f D σ H := h
theorem g_var {i : Nat} {v : V} (e : σ[i]? = some (some v)) (h : Q v H) : tVar i σ H Q := ⟨v, e, h⟩
theorem g_c {v : V} (h : Q v H) : tC v σ H Q := h
theorem g_op {r : R2} (h : ta σ H fun x H1 => tb σ H1 fun y H2 => r x y H2 Q) : tOp r ta tb σ H Q := h
theorem g_un {r : V → Hp → VK → Prop} (h : ta σ H fun x H1 => r x H1 Q) : tUn r ta σ H Q := h
theorem g_neg {i : Int} (h : Q (.int (-i)) H) : rU (fun i => .int (-i)) (.int i) H Q := ⟨i, rfl, h⟩
theorem g_if (h : c σ H fun b H1 => if b = true then ta σ H1 Q else tb σ H1 Q) : tIf c ta tb σ H Q := h
theorem g_cb {r : List V → Hp → VK → Prop} {t : TA} (h : t σ H fun vs H1 => r vs H1 Q) : tCB r t σ H Q := h
theorem g_cons {t : TA} {R : List V → Hp → Prop} (h : ta σ H fun x H1 => t σ H1 fun xs H2 => R (x :: xs) H2) : tCons ta t σ H R := h
theorem g_nil {R : List V → Hp → Prop} (h : R [] H) : tNil σ H R := h
theorem g_bits (h : ta σ H fun x H1 => ∃ i, x = .int i ∧ Q (.int (Builtin.Int.intBits i : Nat)) H1) : tBits ta σ H Q := h
theorem g_call {sp : Sp} {dvs : List V} {E : XK} {t : TA} (h : t σ H fun vs H1 => sp (vs ++ dvs) H1 Q E) : tCall sp dvs E t σ H Q := h
theorem g_fld {f : Str} (h : ta σ H fun x H1 => ∃ a C dx fs v, x = .ref a ∧ H1 a = some (.ins C dx fs) ∧ Cls K C ∧ NoAttr K C f ∧ fs.lookup f = some v ∧ Q v H1) : tFld K ta f σ H Q := h
theorem g_gtup {n : Nat} {t : TGs} {v : V} {R : L2.St → Hp → Prop} (h : ∃ a xs, v = .ref a ∧ SqT K H a xs ∧ xs.length = n ∧ t xs σ H R) : gTup K n t v σ H R := h
theorem g_gcons {t : TG} {u : TGs} {v : V} {r : List V} {R : L2.St → Hp → Prop} (h : t v σ H fun σ' H' => u r σ' H' R) : gCons t u (v :: r) σ H R := ⟨v, r, rfl, h⟩
theorem g_gnil {R : L2.St → Hp → Prop} (h : R σ H) : gNil [] σ H R := ⟨rfl, h⟩
theorem g_gfld {f : Str} {v : V} {R : L2.St → Hp → Prop} (h : ta σ H fun x H1 => ∃ a C dx fs, x = .ref a ∧ H1 a = some (.ins C dx fs) ∧ Cls K C ∧ NoAttr K C f ∧ fs.length < 1000 ∧ R σ (upd H1 a (.ins C dx (putF f v fs)))) : gFld K ta f v σ H R := h
/-! tests -/
section
variable {R : Bool → Hp → Prop} {T : Bool → Prop}
theorem g_tt (h : ta σ H fun x H' => ∃ k, x = .bl k ∧ R k H') : tTest ta σ H R := h
theorem g_tB (h : ta σ H fun x H' => ∃ k, x = .bl k ∧ R k H') : tB ta σ H R := h
theorem g_bl {b : Bool} (h : T b) : ∃ k, V.bl b = .bl k ∧ T k := ⟨b, rfl, h⟩
theorem g_and (h : c σ H fun k H1 => if k = true then d σ H1 R else R false H1) : tAnd c d σ H R := h
theorem g_or (h : c σ H fun k H1 => if k = true then R true H1 else d σ H1 R) : tOr c d σ H R := h
theorem g_not (h : c σ H fun k H1 => R (!k) H1) : tNot c σ H R := h
theorem g_andV (h : ta σ H fun x H1 => ∃ c, x = .bl c ∧ if c = true then tb σ H1 Q else Q (.bl false) H1) : tAndV ta tb σ H Q := h
theorem g_orV (h : ta σ H fun x H1 => ∃ c, x = .bl c ∧ if c = true then Q (.bl true) H1 else tb σ H1 Q) : tOrV ta tb σ H Q := h
theorem g_notV (h : ta σ H fun x H1 => ∃ c, x = .bl c ∧ Q (.bl (!c)) H1) : tNotV ta σ H Q := h
end
/-! ints -/
section
variable {i j : Int}
theorem g_addI (h : Q (.int (i + j)) H) : oAdd K (.int i) (.int j) H Q := h
theorem g_addS {a b : Str} (hz : a.length + b.length ≤ sizeLine) (h : Q (.str (a ++ b)) H) : oAdd K (.str a) (.str b) H Q := ⟨hz, h⟩
theorem g_subI (h : Q (.int (i - j)) H) : oSub (.int i) (.int j) H Q := h
theorem g_subB {i j : Bool} (h : Q (.int (b2i i - b2i j)) H) : oSub (.bl i) (.bl j) H Q := h
theorem g_mulI (hm : IntMulOk i j) (h : Q (.int (i * j)) H) : oMul (.int i) (.int j) H Q := ⟨hm, h⟩
theorem g_divI (hm : j ≠ 0) (hl : j.natAbs.log2 < 9000) (h : Q (.int (i.fdiv j)) H) : oDiv (.int i) (.int j) H Q := ⟨⟨hm, hl⟩, h⟩
theorem g_modI (hm : j ≠ 0) (h : Q (.int (i.fmod j)) H) : oMod (.int i) (.int j) H Q := ⟨hm, h⟩
theorem g_II {C : Int → Int → Prop} {g : Int → Int → V} (hm : C i j) (h : Q (g i j) H) : oII C g (.int i) (.int j) H Q := ⟨hm, h⟩
theorem g_I0 {g : Int → Int → V} (h : Q (g i j) H) : oI0 g (.int i) (.int j) H Q := h
theorem g_cmpI {g : Int → Int → Bool} {k : Str → Str → Bool} (h : Q (.bl (g i j)) H) : oCmp g k (.int i) (.int j) H Q := h
theorem g_bitsI {T : Int → Prop} (h : T i) : ∃ n, V.int i = .int n ∧ T n := ⟨i, rfl, h⟩
theorem g_eqI (h : Q (.bl (decide (i = j))) H) : oEq K (.int i) (.int j) H Q := by
  refine Or.inl ⟨rfl, ?_⟩
  have e : decide (V.int i = V.int j) = decide (i = j) := by simp
  rw [e]; exact h
theorem g_neI (h : Q (.bl (!decide (i = j))) H) : oNe K (.int i) (.int j) H Q := by
  refine Or.inl ⟨rfl, ?_⟩
  have e : decide (V.int i = V.int j) = decide (i = j) := by simp
  rw [e]; exact h
theorem g_eqS {a b : Str} (h : Q (.bl (decide (a = b))) H) : oEq K (.str a) (.str b) H Q := by
  refine Or.inl ⟨rfl, ?_⟩
  have e : decide (V.str a = V.str b) = decide (a = b) := by simp
  rw [e]; exact h
theorem g_neS {a b : Str} (h : Q (.bl (!decide (a = b))) H) : oNe K (.str a) (.str b) H Q := by
  refine Or.inl ⟨rfl, ?_⟩
  have e : decide (V.str a = V.str b) = decide (a = b) := by simp
  rw [e]; exact h
theorem g_eqB {a b : Bool} (h : Q (.bl (decide (a = b))) H) : oEq K (.bl a) (.bl b) H Q := by
  refine Or.inl ⟨rfl, ?_⟩
  have e : decide (V.bl a = V.bl b) = decide (a = b) := by simp
  rw [e]; exact h
theorem g_neB {a b : Bool} (h : Q (.bl (!decide (a = b))) H) : oNe K (.bl a) (.bl b) H Q := by
  refine Or.inl ⟨rfl, ?_⟩
  have e : decide (V.bl a = V.bl b) = decide (a = b) := by simp
  rw [e]; exact h
theorem g_eqx {x y : V} (hs : scal x y = true) (hn : x ≠ y) (h : Q (.bl false) H) : oEq K x y H Q := by
  refine Or.inl ⟨hs, ?_⟩
  rw [decide_eq_false hn]; exact h
theorem g_nex {x y : V} (hs : scal x y = true) (hn : x ≠ y) (h : Q (.bl true) H) : oNe K x y H Q := by
  refine Or.inl ⟨hs, ?_⟩
  rw [decide_eq_false hn]; exact h
theorem g_isN {x : V} (h : Q (.bl (decide (x = .non))) H) : (fun x y H Q => y = V.non ∧ Q (.bl (decide (x = .non))) H : R2) x .non H Q := ⟨rfl, h⟩
end
/-! ifs -/
theorem g_ite {p : Prop} [Decidable p] {A B : Prop} (h1 : p → A) (h2 : ¬ p → B) : if decide p = true then A else B := by
  by_cases h : p
  · rw [if_pos (decide_eq_true h)]; exact h1 h
  · rw [if_neg (by simp [h])]; exact h2 h
theorem g_iten {p : Prop} [Decidable p] {A B : Prop} (h1 : ¬ p → A) (h2 : p → B) : if (!decide p) = true then A else B := by
  by_cases h : p
  · rw [if_neg (by simp [h])]; exact h2 h
  · rw [if_pos (by simp [h])]; exact h1 h
theorem g_iteb {b : Bool} {A B : Prop} (h1 : b = true → A) (h2 : b = false → B) : if b = true then A else B := by
  cases b
  · exact h2 rfl
  · exact h1 rfl
theorem g_yes {p : Prop} [Decidable p] {A B : Prop} (hp : p) (h : A) : if decide p = true then A else B := by
  rw [if_pos (decide_eq_true hp)]; exact h
theorem g_no {p : Prop} [Decidable p] {A B : Prop} (hp : ¬ p) (h : B) : if decide p = true then A else B := by
  rw [if_neg (by simp [hp])]; exact h
theorem g_cut {t u : TS} (R : L2.St → Hp → Prop) (h1 : t { D with nx := R } σ H) (h2 : ∀ σ' H', R σ' H' → u D σ' H') : C8.tCut t u D σ H := ⟨R, h1, h2⟩
theorem g_meth {C : Addr} {m : Str} {sp : Sp} {dvs : List V} {E : XK} {t : TA} (h : ta σ H fun x H1 => ∃ a dx fs, x = .ref a ∧ H1 a = some (.ins C dx fs) ∧ fs.lookup m = none ∧ t σ H1 fun vs H2 => sp (x :: (vs ++ dvs)) H2 Q E) : tMeth C m sp dvs E ta t σ H Q := h
theorem g_par {i j : Nat} {ta : TA} (h : ta σ H fun vs H1 => ∃ v w, vs = [v, w] ∧ D.nx ((σ.set i (some v)).set j (some w)) H1) : tPar i j ta D σ H := h
theorem g_par2 {a b : V} {T : V → V → Prop} (h : T a b) : ∃ v w, [a, b] = [v, w] ∧ T v w := ⟨a, b, rfl, h⟩
theorem g_rfl {a : V} {T : Prop} (h : T) : a = a ∧ T := ⟨rfl, h⟩
theorem g_ixT {p : Addr} {xs : List V} {i : Int} {v : V} (h : H p = some (.tup xs)) (e : atI xs i = some v) (q : Q v H) : rIx K (.ref p) (.int i) H Q := .inr (.inl ⟨p, xs, i, v, rfl, rfl, SqT.of h, e, q⟩)
theorem g_ixL {p : Addr} {xs : List V} {i : Int} {v : V} (h : H p = some (.lst xs)) (e : atI xs i = some v) (q : Q v H) : rIx K (.ref p) (.int i) H Q := .inl ⟨p, xs, i, v, rfl, rfl, SqL.of h, e, q⟩
/-! loops -/
theorem g_for {wi : TI} {g : TG} {tb : TS} (h : wi σ H fun J H1 => ∃ W : Nat → Nat → L2.St → Hp → Prop, (∃ m, W 0 m σ H1) ∧ ∀ i m σ H, W i m σ H →
  (J.stop i H ∧ D.nx σ H) ∨ (J.go i H ∧ ∃ N : L2.St → Hp → Prop, (∀ σ' H', N σ' H' → ∃ m', m' < m ∧ W (i + 1) m' σ' H') ∧ ∀ x H', J.yld i H x H' → g x σ H' fun σ2 H2 => tb { D with nx := N, ct := N, bk := D.nx } σ2 H2)) : tFor wi g tb D σ H := h
theorem g_iList {R : It → Hp → Prop} (h : te σ H fun x H1 => ∃ a, x = .ref a ∧ (∃ xs, SqL K H1 a xs) ∧ R (Itl K a) H1) : iList K te σ H R := h
theorem g_iTup {R : It → Hp → Prop} (h : te σ H fun x H1 => ∃ a, x = .ref a ∧ (∃ xs, SqT K H1 a xs) ∧ R (Itt K a) H1) : iTup K te σ H R := h
theorem g_iRng1 {ta : TA} {R : It → Hp → Prop} (h : ta σ H fun vs H1 => ∃ j : Int, vs = [.int j] ∧ -(2 ^ 62) ≤ j ∧ j < 2 ^ 62 ∧ R (Itr 0 j.toNat) H1) : iRng1 ta σ H R := h
theorem g_iEnum {ta : TA} {R : It → Hp → Prop} (h : ta σ H fun vs H1 => ∃ a xs, vs = [.ref a] ∧ SqL K H1 a xs ∧ R (Ite K a) H1) : iEnum K ta σ H R := h
theorem g_slice {r : V → Option Int → Option Int → Hp → VK → Prop} {tl th : TO} (h : te σ H fun x H1 => tl σ H1 fun l H2 => th σ H2 fun u H3 => r x l u H3 Q) : tSl r te tl th σ H Q := h
theorem g_po0 {R : Option Int → Hp → Prop} (h : R none H) : tNoPart σ H R := h
theorem g_po1 {R : Option Int → Hp → Prop} (h : te σ H fun x H1 => ∃ i, x = .int i ∧ R (some i) H1) : tPart te σ H R := h
theorem g_poI {i : Int} {T : Int → Prop} (h : T i) : ∃ n, V.int i = .int n ∧ T n := ⟨i, rfl, h⟩
theorem g_gsub {to ti : TE} {t : TSet} {v : V} {R : L2.St → Hp → Prop} (h : to σ H fun o H1 => ti σ H1 fun i H2 => t o i v H2 fun H3 => R σ H3) : gSub to ti t v σ H R := h
theorem g_intI {i : Int} {T : Int → Prop} {U : Prop} (h : T i) : (∃ j, [V.int i] = [.int j] ∧ T j) ∨ U := .inl ⟨i, rfl, h⟩
theorem g_intB {b : Bool} {T : Bool → Prop} {U : Prop} (h : T b) : U ∨ ∃ k, [V.bl b] = [.bl k] ∧ T k := .inr ⟨b, rfl, h⟩
theorem g_setL {p : Addr} {xs : List V} {k : Int} {j : Nat} {v : V} {R : Hp → Prop} (h : H p = some (.lst xs)) (e : ixN xs.length k = some j) (q : ∀ H', H' p = some (.lst (xs.set j v)) → (∀ b, b ≠ p → H' b = H b) → R H') : rSetL (.ref p) (.int k) v H R :=
  ⟨p, xs, k, j, rfl, rfl, h, e, q _ upd_same fun b hb => upd_ne hb⟩
theorem g_max2 {i j : Int} {T : Int → Int → Prop} (h : T i j) : ∃ a b, [V.int i, V.int j] = [.int a, .int b] ∧ T a b := ⟨i, j, rfl, h⟩
theorem g_abs1 {i : Int} {T : Int → Prop} (h : T i) : ∃ a, [V.int i] = [.int a] ∧ T a := ⟨i, rfl, h⟩
theorem g_lenL {p : Addr} {xs : List V} {T : List V → Prop} (h : H p = some (.lst xs)) (q : T xs) : ∃ p' ys, [V.ref p] = [.ref p'] ∧ (SqL K H p' ys ∨ SqT K H p' ys) ∧ T ys := ⟨p, xs, rfl, .inl (SqL.of h), q⟩
theorem g_lc {wi : TI} {g : TG} {tt : TT} {vs : List Nat} (h : wi σ H fun J H1 => ∀ D, H1 D = none → ∃ W : Nat → Nat → Hp → Prop, (∃ m, W 0 m (upd H1 D (.lst []))) ∧ ∀ i m H, W i m H →
  (J.stop i H ∧ Q (.ref D) H) ∨ (J.go i H ∧ ∃ Nx : Hp → Prop, (∀ H', Nx H' → ∃ m', m' < m ∧ W (i + 1) m' H') ∧ ∀ x H', J.yld i H x H' → g x (wipe σ vs) H' fun σ2 H2 => wipe σ2 vs = wipe σ vs ∧ tt σ2 H2 fun b H3 =>
    if b = true then te σ2 H3 fun y H4 => ∃ acc, H4 D = some (.lst acc) ∧ acc.length < sizeLine ∧ Nx (upd H4 D (.lst (acc ++ [y]))) else Nx H3)) : tLc wi g tt te vs σ H Q := h
theorem g_yesT {R : Bool → Hp → Prop} (h : R true H) : tYes σ H R := h
theorem dp_bl : ∀ bs : List Bool, DpAll K H (bs.map V.bl) (bs.map PyData.bool)
  | [] => .nil
  | b :: bs => .cons (.bl b) (dp_bl bs)
theorem g_eqBs {a b : Addr} {bs : List Bool} (ha : H a = some (.lst (bs.map V.bl))) (hb : H b = some (.lst (bs.map V.bl))) (hs : SeqAt.shaped (.list (bs.map PyData.bool)) = true) (q : Q (.bl true) H) : oEq K (.ref a) (.ref b) H Q := by
  refine .inr ⟨_, _, .lst (SqL.of ha) (dp_bl bs), .lst (SqL.of hb) (dp_bl bs), hs, hs, ?_⟩
  rw [SeqAt.eqv_refl _ (SeqAt.canLay_of_shaped hs)]
  exact q
/-! new objects -/
theorem g_tup {t : TA} (h : t σ H fun xs H1 => xs.length ≤ sizeLine ∧ NewAt H1 (.tup xs) Q) : tTupN t σ H Q := h
theorem g_lst {t : TA} (h : t σ H fun xs H1 => xs.length ≤ sizeLine ∧ NewAt H1 (.lst xs) Q) : tLstN t σ H Q := h
theorem g_new {n : Nat} {o : HO} (hn : n ≤ sizeLine) (h : ∀ p H', H p = none → Same H H' → H' p = some o → (∀ b, b ≠ p → H' b = H b) → Q (.ref p) H') : n ≤ sizeLine ∧ NewAt H o Q := ⟨hn, h⟩
theorem g_make {C : Addr} {sp : Sp} {dvs : List V} {E : XK} {t : TA} (h : t σ H fun vs H1 => MakeR C sp (vs ++ dvs) H1 Q E) : tMakeN C sp dvs E t σ H Q := h
end
end Up

set_option Elab.async false
set_option linter.all false
set_option maxRecDepth 100000
set_option maxHeartbeats 4000000
namespace Up
open PySem PySem.Spec PyProof.Rows L2
/-! ### what a call hands back, over a heap in which all that stood stands -/
abbrev Ret (H : Hp) (v : V) (Q : VK) : Prop := ∀ H', Same H H' → Q v H'
abbrev RetT (H : Hp) (xs : List V) (Q : VK) : Prop := ∀ H' a, H a = none → Same H H' → H' a = some (.tup xs) → Q (.ref a) H'
abbrev RetL (H : Hp) (xs : List V) (Q : VK) : Prop := ∀ H' a, H a = none → Same H H' → H' a = some (.lst xs) → Q (.ref a) H'
/-! ### what is known of a value's kind -/
def isI : V → Bool
  | .int _ => true
  | _ => false
def isB : V → Bool
  | .bl _ => true
  | _ => false
def isS : V → Bool
  | .str _ => true
  | _ => false
/-- the classes int, bool, str asked of x -/
structure Kn (K : PySem.W.Frag) (H : Hp) (x : V) (t : Value) : Prop where
  ty : TyX K H x t
  int : PySem.W.kitOne K t (.type "int") = some (isI x || isB x)
  bool : PySem.W.kitOne K t (.type "bool") = some (isB x)
  str : PySem.W.kitOne K t (.type "str") = some (isS x)
theorem kn_non {K : PySem.W.Frag} {H : Hp} : Kn K H .non (.type "NoneType") := ⟨.base .non, kit_ty (r := false) (by decide +kernel), kit_ty (r := false) (by decide +kernel), kit_ty (r := false) (by decide +kernel)⟩
theorem kn_bl {K : PySem.W.Frag} {H : Hp} {b : Bool} : Kn K H (.bl b) (.type "bool") := ⟨.base (.bl b), kit_ty (r := true) (by decide +kernel), kit_ty (r := true) (by decide +kernel), kit_ty (r := false) (by decide +kernel)⟩
theorem kn_int {K : PySem.W.Frag} {H : Hp} {i : Int} : Kn K H (.int i) (.type "int") := ⟨.base (.int i), kit_ty (r := true) (by decide +kernel), kit_ty (r := false) (by decide +kernel), kit_ty (r := false) (by decide +kernel)⟩
theorem kn_str {K : PySem.W.Frag} {H : Hp} {i : Str} : Kn K H (.str i) (.type "str") := ⟨.base (.str i), kit_ty (r := false) (by decide +kernel), kit_ty (r := false) (by decide +kernel), kit_ty (r := true) (by decide +kernel)⟩
theorem kn_lst {K : PySem.W.Frag} {H : Hp} {a : Addr} {xs : List V} (h : H a = some (.lst xs)) : Kn K H (.ref a) (.type "list") := ⟨.base (.lst h), kit_ty (r := false) (by decide +kernel), kit_ty (r := false) (by decide +kernel), kit_ty (r := false) (by decide +kernel)⟩
theorem kn_tup {K : PySem.W.Frag} {H : Hp} {a : Addr} {xs : List V} (h : H a = some (.tup xs)) : Kn K H (.ref a) (.type "tuple") := ⟨.base (.tup h), kit_ty (r := false) (by decide +kernel), kit_ty (r := false) (by decide +kernel), kit_ty (r := false) (by decide +kernel)⟩
theorem kn_dK {K : PySem.W.Frag} {H : Hp} {a : Addr} {xs : List (Key × V)} (h : H a = some (.dK xs)) : Kn K H (.ref a) (.type "dict") := ⟨.base (.dK h), kit_ty (r := false) (by decide +kernel), kit_ty (r := false) (by decide +kernel), kit_ty (r := false) (by decide +kernel)⟩
/-- an own class whose instances are no int, bool, str -/
structure OwnC (K : PySem.W.Frag) (C : Addr) : Prop where
  cl : Cls K C
  ha : PySem.W.findIn K (.ref C) "__class__" = some (some (.builtin "object.__class__"))
  hn : PySem.W.specialIn K (.builtin "object.__class__") "__get__" = some (some (.builtin "getset_descriptor.__get__"))
  htk : PySem.W.takesIn K (.builtin "object.__class__") = some true
  hm : PySem.W.mroIn K C (.type "object") = some true
  int : PySem.W.kitOne K (.ref C) (.type "int") = some false
  bool : PySem.W.kitOne K (.ref C) (.type "bool") = some false
  str : PySem.W.kitOne K (.ref C) (.type "str") = some false
theorem kn_ins {K : PySem.W.Frag} {H : Hp} {a C dx : Addr} {fs : List (Str × V)} (T : OwnC K C) (h : H a = some (.ins C dx fs)) : Kn K H (.ref a) (.ref C) := ⟨.base (.ins h T.cl T.ha T.hn T.htk T.hm), T.int, T.bool, T.str⟩
theorem g_isi {K : PySem.W.Frag} {H : Hp} {Q : VK} {x c : V} {t u : Value} {b : Bool} (ht : TyX K H x t) (hc : ClsV c u) (hk : PySem.W.kitOne K t u = some b) (q : Q (.bl b) H) : rIsi K [x, c] H Q := ⟨x, c, t, u, b, rfl, hc, ht, hk, q⟩
section
variable {K : PySem.W.Frag} {H H' : Hp} {Q : VK} {x : V} {t : Value}
theorem TyX.same (s : Same H H') (h : TyX K H x t) : TyX K H' x t := by
  cases h with
  | base h => cases h with
    | non => exact .base .non
    | bl b => exact .base (.bl b)
    | int b => exact .base (.int b)
    | str b => exact .base (.str b)
    | flt b => exact .base (.flt b)
    | lst e => exact .base (.lst (s _ _ e))
    | frz e => exact .base (.frz (s _ _ e))
    | tup e => exact .base (.tup (s _ _ e))
    | dK e => exact .base (.dK (s _ _ e))
    | dT e => exact .base (.dT (s _ _ e))
    | ins e c h1 h2 h3 h4 => exact .base (.ins (s _ _ e) c h1 h2 h3 h4)
  | byt b => exact .byt b
  | set e => exact .set (s _ _ e)
  | kList e c => exact .kList e c
  | kTuple e c => exact .kTuple e c
  | kDict e c => exact .kDict e c
  | fTuple e => exact .fTuple (s _ _ e)
  | fDict e => exact .fDict (s _ _ e)
theorem Kn.same (s : Same H H') (h : Kn K H x t) : Kn K H' x t := ⟨TyX.same s h.ty, h.int, h.bool, h.str⟩
theorem g_isiInt (h : Kn K H x t) (q : Q (.bl (isI x || isB x)) H) : rIsi K [x, .ty "int"] H Q := g_isi h.ty (.ty _) h.int q
theorem g_isiBool (h : Kn K H x t) (q : Q (.bl (isB x)) H) : rIsi K [x, .ty "bool"] H Q := g_isi h.ty (.ty _) h.bool q
theorem g_isiStr (h : Kn K H x t) (q : Q (.bl (isS x)) H) : rIsi K [x, .ty "str"] H Q := g_isi h.ty (.ty _) h.str q
end
end Up

set_option Elab.async false
set_option linter.all false
set_option maxRecDepth 100000
set_option maxHeartbeats 4000000
namespace Up
open PySem PySem.Spec PyProof.Rows L2 PySem.SeqAt HN
/-! ### == of None and of instances of a class without an own one -/
structure IdC (K : PySem.W.Frag) (C : Addr) : Prop where
  hm : PySem.W.mroIn K C (.type "object") = some true
  he : PySem.W.findIn K (.ref C) "__eq__" = some (some (.builtin "object.__eq__"))
  hn : PySem.W.subIn K (.ref C) (.type "NoneType") = some false
section
variable {M : Model} {prog : Program} {w : World} {A : Around} {E : Value → Shared → Prop} {s : Shared} {K : PySem.W.Frag} {x y C : Addr} {ox oy : Obj} {od oe : Option Obj}
theorem inst_nt (I : PySem.W.InstAt s.heap x ox C od) : ox.cls ≠ .type "tuple" := by
  obtain ⟨_, hc, _, _⟩ := I
  rw [hc]; exact fun z => nomatch z
theorem obj_other {Q : Value → Shared → Prop} (X : K.In s.heap) (I : PySem.W.InstAt s.heap x ox C od) (J : PySem.W.InstAt s.heap y oy C oe) (T : IdC K C) (hxy : x ≠ y) (hq : Q .notImplemented s) :
    wpAny (model prog w) A (call (.builtin "object.__eq__") [.ref x, .ref y]) Q E s :=
  wpAny_call (codeAny_call_builtin PySem.F.cmp_object.eq.plain PySem.F.cmpEntry_eq (PySem.W.check_slot PySem.F.cmpKind_eq PySem.F.cmpSplit_eq (I.type.andThen (PySem.W.looks_mroIn X T.hm)) (PySem.F.cmpArgs_eq _ _) (objEq_entry_other hxy I.1 J.1 (inst_nt I) hq)))
theorem obj_same {Q : Value → Shared → Prop} (X : K.In s.heap) (I : PySem.W.InstAt s.heap x ox C od) (T : IdC K C) (hq : Q (.bool true) s) :
    wpAny (model prog w) A (call (.builtin "object.__eq__") [.ref x, .ref x]) Q E s :=
  wpAny_call (codeAny_call_builtin PySem.F.cmp_object.eq.plain PySem.F.cmpEntry_eq (PySem.W.check_slot PySem.F.cmpKind_eq PySem.F.cmpSplit_eq (I.type.andThen (PySem.W.looks_mroIn X T.hm)) (PySem.F.cmpArgs_eq _ _) (objEq_entry_same hq)))
theorem try_other {Q : Option Value → Shared → Prop} (X : K.In s.heap) (I : PySem.W.InstAt s.heap x ox C od) (J : PySem.W.InstAt s.heap y oy C oe) (T : IdC K C) (hxy : x ≠ y) (hq : Q none s) :
    wpAny (model prog w) A (tryCompare (.ref x) "__eq__" (.ref y)) Q E s := by
  unfold tryCompare
  exact wpAny_bind (ifBound_objEq X I T.he (obj_other X I J T hxy (wpAny_pure hq)))
theorem try_same {Q : Option Value → Shared → Prop} (X : K.In s.heap) (I : PySem.W.InstAt s.heap x ox C od) (T : IdC K C) (hq : Q (some (.bool true)) s) :
    wpAny (model prog w) A (tryCompare (.ref x) "__eq__" (.ref x)) Q E s := by
  unfold tryCompare
  exact wpAny_bind (ifBound_objEq X I T.he (obj_same X I T (wpAny_pure hq)))
theorem try_rn {Q : Option Value → Shared → Prop} (X : K.In s.heap) (I : PySem.W.InstAt s.heap x ox C od) (T : IdC K C) (hq : Q none s) :
    wpAny (model prog w) A (tryCompare (.ref x) "__eq__" .none) Q E s := by
  unfold tryCompare
  exact wpAny_bind (ifBound_objEq X I T.he (HN.call_objEq X I T.hm (wpAny_pure hq)))
theorem try_nr {Q : Option Value → Shared → Prop} (hq : Q none s) : wpAny (model prog w) A (tryCompare .none "__eq__" (.ref x)) Q E s :=
  wpAny_tryCompare_declines (show s.TypeIs .none "NoneType" from rfl) PySem.F.slot_NoneType_eq_refl (call_gives PySem.F.slot_NoneType_eq_refl rfl PySem.F.entry_NoneType_eq (PySem.F.args_NoneType_eq_2 _ _) (NoneType___eq___none_ref_0 x) ⟨rfl, hq⟩)
theorem rc_same {Q : Value → Shared → Prop} (hu : A.units < cLine) (X : K.In s.heap) (I : PySem.W.InstAt s.heap x ox C od) (T : IdC K C) (hq : Q (.bool true) s) : wpAny (model prog w) A (richCompare .Eq (.ref x) (.ref x)) Q E s := by
  simp only [richCompare, cmpInfo_Eq, oneThing_ref]
  refine wpAny_holding (wpAny_bind (wpAny_cRoomFor hu ?_))
  refine wpAny_bind (I.type.here (wpAny_bind (I.type.here ?_)))
  simp only [bne_self_eq_false, Bool.false_eq_true, if_false]
  refine wpAny_bind (wpAny_pure (wpAny_bind (m := tryCompare (.ref x) _ (.ref x)) (try_same X I T ?_)))
  exact wpAny_pure hq
theorem rc_other {Q : Value → Shared → Prop} (hu : A.units < cLine) (X : K.In s.heap) (I : PySem.W.InstAt s.heap x ox C od) (J : PySem.W.InstAt s.heap y oy C oe) (T : IdC K C) (hxy : x ≠ y) (hq : Q (.bool false) s) : wpAny (model prog w) A (richCompare .Eq (.ref x) (.ref y)) Q E s := by
  simp only [richCompare, cmpInfo_Eq, oneThing_ref]
  refine wpAny_holding (wpAny_bind (wpAny_cRoomFor hu ?_))
  refine wpAny_bind (I.type.here (wpAny_bind (J.type.here ?_)))
  simp only [bne_self_eq_false, Bool.false_eq_true, if_false]
  refine wpAny_bind (wpAny_pure (wpAny_bind (m := tryCompare (.ref x) _ (.ref y)) (try_other X I J T hxy ?_)))
  simp only [Bool.false_eq_true, if_false, Bool.not_false, if_true]
  refine wpAny_bind (m := tryCompare (.ref y) _ (.ref x)) (try_other X J I T hxy.symm ?_)
  exact wpAny_bind (wpAny_rule (wpAny_bind (wpAny_isSame_ref_other hxy I.1 J.1 (inst_nt I) (wpAny_pure hq))))
theorem rc_nr {Q : Value → Shared → Prop} (hu : A.units < cLine) (X : K.In s.heap) (I : PySem.W.InstAt s.heap x ox C od) (T : IdC K C) (hq : Q (.bool false) s) : wpAny (model prog w) A (richCompare .Eq .none (.ref x)) Q E s := by
  have h0 : oneThing? .Eq .none (.ref x) = none := rfl
  simp only [richCompare, cmpInfo_Eq, h0]
  refine wpAny_holding (wpAny_bind (wpAny_cRoomFor hu ?_))
  refine wpAny_bind (wpAny_typeOf (show s.TypeIs .none "NoneType" from rfl) (wpAny_bind (I.type.here ?_)))
  split
  · refine wpAny_bind ((PySem.W.looks_subIn X T.hn).here ?_)
    simp only [Bool.false_eq_true, if_false, Bool.not_false, if_true]
    refine wpAny_bind (m := tryCompare .none _ (.ref x)) (try_nr ?_)
    refine wpAny_bind (m := tryCompare (.ref x) _ .none) (try_rn X I T ?_)
    exact wpAny_bind (wpAny_rule (wpAny_bind (wpAny_of_eq (rfl : isSame .none (.ref x) = pure false) (wpAny_pure hq))))
  · rename_i q
    exact absurd (by simp) q
end
/-- None, or an instance of the class at C -/
def IdV (C : Addr) (H : Hp) (x : V) : Prop := x = .non ∨ ∃ a dx fs, x = .ref a ∧ H a = some (.ins C dx fs)
def rEqId (C : Addr) : R2 := fun x y H Q => IdV C H x ∧ IdV C H y ∧ Q (.bl (decide (x = y))) H
theorem op_eqId {X : Cx} {C : Addr} (T : IdC X.K C) (hu : X.A.units + 64 < cLine) : OpR X (compareOp .Eq) (rEqId C) := by
  intro pins s σ H x y v u Q I rx ry h
  obtain ⟨h1, h2, q⟩ := h
  have hu0 : X.A.units < cLine := by omega
  show wpAny (model X.prog X.w) X.A (richCompare .Eq v u) (EP X pins σ Q) X.xe s
  rcases h1 with rfl | ⟨a, dx, fs, rfl, ha⟩
  · rcases h2 with rfl | ⟨b, dy, gs, rfl, hb⟩
    · exact op_eq pins s σ H .non .non v u Q I rx ry ⟨rfl, q⟩
    · cases rx
      cases ry
      obtain ⟨mA, O, _⟩ := ins_get I.hok hb
      obtain ⟨od, J, _⟩ := O.look
      exact rc_nr hu0 I.kIn J T ⟨.bl false, H, I, rfl, q⟩
  · obtain ⟨mA, O, _⟩ := ins_get I.hok ha
    obtain ⟨od, J, _⟩ := O.look
    rcases h2 with rfl | ⟨b, dy, gs, rfl, hb⟩
    · cases rx
      cases ry
      exact rc_none hu0 I.kIn J T.hm T.he X.prog X.w X.xe _ ⟨.bl false, H, I, rfl, q⟩
    · cases rx
      cases ry
      obtain ⟨mB, O2, _⟩ := ins_get I.hok hb
      obtain ⟨oe, J2, _⟩ := O2.look
      by_cases hab : a = b
      · subst hab
        rw [decide_eq_true rfl] at q
        exact rc_same hu0 I.kIn J T ⟨.bl true, H, I, rfl, q⟩
      · rw [decide_eq_false (fun z => hab (by injection z))] at q
        exact rc_other hu0 I.kIn J J2 T hab ⟨.bl false, H, I, rfl, q⟩
def oEqI (K : PySem.W.Frag) (C : Addr) : R2 := fun x y H Q => oEq K x y H Q ∨ rEqId C x y H Q
theorem op_oEqI {X : Cx} {C : Addr} (T : IdC X.K C) (hu : X.A.units + 64 < cLine) : OpR X (compareOp .Eq) (oEqI X.K C) := op_or (op_oEq hu) (op_eqId T hu)
end Up

set_option Elab.async false
set_option linter.all false
set_option maxRecDepth 100000
set_option maxHeartbeats 4000000
namespace Up
open PySem PySem.Spec PyProof.Rows L2 PySem.SeqAt HN
/-! ### == and != of two instances of a class with its own __eq__ -/
def EqC (P : Program) (w : World) (K : PySem.W.Frag) (mg : Str → Option Value) (base : Heap) (k : Nat) (C : Addr) (sp : Sp) : Prop :=
  ∃ f fd, FnOk P w K mg base CX0 k f fd ["self", "other"] sp ∧ PySem.W.findIn K (.ref C) "__eq__" = some (some (.ref f)) ∧ PySem.W.isFn K (.ref f) = true ∧ Binds K fd ["self", "other"] [] ∧
    PySem.W.findIn K (.ref C) "__ne__" = some (some (.builtin "object.__ne__")) ∧ PySem.W.mroIn K C (.type "object") = some true
def rEqO (C : Addr) (sp : Sp) : R2 := fun x y H Q => ∃ a b dx dy fs gs, x = .ref a ∧ y = .ref b ∧ H a = some (.ins C dx fs) ∧ H b = some (.ins C dy gs) ∧ sp [.ref a, .ref b] H (fun v H' => ∃ c, v = .bl c ∧ Q (.bl c) H') E0
def rNeO (C : Addr) (sp : Sp) : R2 := fun x y H Q => ∃ a b dx dy fs gs, x = .ref a ∧ y = .ref b ∧ H a = some (.ins C dx fs) ∧ H b = some (.ins C dy gs) ∧ sp [.ref a, .ref b] H (fun v H' => ∃ c, v = .bl c ∧ Q (.bl (!c)) H') E0
section
variable {X : Cx} {C : Addr} {k : Nat} {sp : Sp}
/-- the own __eq__ runs, wherever it is called from -/
theorem run_eq {pins : List (Addr × Obj)} {σ : L2.St} {H : Hp} {s : Shared} {A : Around} {f a b : Addr} {fd : FuncData} {Qv : VK} {R : Value → Shared → Prop} {E : Value → Shared → Prop} (F : FnOk X.prog X.w X.K X.mg X.base CX0 k f fd ["self", "other"] sp) (hb : Binds X.K fd ["self", "other"] [])
    (hr : Room k A) (hA : A.frames = X.A.frames) (I : L2.Inv X pins σ H s) (h : sp [.ref a, .ref b] H Qv E0) (q : ∀ v u H' s', L2.Inv X pins σ H' s' → L2.RelV v u → Qv v H' → R u s') : wpAny (model X.prog X.w) A (call (.ref f) [.ref a, .ref b]) R E s := by
  have e := I.env0
  have e0 : Env0 X.prog X.w X.K X.mg X.base A X.stack s H := ⟨by rw [hA]; exact e.frames, e.mod, e.bs, e.bsz, e.funs, e.frf, e.hok, e.bare⟩
  have r2 : Vals [V.ref a, V.ref b] [Value.ref a, Value.ref b] := .cons rfl (.cons rfl .nil)
  have bb := hb s [.ref a, .ref b] I.kIn rfl
  refine wpAny_call (codeAny_mono (F.run A X.stack s H ⟨[.ref a, .ref b], []⟩ [.ref a, .ref b] [.ref a, .ref b] Qv E0 hr e0 bb r2 h) fun r s' hq => ?_)
  cases r with
  | error e => exact hq.elim
  | ok fl =>
    cases fl with
    | ret u =>
      obtain ⟨v, H', I', rv, qv⟩ := I.after hq
      exact q v u H' s' I' rv qv
    | next => exact False.elim hq
    | brk => exact False.elim hq
    | cont => exact False.elim hq
theorem op_eqO (T : EqC X.prog X.w X.K X.mg X.base k C sp) (hr : Room k X.A) : OpR X (compareOp .Eq) (rEqO C sp) := by
  intro pins s σ H x y v u Q I rx ry h
  obtain ⟨f, fd, F, hs, hf, hb, hne, hm⟩ := T
  obtain ⟨a, b, dx, dy, fs, gs, rfl, rfl, ha, hb', h⟩ := h
  cases rx
  cases ry
  obtain ⟨mA, J, _⟩ := ins_get I.hok ha
  obtain ⟨mB, J', _⟩ := ins_get I.hok hb'
  obtain ⟨od, J, _⟩ := J.look
  obtain ⟨od', J', _⟩ := J'.look
  obtain ⟨m, hF⟩ := I.fr
  show wpAny (model X.prog X.w) X.A (richCompare .Eq (.ref a) (.ref b)) (EP X pins σ Q) X.xe s
  refine PySem.W.cmp_K (op := .Eq) (tb := .ref C) hr.units0 hF I.ok.mod.kin J J'.type (by simp [PySem.W.notFirst]) hs hf ?_
  refine run_eq F hb hr rfl I h fun v u H' s' I' rv qv => ?_
  obtain ⟨c, rfl, qv⟩ := qv
  cases rv
  exact ⟨.bl c, H', I', rfl, qv⟩
theorem ifBound_objNe {M : Model} {A : Around} {E : Value → Shared → Prop} {s : Shared} {K : PySem.W.Frag} {x C : Addr} {ox : Obj} {od : Option Obj} {args : List Value} {Q : Option Value → Shared → Prop} (Y : K.In s.heap) (I : PySem.W.InstAt s.heap x ox C od) (hs : PySem.W.findIn K (.ref C) "__ne__" = some (some (.builtin "object.__ne__")))
    (h : wpAny M A (call (.builtin "object.__ne__") (.ref x :: args)) (fun v => Q (some v)) E s) : wpAny M A (callSpecialIfBound? (.ref x) "__ne__" args) Q E s := by
  simp only [callSpecialIfBound?, bindSpecialIfBound?]
  refine wpAny_holding (wpAny_bind (wpAny_bind (wpAny_bind (I.type.here ((PySem.W.looks_findIn Y hs).here ?_)))))
  refine wpAny_bind (wpAny_askSetting (wpAny_ite ?_))
  have fin : wpAny M A (call (.builtin "object.__ne__") ([.ref x] ++ args) >>= fun v => pure (some v)) Q E s := wpAny_bind (wpAny_mono h (fun v s' z => wpAny_pure z) fun _ _ z => z)
  split
  · exact wpAny_bind (wpAny_of_eq (PySem.F.cmp_object.ne.bind _) (wpAny_pure (by exact fin)))
  · exact wpAny_tryCatch (wpAny_bind (wpAny_of_eq (PySem.F.cmp_object.ne.bind _) (wpAny_pure (by exact fin))))
theorem op_neO (T : EqC X.prog X.w X.K X.mg X.base k C sp) (hr : Room (k + 1) X.A) : OpR X (compareOp .NotEq) (rNeO C sp) := by
  intro pins s σ H x y v u Q I rx ry h
  obtain ⟨f, fd, F, hs, hf, hb, hne, hm⟩ := T
  obtain ⟨a, b, dx, dy, fs, gs, rfl, rfl, ha, hb', h⟩ := h
  cases rx
  cases ry
  obtain ⟨mA, J, _⟩ := ins_get I.hok ha
  obtain ⟨mB, J', _⟩ := ins_get I.hok hb'
  obtain ⟨od, J, _⟩ := J.look
  obtain ⟨od', J', _⟩ := J'.look
  show wpAny (model X.prog X.w) X.A (richCompare .NotEq (.ref a) (.ref b)) (EP X pins σ Q) X.xe s
  have hu := hr.un
  have one : wpAny (model X.prog X.w) X.A (tryCompare (.ref a) "__ne__" (.ref b)) (fun r s' => ∃ v, r = some v ∧ EP X pins σ Q v s') X.xe s := by
    unfold tryCompare
    refine wpAny_bind (ifBound_objNe I.kIn J hne ?_)
    refine wpAny_call (codeAny_call_builtin PySem.F.cmp_object.ne.plain PySem.F.cmpEntry_ne (PySem.W.check_slot PySem.F.cmpKind_ne PySem.F.cmpSplit_ne (J.type.andThen (PySem.W.looks_mroIn I.kIn hm)) (PySem.F.cmpArgs_ne _ _) ?_))
    unfold Builtin.«object.__ne__»
    refine wpAny_bind (wpAny_of_eq (a := ((Value.ref a : Value), [Value.ref b])) (by first | rfl | (simp only [slotArgs]; rfl)) ?_)
    refine wpAny_bind (wpAny_cRoomFor (by show X.A.units + 1 < cLine; omega) ?_)
    refine wpAny_bind (PySem.W.ifBound_K I.kIn J hs hf ?_)
    refine run_eq F hb hr.in1 rfl I h fun v u H' s' I' rv qv => ?_
    obtain ⟨c, rfl, qv⟩ := qv
    cases rv
    refine wpAny_bind (wpAny_truthy_bool (wpAny_pure ?_))
    exact wpAny_pure ⟨_, rfl, .bl (!c), H', I', rfl, qv⟩
  unfold richCompare
  simp only [oneThing_ref, cmpInfo_NotEq]
  refine wpAny_holding (wpAny_bind (wpAny_cRoomFor (by omega) ?_))
  refine wpAny_bind (J.type.here (wpAny_bind (J'.type.here ?_)))
  simp only [bne_self_eq_false, Bool.false_eq_true, if_false]
  refine wpAny_bind (wpAny_pure (wpAny_bind (m := tryCompare (.ref a) _ (.ref b)) (wpAny_mono one (fun r s' z => ?_) fun _ _ e => e)))
  obtain ⟨v, rfl, z⟩ := z
  exact wpAny_pure z
end
end Up

set_option Elab.async false
set_option linter.all false
set_option maxRecDepth 100000
set_option maxHeartbeats 4000000
namespace Up
open PySem PySem.Spec PyProof.Rows L2
/-- an expression that the proof never comes to -/
def tNevE : TE := fun _ _ _ => False
theorem pe_never {X : Cx} {e : Expr} : PE X e tNevE := ⟨fun _ _ _ _ _ _ h => h.elim⟩
/-- a test, a value read once with a middle term -/
def tCutT (t : TT) : TT := fun σ H R => ∃ P : Bool → Hp → Prop, t σ H P ∧ ∀ b H', P b H' → R b H'
theorem pt_cut {X : Cx} {e : Expr} {t : TT} (h : PT X e t) : PT X e (tCutT t) := ⟨fun pins s σ H Q I ⟨P, h1, h2⟩ => wpAny_mono (h.run pins s σ H P I h1) (fun b s' ⟨H', I', p⟩ => ⟨H', I', h2 _ _ p⟩) fun _ _ e => e⟩
def tCutE (t : TE) : TE := fun σ H R => ∃ P : VK, t σ H P ∧ ∀ b H', P b H' → R b H'
theorem pe_cut {X : Cx} {e : Expr} {t : TE} (h : PE X e t) : PE X e (tCutE t) := ⟨fun pins s σ H Q I ⟨P, h1, h2⟩ => wpAny_mono (h.run pins s σ H P I h1) (fun b s' ⟨v, H', I', r, p⟩ => ⟨v, H', I', r, h2 _ _ p⟩) fun _ _ e => e⟩
theorem g_cutT {t : TT} {σ : L2.St} {H : Hp} {R : Bool → Hp → Prop} (P : Bool → Hp → Prop) (h1 : t σ H P) (h2 : ∀ b H', P b H' → R b H') : tCutT t σ H R := ⟨P, h1, h2⟩
theorem g_cutE {t : TE} {σ : L2.St} {H : Hp} {R : VK} (P : VK) (h1 : t σ H P) (h2 : ∀ b H', P b H' → R b H') : tCutE t σ H R := ⟨P, h1, h2⟩
theorem g_chain {r r' : R2} {ta tb tc : TE} {σ : L2.St} {H : Hp} {Q : VK} (h : ta σ H fun x H1 => tb σ H1 fun y H2 => r x y H2 fun z H3 => ∃ k, z = .bl k ∧ (if k = true then tc σ H3 fun w' H4 => r' y w' H4 Q else Q (.bl false) H3)) : tChain r r' ta tb tc σ H Q := h
theorem g_par3 {i j l : Nat} {ta : TA} {D : Ends} {σ : L2.St} {H : Hp} (h : ta σ H fun vs H1 => ∃ u v w, vs = [u, v, w] ∧ D.nx (((σ.set i (some u)).set j (some v)).set l (some w)) H1) : tPar3 i j l ta D σ H := h
theorem g_par3' {a b c : V} {T : V → V → V → Prop} (h : T a b c) : ∃ u v w, [a, b, c] = [u, v, w] ∧ T u v w := ⟨a, b, c, rfl, h⟩
theorem g_while {c : TT} {tb : TS} {D : Ends} {σ : L2.St} {H : Hp} (W : Nat → L2.St → Hp → Prop) (m0 : Nat) (h0 : W m0 σ H) (hs : ∀ m σ H, W m σ H →
    c σ H fun b H1 => if b = true then ∃ N : L2.St → Hp → Prop, (∀ σ' H', N σ' H' → ∃ m', m' < m ∧ W m' σ' H') ∧ tb { D with nx := N, ct := N, bk := D.nx } σ H1 else D.nx σ H1) : tWhile c tb D σ H := ⟨W, ⟨m0, h0⟩, hs⟩
theorem g_wbody {tb : TS} {D : Ends} {σ : L2.St} {H : Hp} {W : Nat → L2.St → Hp → Prop} {m : Nat} (h : tb { D with nx := fun σ' H' => ∃ m', m' < m ∧ W m' σ' H', ct := fun σ' H' => ∃ m', m' < m ∧ W m' σ' H', bk := D.nx } σ H) :
    ∃ N : L2.St → Hp → Prop, (∀ σ' H', N σ' H' → ∃ m', m' < m ∧ W m' σ' H') ∧ tb { D with nx := N, ct := N, bk := D.nx } σ H := ⟨_, fun _ _ z => z, h⟩
section
variable {K : PySem.W.Frag} {H : Hp} {Q : VK} {x y : V}
theorem g_eqV (hs : scal x y = true) (h : Q (.bl (decide (x = y))) H) : oEq K x y H Q := .inl ⟨hs, h⟩
theorem g_neV (hs : scal x y = true) (h : Q (.bl (!decide (x = y))) H) : oNe K x y H Q := .inl ⟨hs, h⟩
end
/-- an int or a text -/
def IS (t : V) : Prop := (∃ n, t = .int n) ∨ ∃ x, t = .str x
theorem IS.int (n : Int) : IS (.int n) := .inl ⟨n, rfl⟩
theorem IS.str (n : Str) : IS (.str n) := .inr ⟨n, rfl⟩
theorem IS.scal {t u : V} (ht : IS t) (hu : IS u) : scal t u = true := by
  rcases ht with ⟨n, rfl⟩ | ⟨n, rfl⟩ <;> rcases hu with ⟨m, rfl⟩ | ⟨m, rfl⟩ <;> rfl
theorem IS.flat {t : V} (ht : IS t) : flatV t = true := by
  rcases ht with ⟨n, rfl⟩ | ⟨n, rfl⟩ <;> rfl
theorem IS.eqV {t u : V} (ht : IS t) (hu : IS u) : eqV t u = decide (t = u) := by
  rcases ht with ⟨n, rfl⟩ | ⟨n, rfl⟩ <;> rcases hu with ⟨m, rfl⟩ | ⟨m, rfl⟩
  · show (n == m) = _
    by_cases h : n = m
    · subst h; simp
    · have : (n == m) = false := beq_eq_false_iff_ne.mpr h
      rw [this]; simp [h]
  · show false = _
    simp
  · show false = _
    simp
  · show (n == m) = _
    by_cases h : n = m
    · subst h; simp
    · have : (n == m) = false := beq_eq_false_iff_ne.mpr h
      rw [this]; simp [h]
/-- x in (a, b) -/
theorem IS.in2 {x a b : V} (hx : IS x) (ha : IS a) (hb : IS b) : inV x [a, b] = decide (a = x ∨ b = x) := by
  unfold inV
  simp only [List.any_cons, List.any_nil, Bool.or_false]
  rw [ha.eqV hx, hb.eqV hx]
  by_cases h1 : a = x <;> by_cases h2 : b = x <;> simp [h1, h2]
theorem g_in2 {K : PySem.W.Frag} {H : Hp} {Q : VK} {x a b : V} {p : Addr} (hp : H p = some (.tup [a, b])) (hx : IS x) (ha : IS a) (hb : IS b) (q : Q (.bl (decide (a = x ∨ b = x))) H) : rIn K false x (.ref p) H Q :=
  ⟨p, _, rfl, .inr (SqT.of hp), hx.flat, by simp [ha.flat, hb.flat], by rw [hx.in2 ha hb]; exact q⟩
def dV : V → PyData
  | .int n => .int n
  | .str x => .str x
  | _ => .none
theorem IS.dp {K : PySem.W.Frag} {H : Hp} {t : V} (ht : IS t) : Dp K H t (dV t) := by
  rcases ht with ⟨n, rfl⟩ | ⟨n, rfl⟩
  · exact .int n
  · exact .str n
theorem IS.eqv {t u : V} (ht : IS t) (hu : IS u) : PyData.eqv (dV t) (dV u) = decide (t = u) := by
  rw [← ht.eqV hu]
  rcases ht with ⟨n, rfl⟩ | ⟨n, rfl⟩ <;> rcases hu with ⟨m, rfl⟩ | ⟨m, rfl⟩ <;> simp [dV, PyData.eqv, L2.eqV]
end Up

set_option Elab.async false
set_option linter.all false
set_option pp.maxSteps 600
set_option maxRecDepth 100000
set_option maxHeartbeats 4000000
namespace Up
open PySem PySem.Spec PyProof.Rows L2 PySem.W
/-! ### own exceptions over ArithmeticError, their __init__ walked as a def -/
abbrev aeT : List Value := [.type "ArithmeticError", .type "Exception", .type "BaseException", .type "object"]
structure AxC (K : PySem.W.Frag) (C : Addr) : Prop where
  ini : excInitIn K C aeT "ArithmeticError.__new__" = true
  ov : excOver K C aeT = true
  hd : hasDictIn K C = true
  sa : findIn K (.ref C) "__setattr__" = some (some (.builtin "object.__setattr__"))
  exC : subIn K (.ref C) (.type "BaseException") = some true
  tyC : typeIn K (.ref C) = some (.type "type")
  kC : keepIn K (.ref C) = true
section
variable {prog : Program} {w : World} {A : Around} {R : Result → Shared → Prop} {K : PySem.W.Frag} {x C : Addr} {name : Str} {tk : Tok} {v : Value} {hp : Heap} {g : Array GenState} {d : Drawn} {t : Nat} {os : OsState}
/-- the first field: the dict is laid -/
theorem ax_set0 {fv : Array Value} (T : AxC K C) (Y : K.In hp) (hx : hp.get? x = some { cls := .ref C, data := .fields fv }) (ht : takerIn K C name = some none)
    (q : ∀ h' tk' dx, (∀ b o, b ≠ x → hp.get? b = some o → h'.get? b = some o) → hp.objs.size ≤ dx → dx ≠ x → h'.get? x = some { cls := .ref C, dict := some dx, data := .fields fv } → h'.Ns1 dx (fun y => if y = name then some v else none) → R (.ok (.ret .none)) ⟨h', g, d, tk', os⟩) :
    codeAny (model prog w) A (.call (.builtin "object.__setattr__") ⟨[.ref x, .str name tk, v], []⟩) R ⟨hp, g, d, t, os⟩ := by
  refine osa_openX (s := ⟨hp, g, d, t, os⟩) (od := none) PySem.F.store_ArithmeticError Y ⟨hx, rfl, rfl, trivial⟩ T.ov ht fun b => ?_
  obtain ⟨cd, hc, hd'⟩ := any_some T.hd
  have ne : x ≠ hp.objs.size := Nat.ne_of_lt (Heap.lt_size hx)
  have hcl : Looks (model prog w) hp (classData C) cd := looks_clsIn Y hc
  obtain ⟨c1, c2, c3, c4, c5, c6, c7, c8, c9, c10, c11⟩ := cd
  have hd2 : c6 = true := hd'
  subst hd2
  unfold Builtin.ObjectAttr.storeInOwnDict Builtin.ObjectAttr.ownDictForStores
  repeat (first | with_reducible refine HandSPX.store_in_new ?_ ?_ | with_reducible refine wpAny_loadPart_at hx ?_ | with_reducible refine hcl.at ?_ | wp_step)
  · exact ⟨_, #[], _, (Heap.get?_update_ne _ _ _ _ ne.symm).trans (Heap.get?_push_at rfl rfl), rfl, fun e he => absurd he (by simp), fun _ => rfl⟩
  · intro h' tk' n1 sb
    have hx1 : (hp.push { cls := .type "dict", data := .dict #[] }).get? x = some { cls := .ref C, data := .fields fv } := Heap.get?_push_of_some _ hx
    exact q h' tk' hp.objs.size (fun b o hb ho => (sb.2 b (Nat.ne_of_lt (Heap.lt_size ho))).trans ((Heap.get?_update_ne _ _ _ _ hb).trans (Heap.get?_push_of_some _ ho))) (Nat.le_refl _) ne.symm
      ((sb.2 x ne).trans (Heap.get?_update_self _ hx1 rfl)) n1
/-- a later one -/
theorem ax_setD {fv : Array Value} {dx : Addr} {m0 : Str → Option Value} {nl : List Str} (T : AxC K C) (Y : K.In hp) (hx : hp.get? x = some { cls := .ref C, dict := some dx, data := .fields fv }) (hn : hp.Ns1 dx m0) (hw : Within m0 nl) (hz : nl.length ≤ 1000) (ht : takerIn K C name = some none)
    (q : ∀ h' tk', (∀ b o, b ≠ dx → hp.get? b = some o → h'.get? b = some o) → h'.Ns1 dx (fun y => if y = name then some v else m0 y) → R (.ok (.ret .none)) ⟨h', g, d, tk', os⟩) :
    codeAny (model prog w) A (.call (.builtin "object.__setattr__") ⟨[.ref x, .str name tk, v], []⟩) R ⟨hp, g, d, t, os⟩ := by
  obtain ⟨oD, esD, epD, hoD, hdD, _⟩ := hn.count hw
  refine osa_openX (s := ⟨hp, g, d, t, os⟩) (od := some oD) PySem.F.store_ArithmeticError Y ⟨hx, rfl, rfl, hoD⟩ T.ov ht fun b => ?_
  obtain ⟨cd, hc, hd'⟩ := any_some T.hd
  have hcl : Looks (model prog w) hp (classData C) cd := looks_clsIn Y hc
  obtain ⟨c1, c2, c3, c4, c5, c6, c7, c8, c9, c10, c11⟩ := cd
  have hd2 : c6 = true := hd'
  subst hd2
  unfold Builtin.ObjectAttr.storeInOwnDict Builtin.ObjectAttr.ownDictForStores
  repeat (first | with_reducible refine OEX.store_in_old hn hw hz ?_ | with_reducible refine wpAny_loadPart_at hx ?_ | with_reducible refine hcl.at ?_ | wp_step)
  intro h' tk' n1 sb
  exact q h' tk' (fun b o hb ho => (sb.2 b hb).trans ho) n1
end
theorem taker_none {K : PySem.W.Frag} {C : Addr} {f : Str} (h : findIn K (.ref C) f = some none) : takerIn K C f = some none := by
  unfold takerIn
  rw [h]
  rfl
section
variable {X : Cx} {pins : List (Addr × Obj)} {σ : L2.St} {H : Hp} {s : Shared} {a C dx : Addr} {f : Str} {y : V} {u : Value} {fs : List (Str × V)} {Q : Unit → Shared → Prop} {E : Value → Shared → Prop} {A : Around}
theorem ax_new (T : AxC X.K C) (I : L2.Inv X pins σ H s) (ea : H a = some (exo a C none)) (hno : findIn X.K (.ref C) f = some none) (ry : L2.RelV y u)
    (h : ∀ dx s', H dx = none → dx ≠ a → L2.Inv X pins σ (upd (upd H dx (exd dx [(f, y)])) a (exo a C (some dx))) s' → Q () s') : wpAny (model X.prog X.w) A (setAttr (.ref a) f u) Q E s := by
  obtain ⟨t1, oa⟩ := exo_at I.hok ea
  obtain ⟨hp, gg, dr, tt, oo⟩ := s
  refine set_plain I.kIn (ox := { cls := .ref C, dict := none, data := .fields #[.ref t1, .none, .none, .none, .bool false, .none] }) (od := none) ⟨oa, rfl, rfl, trivial⟩ T.sa (ax_set0 T I.kIn oa (taker_none hno) fun h' tk' dx kp dn dne hx hn => ?_)
  have fr : H dx = none := I.hok.fresh dn
  have old : ∀ {b : Addr} {o : Obj}, hp.get? b = some o → b ≠ dx := fun {b o} z => Nat.ne_of_lt (Nat.lt_of_lt_of_le (Heap.lt_size z) dn)
  have nota : ∀ {b : Addr}, H b = none → b ≠ a := fun {b} n z => by
    subst z
    exact absurd (ea.symm.trans n) (by simp)
  refine h dx _ fr dne (I.un (t' := tk') ⟨fun b o z n _ _ => kp b o (nota n) z, fun b o z n _ _ => ⟨o.slots, kp b o (nota n) z⟩, fun b o z n _ => ?_, fun b o z _ => ?_, fun b xs z => ?_, fun b o v z => ?_, fun b ps z => ?_⟩ fun b o z => ?_)
  · rw [upd_ne (nota n), upd_ne (old z), n]
  · by_cases hb : b = a
    · subst hb; exact ⟨_, hx⟩
    · exact ⟨o, kp b o hb z⟩
  · rw [upd_ne (at_ne ea z exo_tup), upd_ne (ne_of_none z fr), z]
  · rw [upd_ne (at_ne ea z exo_frz), upd_ne (ne_of_none z fr), z]
  · refine ⟨#[], ?_⟩
    rw [upd_ne (at_ne ea z exo_tbl), upd_ne (ne_of_none z fr), z]
    simp
  · by_cases hb : b = a
    · subst hb
      rw [upd_same] at z
      cases z
      exact exo_ok hx
    · rw [upd_ne hb] at z
      by_cases hd : b = dx
      · subst hd
        rw [upd_same] at z
        cases z
        exact exd_ok hn (relO_put (fs := []) ry fun _ => trivial)
      · rw [upd_ne hd] at z
        refine (I.hok b o z).stay (fun c v hc r => kp c v ?_ r) (fun c hc => ?_) (fun c xs hc => ?_)
        · rcases hc with hc | hc
          · rw [hc]; exact hb
          · exact at_ne ea hc exo_own
        · rw [upd_ne (at_ne ea hc exo_own), upd_ne (ne_of_none hc fr), hc]
        · rw [upd_ne (at_ne ea hc exo_tup), upd_ne (ne_of_none hc fr), hc]
theorem ax_old (T : AxC X.K C) (I : L2.Inv X pins σ H s) (ea : H a = some (exo a C (some dx))) (ed : H dx = some (exd dx fs)) (hl : fs.length ≤ 900) (hno : findIn X.K (.ref C) f = some none) (ry : L2.RelV y u)
    (h : ∀ s', L2.Inv X pins σ (upd H dx (exd dx ((f, y) :: fs))) s' → Q () s') : wpAny (model X.prog X.w) A (setAttr (.ref a) f u) Q E s := by
  obtain ⟨t1, oa⟩ := exo_at I.hok ea
  obtain ⟨mA, hns, rel⟩ := exd_at I.hok ed
  obtain ⟨hp, gg, dr, tt, oo⟩ := s
  have hw := within_of rel
  obtain ⟨oD, _, _, hoD, _, _⟩ := hns.count hw
  refine set_plain I.kIn (ox := { cls := .ref C, dict := some dx, data := .fields #[.ref t1, .none, .none, .none, .bool false, .none] }) (od := some oD) ⟨oa, rfl, rfl, hoD⟩ T.sa
    (ax_setD T I.kIn oa hns hw (by rw [List.length_map]; omega) (taker_none hno) fun h' tk' kp hn => ?_)
  have there : ∃ o, h'.get? dx = some o := by
    obtain ⟨o, _, _, z, _⟩ := hn
    exact ⟨o, z⟩
  exact h _ (I.write (t' := tk') (x := dx) (e := dx) (o := exd dx ((f, y) :: fs)) (by rw [ed]; trivial) (.inl rfl) kp there (exd_ok hn (relO_put ry rel)))
/-- ArithmeticError.__init__(self, ..) -/
theorem ax_init {us : List Value} {Q : Value → Shared → Prop} (T : AxC X.K C) (I : L2.Inv X pins σ H s) (ea : H a = some (exo a C none)) (hl : us.length ≤ sizeLine) (h : ∀ s', L2.Inv X pins σ H s' → Q .none s') :
    wpAny (model X.prog X.w) A (call (.builtin "ArithmeticError.__init__") (.ref a :: us)) Q E s := by
  obtain ⟨nm, N, qn, bs, bm, hd, sn, sub, ab, col, dd, k0, k1, k2, k3, k5, hC, hT⟩ := excInit_of I.kIn T.ini
  obtain ⟨t1, oa⟩ := exo_at I.hok ea
  obtain ⟨hp, gg, dr, tt, oo⟩ := s
  refine wpAny_call (HandSPX.init_base PySem.F.excBase_ArithmeticError hT hC oa hl fun h' t2 kp hx => ?_)
  have J := I.write (t' := tt) (x := a) (e := a) (o := exo a C none) (by rw [ea]; trivial) (.inl rfl) kp ⟨_, hx⟩ (exo_ok hx)
  have same : upd H a (exo a C none) = H := funext fun b => by
    by_cases hb : b = a
    · subst hb; rw [upd_same, ea]
    · rw [upd_ne hb]
  rw [same] at J
  exact h _ J
end
theorem typ_AE : typeOf (.type "ArithmeticError") = pure (.type "type") := by kernel_rfl
/-! readings and rules -/
def tAxI (K : PySem.W.Frag) (ta : TA) : TE := fun σ H Q => ta σ H fun vs H1 => ∃ (a C : Addr) (ws : List V), vs = .ref a :: ws ∧ ws.length ≤ 1000 ∧ AxC K C ∧ H1 a = some (exo a C none) ∧ Q .non H1
def AxNew (H : Hp) (a C : Addr) (f : Str) (y : V) (R : Hp → Prop) : Prop := ∀ dx H', H dx = none → dx ≠ a → H' a = some (exo a C (some dx)) → H' dx = some (exd dx [(f, y)]) → (∀ b, b ≠ a → b ≠ dx → H' b = H b) → R H'
def AxOld (H : Hp) (a dx : Addr) (fs : List (Str × V)) (f : Str) (y : V) (R : Hp → Prop) : Prop := ∀ H', H' dx = some (exd dx ((f, y) :: fs)) → (∀ b, b ≠ dx → H' b = H b) → R H'
def tAxS (K : PySem.W.Frag) (f : Str) (to te : TE) : TS := fun D σ H => te σ H fun y H1 => to σ H1 fun x H2 => ∃ a C : Addr, x = .ref a ∧ AxC K C ∧ findIn K (.ref C) f = some none ∧
  ((H2 a = some (exo a C none) ∧ AxNew H2 a C f y (D.nx σ)) ∨ ∃ (dx : Addr) (fs : List (Str × V)), H2 a = some (exo a C (some dx)) ∧ H2 dx = some (exd dx fs) ∧ fs.length ≤ 900 ∧ AxOld H2 a dx fs f y (D.nx σ))
section
variable {X : Cx} {o e : Expr} {es : List Expr} {to te : TE} {ta : TA} {f : Str} {p p' p1 p2 pos : Pos}
theorem pe_axI {pl : Sem Bool} (hm : X.mg "ArithmeticError" = none) (vV : findCls X.K (.type "ArithmeticError") (.type "type") "__init__" = some (.val (.builtin "ArithmeticError.__init__"))) (ha : PA X (e :: es) ta) (hg : Gl X "ArithmeticError" := by rfl)
    (hc : eval (.Call (.Attribute (.Name "ArithmeticError" p1) "__init__" p2) (e :: es) [] pos) X.env = (do
      let ov ← eval (.Name "ArithmeticError" p1) X.env
      standAt p2.atName
      let (f, first) ← holding [ov] (getMethod ov "__init__" pl)
      callWith pos f first (backTo pos (starEach (e :: es) X.env)) (backToKw pos (keywordEach [] X.env))) := by rfl)
    (he : starEach (e :: es) X.env = (false, eval e X.env) :: starEach es X.env := by rfl) (hpl : (backTo pos (starEach es X.env)).any (·.1) = false := by rfl) :
    PE X (.Call (.Attribute (.Name "ArithmeticError" p1) "__init__" p2) (e :: es) [] pos) (tAxI X.K ta) := by
  refine ⟨fun pins s σ H Q I h => methodCall_KW (ld_blt I hg hm PyProof.Rows.Boot.«ArithmeticError» ?_ (by decide) (by decide)) hc⟩
  obtain ⟨m, fr⟩ := I.fr
  refine method_type fr I.ok.mod.kin typ_AE (by decide +kernel) vV (by decide +kernel) ?_
  show wpAny _ _ (callWith pos (Value.builtin "ArithmeticError.__init__") [] (backTo pos (starEach (e :: es) X.env)) []) _ _ _
  refine PyProof.Rows.callWith_method1 (thn (ha.run pos pins _ σ H _ (I.tok _) h) fun us s1 ⟨vs, H1, I1, r1, a, C, ws, ev, hl, T, ea, q⟩ => ?_) he hpl
  subst ev
  cases r1 with
  | @cons _ u0 _ ur ra rr =>
    cases (show u0 = Value.ref a from ra)
    have n := Paired.length rr
    exact ax_init T I1 ea (by rw [← n, sizeLine_eq]; omega) fun s' J => ⟨.non, H1, J, rfl, q⟩
theorem ps_axS (ho : PE X o to) (he : PE X e te) (hs : swapsWith e (some (.Attribute o f p')) pos.line X.env = pure false := by rfl) : PS X (.Assign [.Attribute o f p'] e pos) (tAxS X.K f to te) := by
  refine ⟨fun pins s σ H D I h => plainObj_wpAny_Assign_Attribute (thn (he.run pins s σ H _ I h) fun v s1 ⟨y, H1, I1, r1, q1⟩ => thn (ho.run pins s1 σ H1 _ I1 q1) fun u s2 ⟨x, H2, I2, r2, a, C, ex, T, hno, q⟩ => ?_) hs⟩
  subst ex
  cases (show u = Value.ref a from r2)
  rcases q with ⟨ea, q⟩ | ⟨dx, fs, ea, ed, hl, q⟩
  · exact ax_new T I2 ea hno r1 fun dx s' n ne J => ⟨σ, _, J, q dx _ n ne upd_same ((upd_ne ne).trans upd_same) fun b b1 b2 => (upd_ne b1).trans (upd_ne b2)⟩
  · exact ax_old T I2 ea ed hl hno r1 fun s' J => ⟨σ, _, J, q _ upd_same fun b b1 => upd_ne b1⟩
/-- C(..) of such a class -/
theorem pmk_ax {CX : CXT} {x : Str} {C fI : Addr} {k : Nat} {fd : FuncData} {ps : List Str} {sp : Sp} {ds : List Value} {dvs : List V} (T : AxC X.K C) (iC : findIn X.K (.ref C) "__init__" = some (some (.ref fI))) (tI : typeIn X.K (.ref fI) = some (.type "function"))
    (F1 : FnOk X.prog X.w X.K X.mg X.base CX k fI fd ps sp) (hr : Room (k + 1) X.A) (hb : Binds X.K fd ps ds) (hd : Vals dvs ds) (hx : Passes CX X (fun _ _ _ => False)) (hm : X.mg x = some (.ref C)) (ha : PA X (e :: es) ta) (hg : Gl X x := by rfl)
    (hdb : (x == ("__debug__" : Str)) = false := by decide) (he : starEach (e :: es) X.env = (false, eval e X.env) :: starEach es X.env := by rfl) (hpl : (backTo pos (starEach es X.env)).any (·.1) = false := by rfl) :
    PMk X (.Call (.Name x p) (e :: es) [] pos) (tMkO C sp dvs ta) := by
  intro pins s σ H Q I h
  refine wpAny_Call_Name_kw (ld_glob I hg hm ?_ hdb)
  refine callWith_K (h₀ := X.base) I.ok.mod.kin T.kC (thn (ha.run pos pins s σ H _ I h) fun us s1 ⟨vs, H1, I1, r1, hz, q1⟩ => ⟨I1.kIn, ?_⟩) he hpl
  show wpAny _ _ (call (.ref C) us) _ _ _
  obtain ⟨hp, gg, dr, tk, oo⟩ := s1
  obtain ⟨nm, N, qn, bs, bm, hdc, sn, sub, ab, col, dd, k0, k1, k2, k3, k5, hC, hT⟩ := excInit_of I1.kIn T.ini
  have le1 : hp.objs.size ≤ hp.objs.size + 1 := Nat.le_succ _
  have free1 : H1 (hp.objs.size + 1) = none := I1.hok.fresh le1
  have todo := q1 (hp.objs.size + 1) free1
  have kp : ∀ b o, hp.get? b = some o → ((hp.push (kdv_tup us)).push (HandSPX.excO C hp.objs.size)).get? b = some o := fun b o z => Heap.get?_push_of_some _ (Heap.get?_push_of_some _ z)
  have at1 : ((hp.push (kdv_tup us)).push (HandSPX.excO C hp.objs.size)).get? (hp.objs.size + 1) = some (HandSPX.excO C hp.objs.size) := by heap_get
  have I2 := I1.laid (t' := tk) (a := hp.objs.size + 1) (o := exo (hp.objs.size + 1) C none) (h' := (hp.push (kdv_tup us)).push (HandSPX.excO C hp.objs.size)) kp le1 (exo_ok at1)
  have rels : Vals (V.ref (hp.objs.size + 1) :: (vs ++ dvs)) (Value.ref (hp.objs.size + 1) :: (us ++ ds)) := .cons rfl (r1.append hd)
  have len : (Value.ref (hp.objs.size + 1) :: us ++ ds).length = ps.length := by
    have z := rels.length
    rw [F1.len _ _ _ _ todo] at z
    exact z.symm
  have lus : us.length ≤ sizeLine := by
    have z := Paired.length r1
    rw [sizeLine_eq]
    omega
  have fun1 := F1.run _ X.stack _ _ ⟨Value.ref (hp.objs.size + 1) :: us, []⟩ (Value.ref (hp.objs.size + 1) :: (us ++ ds)) _ _ (fun _ _ _ => False) (hr.make C us []) (I2.env0.make C us []) (hb _ (Value.ref (hp.objs.size + 1) :: us) I2.kIn len) rels todo
  refine wpAny_call (HandSPX.call_own PySem.F.excBase_ArithmeticError hT hC (looks_findIn I1.kIn iC) (fun self => bind_fn I1.kIn self tI) lus (codeAny_mono fun1 fun r s' z => ?_))
  cases r with
  | error er => exact hx pins σ _ _ er s' I2 z
  | ok fl =>
    cases fl
    case ret u =>
      obtain ⟨v, H2, os2, bare2, un2, hok2, rv, ev, d, fs, ea, ed, hd1, q2⟩ := z
      subst ev
      obtain ⟨h2, g2, d2, t2, o2⟩ := s'
      exact ⟨rv, mk_end (raises_own T.exC T.tyC) I1 le1 kp un2 hok2 os2 bare2 ea ed hd1 q2⟩
    all_goals exact False.elim z
end
end Up

set_option Elab.async false
set_option linter.all false
set_option maxRecDepth 100000
set_option maxHeartbeats 4000000
namespace Up
open PySem PySem.Spec PyProof.Rows L2
/-! ### the source of draws: a list of three ints that each draw changes -/
def Well (H : Hp) (w : Addr) : Prop := ∃ a b c : Int, H w = some (.lst [.int a, .int b, .int c]) ∧ 0 ≤ a ∧ 0 ≤ b ∧ b < 2147483647 ∧ 0 ≤ c
/-- all but the list at w stands -/
def Stp (w : Addr) (H H' : Hp) : Prop := ∀ b o, b ≠ w → H b = some o → H' b = some o
theorem Stp.refl (w : Addr) (H : Hp) : Stp w H H := fun _ _ _ h => h
theorem Stp.trans {w : Addr} {H H1 H2 : Hp} (a : Stp w H H1) (b : Stp w H1 H2) : Stp w H H2 := fun c o n h => b c o n (a c o n h)
theorem Stp.of {w : Addr} {H H' : Hp} (s : Same H H') : Stp w H H' := fun b o _ h => s b o h
theorem Well.same {w : Addr} {H H' : Hp} (h : Well H w) (s : Same H H') : Well H' w := by
  obtain ⟨a, b, c, h, r⟩ := h
  exact ⟨a, b, c, s _ _ h, r⟩
theorem Well.ne_none {w p : Addr} {H : Hp} (h : Well H w) (n : H p = none) : p ≠ w := by
  obtain ⟨a, b, c, h, _⟩ := h
  exact fun z => by rw [z, h] at n; cases n
/-- a place that holds no list -/
theorem Well.ne {w p : Addr} {H : Hp} {o : HO} (h : Well H w) (e : H p = some o) (n : ∀ xs, o ≠ .lst xs) : p ≠ w := by
  obtain ⟨a, b, c, h, _⟩ := h
  exact fun z => by
    rw [z, h] at e
    exact n _ (Option.some.inj e).symm
theorem Stp.ins {w p C dx : Addr} {H H' : Hp} {fs : List (Str × V)} (s : Stp w H H') (h : Well H w) (e : H p = some (.ins C dx fs)) : H' p = some (.ins C dx fs) := s _ _ (h.ne e fun _ z => by cases z) e
theorem Stp.free {w p : Addr} {H H' : Hp} (s : Stp w H H') (h : Well H' w) (e : H' p = none) : H p = none := by
  cases q : H p with
  | none => rfl
  | some o =>
    have n : p ≠ w := h.ne_none e
    rw [s p o n q] at e
    cases e
end Up

set_option Elab.async false
set_option linter.all false
set_option maxRecDepth 100000
set_option maxHeartbeats 4000000
namespace Up
open PySem
/-! ### numbers of bits, the lowest bit -/
def bitsN (n : Nat) : Nat := if n = 0 then 0 else n.log2 + 1
theorem intBits_nat (n : Nat) : Builtin.Int.intBits (n : Int) = bitsN n := by
  unfold Builtin.Int.intBits bitsN
  by_cases h : n = 0
  · subst h; rfl
  · rw [if_neg h, if_neg (by simpa using h)]
    simp
theorem intBits_neg (n : Int) : Builtin.Int.intBits n = bitsN n.natAbs := by
  unfold Builtin.Int.intBits bitsN
  by_cases h : n = 0
  · subst h; rfl
  · rw [if_neg (by simpa using h), if_neg (by simpa using h)]
theorem bits_lt (n : Nat) : n < 2 ^ bitsN n := by
  unfold bitsN
  by_cases h : n = 0
  · subst h; decide
  · rw [if_neg h]; exact Nat.lt_log2_self
theorem bits_ge {n : Nat} (h : n ≠ 0) : 2 ^ (bitsN n - 1) ≤ n := by
  unfold bitsN
  rw [if_neg h]
  exact Nat.log2_self_le h
theorem bits_le {n k : Nat} (h : n < 2 ^ k) : bitsN n ≤ k := by
  unfold bitsN
  by_cases h0 : n = 0
  · rw [if_pos h0]; exact Nat.zero_le _
  · rw [if_neg h0]
    exact (Nat.log2_lt h0).mpr h
theorem le_bits {n k : Nat} (h : 2 ^ k ≤ n) : k + 1 ≤ bitsN n := by
  rcases Nat.lt_or_ge k (bitsN n) with h1 | h1
  · exact h1
  · have h2 := bits_lt n
    have h3 : 2 ^ bitsN n ≤ 2 ^ k := Nat.pow_le_pow_right (by decide) h1
    omega
theorem bits_pow (k : Nat) : bitsN (2 ^ k) = k + 1 := by
  have h1 := le_bits (n := 2 ^ k) (k := k) (Nat.le_refl _)
  have h2 := bits_le (n := 2 ^ k) (k := k + 1) (Nat.pow_lt_pow_right (by decide) (Nat.lt_succ_self k))
  omega
theorem bits_pos {n : Nat} (h : n ≠ 0) : 1 ≤ bitsN n := by
  unfold bitsN; rw [if_neg h]; omega
def tz (n : Nat) : Nat := if h : n = 0 then 0 else if n % 2 = 1 then 0 else tz (n / 2) + 1
termination_by n
decreasing_by omega
theorem tz_odd {n : Nat} (h : n % 2 = 1) : tz n = 0 := by
  unfold tz
  rw [dif_neg (by omega), if_pos h]
theorem tz_even {n : Nat} (h0 : n ≠ 0) (h : n % 2 = 0) : tz n = tz (n / 2) + 1 := by
  rw [tz, dif_neg h0, if_neg (by omega)]
theorem land_two (a b : Nat) : a &&& b = 2 * ((a / 2) &&& (b / 2)) + (a % 2) * (b % 2) := by
  have h1 : (a &&& b) / 2 = (a / 2) &&& (b / 2) := Nat.and_div_two ..
  have h2 : (a &&& b) % 2 = (a % 2) * (b % 2) := by
    have e := Nat.and_mod_two_pow (a := a) (b := b) (n := 1)
    simp only [Nat.pow_one] at e
    rw [e]
    rcases Nat.mod_two_eq_zero_or_one a with ha | ha <;> rcases Nat.mod_two_eq_zero_or_one b with hb | hb <;> rw [ha, hb] <;> rfl
  omega
theorem land_pred : ∀ (n : Nat), n ≠ 0 → n &&& (n - 1) = n - 2 ^ tz n ∧ 2 ^ tz n ≤ n ∧ n / 2 ^ tz n % 2 = 1 ∧ n / 2 ^ tz n * 2 ^ tz n = n := by
  intro n
  induction n using Nat.strongRecOn with
  | _ n ih =>
    intro h0
    rcases Nat.mod_two_eq_zero_or_one n with he | ho
    · obtain ⟨i1, i2, i3, i4⟩ := ih (n / 2) (by omega) (by omega)
      rw [tz_even h0 he, Nat.pow_succ]
      have e2 : (n - 1) / 2 = n / 2 - 1 := by omega
      have ep : n / (2 ^ tz (n / 2) * 2) = n / 2 / 2 ^ tz (n / 2) := by rw [Nat.mul_comm, Nat.div_div_eq_div_mul]
      refine ⟨?_, by omega, by rw [ep]; exact i3, ?_⟩
      · rw [land_two n (n - 1), e2, i1, he, Nat.zero_mul]
        omega
      · rw [ep, ← Nat.mul_assoc, i4]
        omega
    · rw [tz_odd ho]
      refine ⟨?_, by omega, by simpa using ho, by simp⟩
      rw [land_two n (n - 1)]
      have e2 : (n - 1) / 2 = n / 2 := by omega
      have e3 : (n - 1) % 2 = 0 := by omega
      rw [e2, e3, Nat.and_self, Nat.mul_zero]
      omega
theorem low_bit {n : Nat} (h : n ≠ 0) : Builtin.bitAnd (n : Int) (0 - (n : Int)) = ((2 ^ tz n : Nat) : Int) := by
  rw [PyProof.Rows.bitAnd_pn (by omega) (by omega)]
  have e : (Builtin.bitNot (0 - (n : Int))).toNat = n - 1 := by unfold Builtin.bitNot; omega
  obtain ⟨i1, i2, _⟩ := land_pred n h
  rw [e, Int.toNat_natCast, i1]
  omega
theorem low_bits {n : Nat} (h : n ≠ 0) : ((Builtin.Int.intBits (Builtin.bitAnd (n : Int) (0 - (n : Int))) : Nat) : Int) - 1 = (tz n : Int) := by
  rw [low_bit h, intBits_nat, bits_pow]
  omega
theorem bits_shift {n : Nat} (h : n ≠ 0) : bitsN (n / 2 ^ tz n) + tz n = bitsN n := by
  obtain ⟨_, _, i3, i4⟩ := land_pred n h
  have hm : n / 2 ^ tz n ≠ 0 := by intro z; rw [z] at i3; omega
  generalize n / 2 ^ tz n = m at *
  generalize tz n = v at *
  have h1 := bits_lt m
  have h2 := bits_ge hm
  have h3 := bits_pos hm
  have a : bitsN n ≤ bitsN m + v := bits_le (by
    rw [← i4, Nat.pow_add]
    exact Nat.mul_lt_mul_of_pos_right h1 (Nat.two_pow_pos _))
  have b : bitsN m - 1 + v + 1 ≤ bitsN n := le_bits (by
    rw [← i4, Nat.pow_add]
    exact Nat.mul_le_mul_right _ h2)
  omega
end Up

set_option Elab.async false
set_option linter.all false
set_option maxRecDepth 100000
set_option maxHeartbeats 4000000
namespace Up
open PySem
/-! ### the nearest float to a fraction: power, scaled parts, rounding -/
def nrP (t b : Nat) : Int := if (-1074 : Int) > (bitsN t : Int) - (bitsN b : Int) - 53 then -1074 else (bitsN t : Int) - (bitsN b : Int) - 53
def nrT (t : Nat) (p : Int) : Nat := if p < 0 then t * 2 ^ (0 - p).toNat else t
def nrB (b : Nat) (p : Int) : Nat := if p < 0 then b else b * 2 ^ p.toNat
def nrBig (t b : Nat) : Bool := decide (9007199254740992 ≤ nrT t (nrP t b) / nrB b (nrP t b))
def nrB2 (t b : Nat) : Nat := if nrBig t b then nrB b (nrP t b) * 2 else nrB b (nrP t b)
def nrP2 (t b : Nat) : Int := if nrBig t b then nrP t b + 1 else nrP t b
def nrQ (t b : Nat) : Nat := nrT t (nrP t b) / nrB2 t b
def nrR (t b : Nat) : Nat := nrT t (nrP t b) % nrB2 t b
def nrUp (t b : Nat) : Bool := decide (nrB2 t b < 2 * nrR t b) || (decide (2 * nrR t b = nrB2 t b) && decide (nrQ t b % 2 = 1))
def nrW (t b : Nat) : Nat := if nrUp t b then nrQ t b + 1 else nrQ t b
theorem nrP_lo (t b : Nat) : -1074 ≤ nrP t b := by unfold nrP; split <;> omega
theorem nrP_ge (t b : Nat) : (bitsN t : Int) - (bitsN b : Int) - 53 ≤ nrP t b := by unfold nrP; split <;> omega
theorem nrP_hi {t b : Nat} : nrP t b ≤ bitsN t := by unfold nrP; split <;> omega
theorem nrB_pos {b : Nat} (hb : 0 < b) (p : Int) : 0 < nrB b p := by
  unfold nrB; split
  · exact hb
  · exact Nat.mul_pos hb (Nat.two_pow_pos _)
theorem nrB2_pos {t b : Nat} (hb : 0 < b) : 0 < nrB2 t b := by
  unfold nrB2; split
  · exact Nat.mul_pos (nrB_pos hb _) (by decide)
  · exact nrB_pos hb _
/-- the scaled quotient is below 2 ^ 54 -/
theorem nr_lt54 {t b : Nat} (hb : 0 < b) : nrT t (nrP t b) / nrB b (nrP t b) < 2 ^ 54 := by
  rw [Nat.div_lt_iff_lt_mul (nrB_pos hb _)]
  have h1 := bits_lt t
  have h2 := bits_ge (n := b) (by omega)
  have h3 := bits_pos (n := b) (by omega)
  have h4 := nrP_ge t b
  unfold nrT nrB
  by_cases hp : nrP t b < 0
  · rw [if_pos hp, if_pos hp]
    have e1 : t * 2 ^ (0 - nrP t b).toNat < 2 ^ (bitsN t) * 2 ^ (0 - nrP t b).toNat := Nat.mul_lt_mul_of_pos_right h1 (Nat.two_pow_pos _)
    rw [← Nat.pow_add] at e1
    have e2 : 2 ^ (bitsN t + (0 - nrP t b).toNat) ≤ 2 ^ (54 + (bitsN b - 1)) := Nat.pow_le_pow_right (by decide) (by omega)
    rw [Nat.pow_add 2 54] at e2
    have e3 : 2 ^ 54 * 2 ^ (bitsN b - 1) ≤ 2 ^ 54 * b := Nat.mul_le_mul_left _ h2
    omega
  · rw [if_neg hp, if_neg hp]
    have e2 : 2 ^ bitsN t ≤ 2 ^ (54 + ((bitsN b - 1) + (nrP t b).toNat)) := Nat.pow_le_pow_right (by decide) (by omega)
    rw [Nat.pow_add 2 54, Nat.pow_add 2 (bitsN b - 1)] at e2
    have e3 : 2 ^ (bitsN b - 1) * 2 ^ (nrP t b).toNat ≤ b * 2 ^ (nrP t b).toNat := Nat.mul_le_mul_right _ h2
    have e4 : 2 ^ 54 * (2 ^ (bitsN b - 1) * 2 ^ (nrP t b).toNat) ≤ 2 ^ 54 * (b * 2 ^ (nrP t b).toNat) := Nat.mul_le_mul_left _ e3
    omega
theorem nrQ_lt {t b : Nat} (hb : 0 < b) : nrQ t b < 2 ^ 53 := by
  have h := nr_lt54 (t := t) hb
  unfold nrQ nrB2
  by_cases hg : nrBig t b = true
  · rw [if_pos hg, ← Nat.div_div_eq_div_mul]
    omega
  · rw [if_neg hg]
    have h2 : ¬ 9007199254740992 ≤ nrT t (nrP t b) / nrB b (nrP t b) := fun z => hg (decide_eq_true z)
    omega
theorem nrW_le {t b : Nat} (hb : 0 < b) : nrW t b ≤ 2 ^ 53 := by
  have h := nrQ_lt (t := t) hb
  unfold nrW; split <;> omega
theorem nrP2_lo (t b : Nat) : -1074 ≤ nrP2 t b := by
  have := nrP_lo t b
  unfold nrP2; split <;> omega
theorem nrB2_bits {t b m : Nat} (h1 : bitsN t ≤ m) (h2 : bitsN b ≤ m) (hb : 0 < b) : nrB2 t b < 2 ^ (m + 1) := by
  have h3 := bits_lt b
  have h4 := bits_pos (n := b) (by omega)
  have hB : nrB b (nrP t b) < 2 ^ m := by
    unfold nrB
    by_cases hp : nrP t b < 0
    · rw [if_pos hp]
      exact Nat.lt_of_lt_of_le h3 (Nat.pow_le_pow_right (by decide) h2)
    · rw [if_neg hp]
      have hx : nrP t b = (bitsN t : Int) - (bitsN b : Int) - 53 := by
        have hp' := hp
        unfold nrP at hp' ⊢
        split at hp' <;> rename_i hc
        · omega
        · rw [if_neg hc]
      have e1 : b * 2 ^ (nrP t b).toNat < 2 ^ bitsN b * 2 ^ (nrP t b).toNat := Nat.mul_lt_mul_of_pos_right h3 (Nat.two_pow_pos _)
      rw [← Nat.pow_add] at e1
      exact Nat.lt_of_lt_of_le e1 (Nat.pow_le_pow_right (by decide) (by omega))
  unfold nrB2
  rw [Nat.pow_succ]
  split <;> omega
end Up

set_option Elab.async false
set_option linter.all false
set_option maxRecDepth 100000
set_option maxHeartbeats 4000000
set_option exponentiation.threshold 200000
namespace Up
open PySem
/-! ### the nearest float is the nearest: all scaled by 2 ^ 2000 -/
def scW (e : Int) : Nat := 2 ^ (e + 2000).toNat
theorem scW_pos (e : Int) : 0 < scW e := Nat.two_pow_pos _
theorem scW_succ {e : Int} (h : -2000 ≤ e) : scW (e + 1) = 2 * scW e := by
  unfold scW
  rw [show (e + 1 + 2000).toNat = (e + 2000).toNat + 1 by omega, Nat.pow_succ, Nat.mul_comm]
theorem nr_rel (t b : Nat) : t * 2 ^ 2000 * nrB2 t b = nrT t (nrP t b) * (scW (nrP2 t b) * b) := by
  have hlo := nrP_lo t b
  unfold nrB2 nrP2 nrT nrB
  generalize nrP t b = p at *
  have key : ∀ (g : Bool), t * 2 ^ 2000 * (if g = true then (if p < 0 then b else b * 2 ^ p.toNat) * 2 else (if p < 0 then b else b * 2 ^ p.toNat)) =
      (if p < 0 then t * 2 ^ (0 - p).toNat else t) * (scW (if g = true then p + 1 else p) * b) := by
    intro g
    have e1 : scW (p + 1) = 2 * scW p := scW_succ (by omega)
    by_cases hp : p < 0
    · rw [if_pos hp, if_pos hp]
      have e2 : 2 ^ (0 - p).toNat * scW p = 2 ^ 2000 := by
        unfold scW
        rw [← Nat.pow_add]
        congr 1
        omega
      cases g
      · simp only [Bool.false_eq_true, if_false]
        rw [← e2]
        simp only [Nat.mul_assoc, Nat.mul_comm, Nat.mul_left_comm]
      · simp only [if_true]
        rw [e1, ← e2]
        simp only [Nat.mul_assoc, Nat.mul_comm, Nat.mul_left_comm]
    · rw [if_neg hp, if_neg hp]
      have e2 : scW p = 2 ^ p.toNat * 2 ^ 2000 := by
        unfold scW
        rw [← Nat.pow_add]
        congr 1
        omega
      cases g
      · simp only [Bool.false_eq_true, if_false]
        rw [e2]
        simp only [Nat.mul_assoc, Nat.mul_comm, Nat.mul_left_comm]
      · simp only [if_true]
        rw [e1, e2]
        simp only [Nat.mul_assoc, Nat.mul_comm, Nat.mul_left_comm]
  exact key (nrBig t b)
/-- T = q U + the r-th part of b2 of U -/
theorem nr_split (t b : Nat) : (t * 2 ^ 2000) * nrB2 t b = nrQ t b * (scW (nrP2 t b) * b) * nrB2 t b + nrR t b * (scW (nrP2 t b) * b) := by
  rw [nr_rel]
  have e : nrT t (nrP t b) = nrQ t b * nrB2 t b + nrR t b := by
    unfold nrQ nrR
    rw [Nat.mul_comm]
    exact (Nat.div_add_mod _ _).symm
  rw [e, Nat.add_mul]
  congr 1
  simp only [Nat.mul_assoc, Nat.mul_comm, Nat.mul_left_comm]
theorem nr_round {T U q r B : Nat} (hB : 0 < B) (hU : 0 < U) (hr : r < B) (h : T * B = q * U * B + r * U) :
    q * U ≤ T ∧ T < (q + 1) * U ∧ (B < 2 * r ↔ (2 * q + 1) * U < 2 * T) ∧ (2 * r = B ↔ (2 * q + 1) * U = 2 * T) := by
  have h1 : q * U ≤ T := by
    have : q * U * B ≤ T * B := by omega
    exact Nat.le_of_mul_le_mul_right this hB
  obtain ⟨d, hd⟩ := Nat.exists_eq_add_of_le h1
  have h2 : d * B = r * U := by
    rw [hd, Nat.add_mul] at h
    omega
  have h3 : d < U := by
    have : d * B < U * B := by
      rw [h2, Nat.mul_comm U B]
      exact Nat.mul_lt_mul_of_pos_right hr hU
    exact Nat.lt_of_mul_lt_mul_right this
  have e1 : (2 * q + 1) * U = 2 * (q * U) + U := by rw [Nat.add_mul, Nat.one_mul, Nat.mul_assoc]
  have e2 : (q + 1) * U = q * U + U := by rw [Nat.add_mul, Nat.one_mul]
  refine ⟨h1, by omega, ?_, ?_⟩
  · rw [e1, hd]
    constructor
    · intro hb
      have : U * B < 2 * d * B := by
        rw [Nat.mul_assoc, h2, ← Nat.mul_assoc, Nat.mul_comm U B]
        exact Nat.mul_lt_mul_of_pos_right hb hU
      have := Nat.lt_of_mul_lt_mul_right this
      omega
    · intro hb
      have h5 : U < 2 * d := by omega
      have : B * U < 2 * r * U := by
        rw [Nat.mul_assoc 2 r, ← h2, ← Nat.mul_assoc, Nat.mul_comm B U]
        exact Nat.mul_lt_mul_of_pos_right h5 hB
      exact Nat.lt_of_mul_lt_mul_right this
  · rw [e1, hd]
    constructor
    · intro hb
      have : 2 * d * B = U * B := by rw [Nat.mul_assoc, h2, ← Nat.mul_assoc, hb, Nat.mul_comm]
      have := Nat.eq_of_mul_eq_mul_right hB this
      omega
    · intro hb
      have h5 : 2 * d = U := by omega
      have : 2 * r * U = B * U := by rw [Nat.mul_assoc 2 r, ← h2, ← Nat.mul_assoc, h5, Nat.mul_comm]
      exact Nat.eq_of_mul_eq_mul_right hU this
structure NearAt (T U q : Nat) : Prop where
  hi : 2 * T ≤ (2 * q + 1) * U
  hiE : 2 * T = (2 * q + 1) * U → q % 2 = 0
  lo : 2 * q * U ≤ 2 * T + U
  loE : 2 * q * U = 2 * T + U → q % 2 = 0
theorem nr_near {t b : Nat} (hb : 0 < b) : NearAt (t * 2 ^ 2000) (scW (nrP2 t b) * b) (nrW t b) := by
  have hB := nrB2_pos (t := t) hb
  have hU : 0 < scW (nrP2 t b) * b := Nat.mul_pos (scW_pos _) hb
  have hr : nrR t b < nrB2 t b := Nat.mod_lt _ hB
  obtain ⟨h1, h2, h3, h4⟩ := nr_round hB hU hr (nr_split t b)
  generalize t * 2 ^ 2000 = T at *
  generalize scW (nrP2 t b) * b = U at *
  unfold nrW nrUp
  generalize nrQ t b = q at *
  generalize nrR t b = r at *
  generalize nrB2 t b = B at *
  have e1 : (2 * q + 1) * U = 2 * (q * U) + U := by rw [Nat.add_mul, Nat.one_mul, Nat.mul_assoc]
  have e2 : (q + 1) * U = q * U + U := by rw [Nat.add_mul, Nat.one_mul]
  have e3 : 2 * q * U = 2 * (q * U) := Nat.mul_assoc _ _ _
  have e4 : (2 * (q + 1) + 1) * U = 2 * (q * U) + 3 * U := by
    rw [show 2 * (q + 1) + 1 = 2 * q + 3 by omega, Nat.add_mul, e3]
  have e5 : 2 * (q + 1) * U = 2 * (q * U) + 2 * U := by rw [Nat.mul_add, Nat.add_mul, e3]
  rw [e1] at h3 h4
  rw [e2] at h2
  by_cases c1 : B < 2 * r
  · rw [decide_eq_true c1]
    simp only [Bool.true_or, if_true]
    have := h3.mp c1
    exact ⟨by rw [e4]; omega, by rw [e4]; omega, by rw [e5]; omega, by rw [e5]; omega⟩
  · rw [decide_eq_false c1]
    have n3 : ¬ 2 * (q * U) + U < 2 * T := fun z => c1 (h3.mpr z)
    by_cases c2 : 2 * r = B
    · rw [decide_eq_true c2]
      have t2 := h4.mp c2
      by_cases c3 : q % 2 = 1
      · rw [decide_eq_true c3]
        simp only [Bool.true_and, Bool.false_or, if_true]
        exact ⟨by rw [e4]; omega, by rw [e4]; omega, by rw [e5]; omega, by intro _; omega⟩
      · rw [decide_eq_false c3]
        simp only [Bool.and_false, Bool.false_or, Bool.false_eq_true, if_false]
        exact ⟨by rw [e1]; omega, by intro _; omega, by rw [e3]; omega, by rw [e3]; omega⟩
    · rw [decide_eq_false c2]
      simp only [Bool.false_and, Bool.or_self, Bool.false_eq_true, if_false]
      have n4 : ¬ 2 * (q * U) + U = 2 * T := fun z => c2 (h4.mpr z)
      exact ⟨by rw [e1]; omega, by rw [e1]; omega, by rw [e3]; omega, by rw [e3]; omega⟩
/-- above the least power the quotient has its 53 bits -/
theorem nrQ_ge {t b : Nat} (ht : 0 < t) (hb : 0 < b) (hp : -1074 < nrP2 t b) : 2 ^ 52 ≤ nrQ t b := by
  unfold nrQ nrB2
  by_cases hg : nrBig t b = true
  · rw [if_pos hg, ← Nat.div_div_eq_div_mul]
    have h2 : 9007199254740992 ≤ nrT t (nrP t b) / nrB b (nrP t b) := of_decide_eq_true hg
    omega
  · rw [if_neg hg]
    unfold nrP2 at hp
    rw [if_neg hg] at hp
    have hx : nrP t b = (bitsN t : Int) - (bitsN b : Int) - 53 := by
      have hp' := hp
      unfold nrP at hp' ⊢
      split at hp' <;> rename_i hc
      · omega
      · rw [if_neg hc]
    rw [Nat.le_div_iff_mul_le (nrB_pos hb _)]
    have h1 := bits_ge (n := t) (by omega)
    have h3 := bits_pos (n := t) (by omega)
    have h2 := bits_lt b
    unfold nrT nrB
    by_cases hp : nrP t b < 0
    · rw [if_pos hp, if_pos hp]
      have e1 : 2 ^ (bitsN t - 1) * 2 ^ (0 - nrP t b).toNat ≤ t * 2 ^ (0 - nrP t b).toNat := Nat.mul_le_mul_right _ h1
      rw [← Nat.pow_add] at e1
      have e2 : 2 ^ (52 + bitsN b) = 2 ^ (bitsN t - 1 + (0 - nrP t b).toNat) := by congr 1; omega
      have e3 : 2 ^ 52 * b ≤ 2 ^ 52 * 2 ^ bitsN b := Nat.mul_le_mul_left _ (Nat.le_of_lt h2)
      rw [← Nat.pow_add, e2] at e3
      omega
    · rw [if_neg hp, if_neg hp]
      have e1 : b * 2 ^ (nrP t b).toNat ≤ 2 ^ bitsN b * 2 ^ (nrP t b).toNat := Nat.mul_le_mul_right _ (Nat.le_of_lt h2)
      have e3 : 2 ^ 52 * (b * 2 ^ (nrP t b).toNat) ≤ 2 ^ 52 * (2 ^ bitsN b * 2 ^ (nrP t b).toNat) := Nat.mul_le_mul_left _ e1
      rw [← Nat.pow_add, ← Nat.pow_add] at e3
      have e2 : 2 ^ (52 + (bitsN b + (nrP t b).toNat)) = 2 ^ (bitsN t - 1) := by congr 1; omega
      rw [e2] at e3
      omega
theorem nr_lt {t b : Nat} (hb : 0 < b) : t * 2 ^ 2000 < (nrQ t b + 1) * (scW (nrP2 t b) * b) ∧ nrQ t b * (scW (nrP2 t b) * b) ≤ t * 2 ^ 2000 := by
  have hB := nrB2_pos (t := t) hb
  have hU : 0 < scW (nrP2 t b) * b := Nat.mul_pos (scW_pos _) hb
  obtain ⟨h1, h2, _, _⟩ := nr_round hB hU (Nat.mod_lt _ hB) (nr_split t b)
  exact ⟨h2, h1⟩
end Up

set_option Elab.async false
set_option linter.all false
set_option maxRecDepth 100000
set_option maxHeartbeats 4000000
set_option exponentiation.threshold 200000
namespace Up
open PySem
def TT (t : Nat) : Nat := t * 2 ^ 2000
/-! ### the float's own whole number of 53 bits, and what is near to it -/
structure Norm (t b n : Nat) (p : Int) (M : Nat) (e : Int) (v : Nat) : Prop where
  eq : n * 2 ^ v = M
  pe : p = e + v
  lt : M < 2 ^ 53
  lo : -1074 ≤ e
  hi : e ≤ 971
  big : 2 ^ 52 ≤ M ∨ e = -1074
  up : 2 * TT t ≤ (2 * M + 1) * (scW e * b)
  upE : 2 * TT t = (2 * M + 1) * (scW e * b) → M % 2 = 0
  dn : M = 2 ^ 52 → -1074 < e → 4 * M * (scW e * b) ≤ 4 * TT t + scW e * b
  dn' : ¬ (M = 2 ^ 52 ∧ -1074 < e) → 2 * M * (scW e * b) ≤ 2 * TT t + scW e * b ∧ (2 * M * (scW e * b) = 2 * TT t + scW e * b → M % 2 = 0)
theorem nrW_ge {t b : Nat} (ht : 0 < t) (hb : 0 < b) (hp : -1074 < nrP2 t b) : 2 ^ 52 ≤ nrW t b := by
  have := nrQ_ge ht hb hp
  unfold nrW; split <;> omega
theorem nrW_two (t b : Nat) : nrW t b = nrQ t b ∨ nrW t b = nrQ t b + 1 := by
  unfold nrW; split
  · exact .inr rfl
  · exact .inl rfl
theorem norm_of {t b : Nat} (ht : 0 < t) (hb : 0 < b) (h0 : nrW t b ≠ 0) (hf : (bitsN (nrW t b) : Int) + nrP2 t b ≤ 1024) :
    ∃ M e v, Norm t b (nrW t b / 2 ^ tz (nrW t b)) (nrP2 t b + (tz (nrW t b) : Int)) M e v ∧ 0 < M := by
  have N : NearAt (TT t) (scW (nrP2 t b) * b) (nrW t b) := nr_near hb
  have hle := nrW_le (t := t) hb
  have hlo := nrP2_lo t b
  have hge := nrW_ge ht hb
  have hq := nrQ_ge ht hb
  have h2 := nrW_two t b
  have hql : nrQ t b * (scW (nrP2 t b) * b) ≤ TT t := (nr_lt hb).2
  obtain ⟨_, _, _, i4⟩ := land_pred _ h0
  by_cases hw : nrW t b < 2 ^ 53
  · refine ⟨nrW t b, nrP2 t b, tz (nrW t b), ⟨i4, rfl, hw, hlo, ?_, ?_, N.hi, N.hiE, ?_, fun _ => ⟨N.lo, N.loE⟩⟩, by omega⟩
    · rcases Int.lt_or_le (-1074) (nrP2 t b) with h | h
      · have := le_bits (hge h)
        omega
      · omega
    · rcases Int.lt_or_le (-1074) (nrP2 t b) with h | h
      · exact .inl (hge h)
      · exact .inr (by omega)
    · intro hM he
      have h3 := hq he
      have h4 : nrQ t b = 2 ^ 52 := by omega
      have h5 := hql
      rw [h4] at h5
      rw [hM]
      generalize scW (nrP2 t b) * b = U at *
      generalize TT t = Z at *
      omega
  · have hW : nrW t b = 2 ^ 53 := by omega
    have hP : nrP2 t b + 54 ≤ 1024 := by
      have : bitsN (2 ^ 53) = 54 := bits_pow 53
      rw [hW, this] at hf
      omega
    have e0 : nrW t b / 2 ^ tz (nrW t b) = 1 ∧ tz (nrW t b) = 53 := by
      rw [hW]
      have hk : ∀ k, tz (2 ^ k) = k := by
        intro k
        induction k with
        | zero => exact tz_odd (by decide)
        | succ k ih =>
          rw [tz_even (Nat.ne_of_gt (Nat.two_pow_pos _)) (by rw [Nat.pow_succ]; omega)]
          rw [Nat.pow_succ, Nat.mul_div_cancel _ (by decide), ih]
      rw [hk]
      exact ⟨Nat.div_self (Nat.two_pow_pos _), rfl⟩
    rw [e0.1, e0.2]
    have eS : scW (nrP2 t b + 1) = 2 * scW (nrP2 t b) := scW_succ (by omega)
    have n1 := N.hi
    have n3 := N.lo
    rw [hW] at n1 n3
    refine ⟨2 ^ 52, nrP2 t b + 1, 52, ⟨by decide, by omega, by decide, by omega, by omega, .inl (Nat.le_refl _), ?_, fun _ => by decide, ?_, fun h => absurd ⟨rfl, by omega⟩ h⟩, by decide⟩
    · rw [eS, Nat.mul_assoc 2]
      generalize scW (nrP2 t b) * b = U at *
      generalize TT t = Z at *
      omega
    · intro _ _
      rw [eS, Nat.mul_assoc 2]
      generalize scW (nrP2 t b) * b = U at *
      generalize TT t = Z at *
      omega
/-- nothing is left: below the half of the least float -/
theorem norm_zero {t b : Nat} (ht : 0 < t) (hb : 0 < b) (h0 : nrW t b = 0) : 2 * TT t ≤ scW (-1074) * b := by
  have N : 2 * TT t ≤ (2 * nrW t b + 1) * (scW (nrP2 t b) * b) := (nr_near hb).hi
  have hp : nrP2 t b = -1074 := by
    rcases Int.lt_or_le (-1074) (nrP2 t b) with h | h
    · have := nrW_ge ht hb h
      omega
    · have := nrP2_lo t b
      omega
  rw [h0, hp] at N
  omega
/-- the bound beyond which all is infinite -/
def edgeN : Nat := 2 ^ 970 * (2 ^ 54 - 1)
theorem edge_sc : edgeN * 2 ^ 2000 = (2 ^ 54 - 1) * scW 970 := by
  unfold edgeN scW
  rw [show (970 + 2000 : Int).toNat = 970 + 2000 by decide, Nat.pow_add 2 970 2000, Nat.mul_comm (2 ^ 970) (2 ^ 54 - 1), Nat.mul_assoc]
theorem scW_mono {e f : Int} (h : e ≤ f) : scW e ≤ scW f := Nat.pow_le_pow_right (by decide) (by omega)
theorem edge_yes {t b : Nat} (ht : 0 < t) (hb : 0 < b) (hf : ¬ (bitsN (nrW t b) : Int) + nrP2 t b ≤ 1024) : edgeN * b ≤ t := by
  have N : NearAt (TT t) (scW (nrP2 t b) * b) (nrW t b) := nr_near hb
  have hle := nrW_le (t := t) hb
  have h2 := nrW_two t b
  have hql : nrQ t b * (scW (nrP2 t b) * b) ≤ TT t := (nr_lt hb).2
  have hlo := nrP2_lo t b
  have hb54 : bitsN (nrW t b) ≤ 54 := bits_le (by omega)
  have hp : -1074 < nrP2 t b := by omega
  have hge := nrW_ge ht hb hp
  have hq := nrQ_ge ht hb hp
  refine Nat.le_of_mul_le_mul_right (c := 2 ^ 2000) ?_ (Nat.two_pow_pos _)
  rw [Nat.mul_assoc, Nat.mul_comm b, ← Nat.mul_assoc, edge_sc]
  show _ ≤ TT t
  have s1 : scW 971 = 2 * scW 970 := scW_succ (e := 970) (by decide)
  have s2 : scW 972 = 2 * scW 971 := scW_succ (e := 971) (by decide)
  by_cases hw : nrW t b < 2 ^ 53
  · have h53 : bitsN (nrW t b) ≤ 53 := bits_le hw
    have hm := scW_mono (e := 972) (f := nrP2 t b) (by omega)
    have h5 : 2 ^ 52 * (scW 972 * b) ≤ nrQ t b * (scW (nrP2 t b) * b) := Nat.mul_le_mul hq (Nat.mul_le_mul_right _ hm)
    rw [s2, s1] at h5
    have h6 : (2 ^ 54 - 1) * scW 970 * b ≤ 2 ^ 52 * (2 * (2 * scW 970) * b) := by
      rw [show 2 ^ 52 * (2 * (2 * scW 970) * b) = 2 ^ 54 * (scW 970 * b) by rw [← Nat.mul_assoc 2 2, Nat.mul_assoc (2 * 2), ← Nat.mul_assoc (2 ^ 52)], Nat.mul_assoc]
      exact Nat.mul_le_mul_right _ (by decide)
    omega
  · have hW : nrW t b = 2 ^ 53 := by omega
    have hm := scW_mono (e := 971) (f := nrP2 t b) (by omega)
    have n3 := N.lo
    rw [hW] at n3
    have h5 : scW 971 * b ≤ scW (nrP2 t b) * b := Nat.mul_le_mul_right _ hm
    rw [s1, Nat.mul_assoc] at h5
    rw [Nat.mul_assoc]
    generalize scW (nrP2 t b) * b = U at *
    generalize scW 970 * b = G at *
    generalize TT t = Z at *
    omega
theorem edge_no {t b : Nat} (ht : 0 < t) (hb : 0 < b) (hf : (bitsN (nrW t b) : Int) + nrP2 t b ≤ 1024) : t < edgeN * b := by
  have N : NearAt (TT t) (scW (nrP2 t b) * b) (nrW t b) := nr_near hb
  have hle := nrW_le (t := t) hb
  have hlo := nrP2_lo t b
  refine Nat.lt_of_mul_lt_mul_right (a := 2 ^ 2000) ?_
  rw [Nat.mul_assoc edgeN, Nat.mul_comm b, ← Nat.mul_assoc, edge_sc]
  show TT t < _
  have s1 : scW 971 = 2 * scW 970 := scW_succ (e := 970) (by decide)
  have hG : 0 < scW 970 * b := Nat.mul_pos (scW_pos _) hb
  have n1 := N.hi
  have n2 := N.hiE
  rcases Int.lt_or_le (-1074) (nrP2 t b) with hp | hp
  · have hge := nrW_ge ht hb hp
    have h53 := le_bits hge
    by_cases hw : nrW t b < 2 ^ 53
    · have hm : scW (nrP2 t b) * b ≤ scW 971 * b := Nat.mul_le_mul_right _ (scW_mono (by omega))
      rw [s1, Nat.mul_assoc] at hm
      rw [Nat.mul_assoc]
      by_cases hx : nrW t b = 2 ^ 53 - 1
      · rw [hx] at n1 n2
        generalize scW (nrP2 t b) * b = U at *
        generalize scW 970 * b = G at *
        generalize TT t = Z at *
        have : (2 ^ 53 - 1) % 2 ≠ 0 := by decide
        have n3 : ¬ 2 * Z = (2 * (2 ^ 53 - 1) + 1) * U := fun z => this (n2 z)
        omega
      · have h6 : (2 * nrW t b + 1) * (scW (nrP2 t b) * b) ≤ (2 ^ 54 - 3) * (scW (nrP2 t b) * b) := Nat.mul_le_mul_right _ (by omega)
        generalize scW (nrP2 t b) * b = U at *
        generalize scW 970 * b = G at *
        generalize TT t = Z at *
        omega
    · have hW : nrW t b = 2 ^ 53 := by omega
      have e54 : bitsN (2 ^ 53) = 54 := bits_pow 53
      rw [hW, e54] at hf
      rw [hW] at n1
      have hm : scW (nrP2 t b) * b ≤ scW 970 * b := Nat.mul_le_mul_right _ (scW_mono (by omega))
      rw [Nat.mul_assoc]
      generalize scW (nrP2 t b) * b = U at *
      generalize scW 970 * b = G at *
      generalize TT t = Z at *
      omega
  · have hm : scW (nrP2 t b) * b ≤ scW 970 * b := Nat.mul_le_mul_right _ (scW_mono (by omega))
    have h6 : (2 * nrW t b + 1) * (scW (nrP2 t b) * b) ≤ (2 ^ 54 + 1) * (scW (nrP2 t b) * b) := Nat.mul_le_mul_right _ (by omega)
    rw [Nat.mul_assoc]
    generalize scW (nrP2 t b) * b = U at *
    generalize scW 970 * b = G at *
    generalize TT t = Z at *
    omega
/-! ### a power of two as a fraction -/
def scN (e : Int) : Nat := if 0 ≤ e then 2 ^ e.toNat else 1
def scD (e : Int) : Nat := if 0 ≤ e then 1 else 2 ^ (0 - e).toNat
theorem sc_frac {e : Int} (h : -2000 ≤ e) : ∃ c, 0 < c ∧ scD e * c = 2 ^ 2000 ∧ scN e * c = scW e := by
  unfold scD scN scW
  by_cases h0 : 0 ≤ e
  · rw [if_pos h0, if_pos h0]
    refine ⟨2 ^ 2000, Nat.two_pow_pos _, by omega, ?_⟩
    rw [← Nat.pow_add]
    congr 1
    omega
  · rw [if_neg h0, if_neg h0]
    refine ⟨2 ^ (e + 2000).toNat, Nat.two_pow_pos _, ?_, by omega⟩
    rw [← Nat.pow_add]
    congr 1
    omega
/-- above or below k times the power, asked of the scaled parts -/
theorem sc_lt {t b k : Nat} {e : Int} (h : -2000 ≤ e) : ((0 : Int) < (t : Int) * scD e - (k * scN e : Nat) * b ↔ k * (scW e * b) < TT t) ∧ ((t : Int) * scD e - (k * scN e : Nat) * b = 0 ↔ k * (scW e * b) = TT t) := by
  obtain ⟨c, c0, c1, c2⟩ := sc_frac h
  have e1 : TT t = t * scD e * c := by unfold TT; rw [← c1, Nat.mul_assoc]
  have e2 : k * (scW e * b) = k * scN e * b * c := by
    rw [← c2]
    simp only [Nat.mul_assoc, Nat.mul_comm, Nat.mul_left_comm]
  rw [e1, e2]
  have f1 : (t : Int) * scD e = ((t * scD e : Nat) : Int) := by rw [Int.natCast_mul]
  have f2 : ((k * scN e : Nat) : Int) * b = ((k * scN e * b : Nat) : Int) := by rw [Int.natCast_mul (k * scN e)]
  rw [f1, f2]
  generalize t * scD e = X
  generalize k * scN e * b = Y
  constructor
  · constructor
    · intro z
      exact Nat.mul_lt_mul_of_pos_right (by omega) c0
    · intro z
      have := Nat.lt_of_mul_lt_mul_right z
      omega
  · constructor
    · intro z
      have : X = Y := by omega
      rw [this]
    · intro z
      have := Nat.eq_of_mul_eq_mul_right c0 z
      omega
end Up

set_option Elab.async false
set_option linter.all false
set_option maxRecDepth 100000
set_option maxHeartbeats 4000000
set_option exponentiation.threshold 200000
namespace Up
open PySem
/-! ### what is a float already is met exactly; a fraction written with greater parts is the same -/
theorem nr_exact {t b k : Nat} {e : Int} (ht : 0 < t) (hb : 0 < b) (hk : k < 2 ^ 53) (he : -1074 ≤ e) (h : TT t = k * (scW e * b)) : nrW t b * (scW (nrP2 t b) * b) = TT t := by
  have hq : nrQ t b * (scW (nrP2 t b) * b) ≤ TT t := (nr_lt hb).2
  have hq2 : TT t < (nrQ t b + 1) * (scW (nrP2 t b) * b) := (nr_lt hb).1
  have hU : 0 < scW (nrP2 t b) * b := Nat.mul_pos (scW_pos _) hb
  have hlo := nrP2_lo t b
  have hle : nrP2 t b ≤ e := by
    rcases Int.lt_or_le (-1074) (nrP2 t b) with hp | hp
    · have h52 := nrQ_ge ht hb hp
      rcases Int.lt_or_le e (nrP2 t b) with hlt | hge
      · exfalso
        have hm : scW (e + 1) ≤ scW (nrP2 t b) := scW_mono (by omega)
        rw [scW_succ (by omega)] at hm
        have h1 : 2 ^ 52 * (2 * scW e * b) ≤ nrQ t b * (scW (nrP2 t b) * b) := Nat.mul_le_mul h52 (Nat.mul_le_mul_right _ hm)
        have h2 : k * (scW e * b) < 2 ^ 53 * (scW e * b) := Nat.mul_lt_mul_of_pos_right hk (Nat.mul_pos (scW_pos _) hb)
        have h3 : 2 ^ 52 * (2 * scW e * b) = 2 ^ 53 * (scW e * b) := by
          rw [Nat.mul_assoc 2, ← Nat.mul_assoc]
        omega
      · exact hge
    · omega
  have hd : scW e = 2 ^ (e - nrP2 t b).toNat * scW (nrP2 t b) := by
    unfold scW
    rw [← Nat.pow_add]
    congr 1
    omega
  have hT : TT t = (k * 2 ^ (e - nrP2 t b).toNat) * (scW (nrP2 t b) * b) := by
    rw [h, hd]
    simp only [Nat.mul_assoc, Nat.mul_comm, Nat.mul_left_comm]
  have hQ : nrQ t b = k * 2 ^ (e - nrP2 t b).toNat := by
    rw [hT] at hq hq2
    have a := Nat.le_of_mul_le_mul_right hq hU
    have c := Nat.lt_of_mul_lt_mul_right hq2
    omega
  have hR : nrR t b = 0 := by
    have s := nr_split t b
    have s' : TT t * nrB2 t b = nrQ t b * (scW (nrP2 t b) * b) * nrB2 t b + nrR t b * (scW (nrP2 t b) * b) := s
    rw [hT, ← hQ] at s'
    have z : nrR t b * (scW (nrP2 t b) * b) = 0 := by omega
    rcases Nat.mul_eq_zero.mp z with z | z
    · exact z
    · omega
  have hB := nrB2_pos (t := t) hb
  have hW : nrW t b = nrQ t b := by
    unfold nrW nrUp
    rw [hR]
    have d1 : ¬ nrB2 t b < 2 * 0 := by omega
    have d2 : ¬ 2 * 0 = nrB2 t b := by omega
    rw [decide_eq_false d1, decide_eq_false d2]
    rfl
  rw [hW, hQ, hT]
theorem bits_mul_pow {n : Nat} (h : n ≠ 0) (k : Nat) : bitsN (n * 2 ^ k) = bitsN n + k := by
  have h1 := bits_lt n
  have h2 := bits_ge h
  have h3 := bits_pos h
  have a : bitsN (n * 2 ^ k) ≤ bitsN n + k := bits_le (by
    rw [Nat.pow_add]
    exact Nat.mul_lt_mul_of_pos_right h1 (Nat.two_pow_pos _))
  have b : bitsN n - 1 + k + 1 ≤ bitsN (n * 2 ^ k) := le_bits (by
    rw [Nat.pow_add]
    exact Nat.mul_le_mul_right _ h2)
  omega
theorem nrP_scale {t b : Nat} (ht : 0 < t) (hb : 0 < b) (k : Nat) : nrP (t * 2 ^ k) (b * 2 ^ k) = nrP t b := by
  unfold nrP
  rw [bits_mul_pow (by omega), bits_mul_pow (by omega)]
  have e : ((bitsN t + k : Nat) : Int) - ((bitsN b + k : Nat) : Int) - 53 = (bitsN t : Int) - (bitsN b : Int) - 53 := by omega
  rw [e]
theorem nrT_scale (t k : Nat) (p : Int) : nrT (t * 2 ^ k) p = nrT t p * 2 ^ k := by
  unfold nrT
  split
  · rw [Nat.mul_right_comm]
  · rfl
theorem nrB_scale (b k : Nat) (p : Int) : nrB (b * 2 ^ k) p = nrB b p * 2 ^ k := by
  unfold nrB
  split
  · rfl
  · rw [Nat.mul_right_comm]
theorem nrBig_scale {t b : Nat} (ht : 0 < t) (hb : 0 < b) (k : Nat) : nrBig (t * 2 ^ k) (b * 2 ^ k) = nrBig t b := by
  unfold nrBig
  rw [nrP_scale ht hb, nrT_scale, nrB_scale, Nat.mul_div_mul_right _ _ (Nat.two_pow_pos k)]
theorem nrB2_scale {t b : Nat} (ht : 0 < t) (hb : 0 < b) (k : Nat) : nrB2 (t * 2 ^ k) (b * 2 ^ k) = nrB2 t b * 2 ^ k := by
  unfold nrB2
  rw [nrBig_scale ht hb, nrP_scale ht hb, nrB_scale]
  split
  · rw [Nat.mul_right_comm]
  · rfl
theorem nrP2_scale {t b : Nat} (ht : 0 < t) (hb : 0 < b) (k : Nat) : nrP2 (t * 2 ^ k) (b * 2 ^ k) = nrP2 t b := by
  unfold nrP2
  rw [nrBig_scale ht hb, nrP_scale ht hb]
theorem nrW_scale {t b : Nat} (ht : 0 < t) (hb : 0 < b) (k : Nat) : nrW (t * 2 ^ k) (b * 2 ^ k) = nrW t b := by
  have p2 := Nat.two_pow_pos k
  have eQ : nrQ (t * 2 ^ k) (b * 2 ^ k) = nrQ t b := by
    unfold nrQ
    rw [nrB2_scale ht hb, nrP_scale ht hb, nrT_scale, Nat.mul_div_mul_right _ _ p2]
  have eR : nrR (t * 2 ^ k) (b * 2 ^ k) = nrR t b * 2 ^ k := by
    unfold nrR
    rw [nrB2_scale ht hb, nrP_scale ht hb, nrT_scale, Nat.mul_mod_mul_right]
  have eU : nrUp (t * 2 ^ k) (b * 2 ^ k) = nrUp t b := by
    unfold nrUp
    rw [eQ, eR, nrB2_scale ht hb]
    have a : (nrB2 t b * 2 ^ k < 2 * (nrR t b * 2 ^ k)) ↔ nrB2 t b < 2 * nrR t b := by
      rw [← Nat.mul_assoc]
      exact ⟨fun z => Nat.lt_of_mul_lt_mul_right z, fun z => Nat.mul_lt_mul_of_pos_right z p2⟩
    have c : (2 * (nrR t b * 2 ^ k) = nrB2 t b * 2 ^ k) ↔ 2 * nrR t b = nrB2 t b := by
      rw [← Nat.mul_assoc]
      exact ⟨fun z => Nat.eq_of_mul_eq_mul_right p2 z, fun z => by rw [z]⟩
    rw [decide_eq_decide.mpr a, decide_eq_decide.mpr c]
  unfold nrW
  rw [eU, eQ]
end Up

set_option Elab.async false
set_option linter.all false
set_option maxRecDepth 100000
set_option maxHeartbeats 4000000
namespace Up
open PySem PySem.Spec PyProof.Rows L2
/-! ### what the head's one Bool says of a class -/
def ownB (K : PySem.W.Frag) (C : Addr) : Bool :=
  PySem.W.plainGet K C Str.empty && (PySem.W.hasDictIn K C && (PySem.W.plainOver K C && (decide (PySem.W.findIn K (.ref C) "__setattr__" = some (some (.builtin "object.__setattr__"))) &&
  (decide (PySem.W.findIn K (.ref C) "__class__" = some (some (.builtin "object.__class__"))) && (decide (PySem.W.specialIn K (.builtin "object.__class__") "__get__" = some (some (.builtin "getset_descriptor.__get__"))) &&
  (decide (PySem.W.takesIn K (.builtin "object.__class__") = some true) && (decide (PySem.W.mroIn K C (.type "object") = some true) && (decide (PySem.W.kitOne K (.ref C) (.type "int") = some false) &&
  (decide (PySem.W.kitOne K (.ref C) (.type "bool") = some false) && decide (PySem.W.kitOne K (.ref C) (.type "str") = some false))))))))))
theorem ownB_ok {K : PySem.W.Frag} {C : Addr} (h : ownB K C = true) : OwnC K C := by
  unfold ownB at h
  simp only [Bool.and_eq_true, decide_eq_true_eq] at h
  obtain ⟨h1, h2, h3, h4, h5, h6, h7, h8, h9, h10, h11⟩ := h
  exact ⟨⟨h1, h2, h3, h4⟩, h5, h6, h7, h8, h9, h10, h11⟩
def idB (K : PySem.W.Frag) (C : Addr) : Bool := decide (PySem.W.mroIn K C (.type "object") = some true) && (decide (PySem.W.findIn K (.ref C) "__eq__" = some (some (.builtin "object.__eq__"))) && decide (PySem.W.subIn K (.ref C) (.type "NoneType") = some false))
theorem idB_ok {K : PySem.W.Frag} {C : Addr} (h : idB K C = true) : IdC K C := by
  unfold idB at h
  simp only [Bool.and_eq_true, decide_eq_true_eq] at h
  exact ⟨h.1, h.2.1, h.2.2⟩
def noB (K : PySem.W.Frag) (C : Addr) (xs : List Str) : Bool := xs.all fun f => decide (PySem.W.findIn K (.ref C) f = some none)
theorem noB_ok {K : PySem.W.Frag} {C : Addr} {xs : List Str} (h : noB K C xs = true) {f : Str} (hf : f ∈ xs) : NoAttr K C f := by
  have e := List.all_eq_true.mp h f hf
  exact of_decide_eq_true (p := PySem.W.findIn K (.ref C) f = some none) e
/-- isinstance(a value of the kind T, the class at C) is b -/
def kitB' (K : PySem.W.Frag) (C : Addr) (b : Bool) (xs : List Value) : Bool := xs.all fun t => decide (PySem.W.kitOne K t (.ref C) = some b)
theorem kitB'_ok {K : PySem.W.Frag} {C : Addr} {b : Bool} {xs : List Value} (h : kitB' K C b xs = true) {t : Value} (ht : t ∈ xs) : PySem.W.kitOne K t (.ref C) = some b := of_decide_eq_true (List.all_eq_true.mp h t ht)
section
variable {P : Program} {w : World} {K : PySem.W.Frag} {mg : Str → Option Value} {base : Heap}
/-- a def by its promise, from the head's facts -/
theorem fn_mk {CX : CXT} {k : Nat} {x y qual : Str} {params : Arguments} {body : List Stmt} {scope : Scope} {f : Addr} {fd : FuncData} {ps : List Str} {sp : Sp} (F : FunD K y qual params body scope [] [] f fd) (hm : mg x = some (.ref f)) (ok : FnOk P w K mg base CX k f fd ps sp)
    (h : ∀ (kV doc pm : Value) (an : Option Addr) (cdv ct : Value) (us : List Value), us.length = ps.length → bindArgs (PySem.W.fnOf y qual params body scope .none kV doc pm an cdv ct) ⟨us, []⟩ = pure (ps.zip us)) : Fn P w K mg base CX k x ps [] sp :=
  ⟨f, fd, [], ok, hm, F.kp, F.bindsN h, .nil⟩
theorem mt_mk {CX : CXT} {k : Nat} {m qual : Str} {params : Arguments} {body : List Stmt} {scope : Scope} {f C : Addr} {fd : FuncData} {ps : List Str} {sp : Sp} (F : FunD K m qual params body scope [] [] f fd) (hm : Meth K C m f) (cl : Cls K C) (ok : FnOk P w K mg base CX k f fd ps sp)
    (h : ∀ (kV doc pm : Value) (an : Option Addr) (cdv ct : Value) (us : List Value), us.length = ps.length → bindArgs (PySem.W.fnOf m qual params body scope .none kV doc pm an cdv ct) ⟨us, []⟩ = pure (ps.zip us)) : Mt P w K mg base CX k C m ps sp :=
  ⟨f, fd, ok, hm, F.bindsN h, cl⟩
theorem cn_mk {CX : CXT} {k : Nat} {x qual : Str} {params : Arguments} {body : List Stmt} {scope : Scope} {f C : Addr} {fd : FuncData} {ps : List Str} {sp : Sp} (F : FunD K "__init__" qual params body scope [] [] f fd) (hM : Mk K C f) (hm : mg x = some (.ref C)) (ok : FnOk P w K mg base CX k f fd ps sp)
    (h : ∀ (kV doc pm : Value) (an : Option Addr) (cdv ct : Value) (us : List Value), us.length = ps.length → bindArgs (PySem.W.fnOf "__init__" qual params body scope .none kV doc pm an cdv ct) ⟨us, []⟩ = pure (ps.zip us)) : Cn P w K mg base CX k x C ps [] sp :=
  ⟨f, fd, [], ok, hM, hm, F.bindsN h, .nil⟩
end
end Up

set_option Elab.async false
set_option linter.all false
set_option maxRecDepth 100000
set_option maxHeartbeats 4000000
namespace Up
open PySem PySem.Spec PyProof.Rows L2
local macro_rules | `(tactic| walk_at "u") => `(tactic| first
  | with_reducible refine g_seq ?_
  | with_reducible refine g_asg ?_
  | with_reducible refine g_op ?_
  | ((with_reducible show tVar _ _ _ _); apply g_var; exact rfl)
  | with_reducible refine g_c ?_
  | with_reducible refine g_name ?_
  | with_reducible refine g_ifs ?_
  | with_reducible refine g_tt ?_
  | with_reducible refine g_tB ?_
  | with_reducible refine g_bl ?_
  | with_reducible refine g_ret ?_
  | with_reducible refine g_cb ?_
  | with_reducible refine g_cons ?_
  | with_reducible refine g_nil ?_
  | with_reducible refine g_call ?_
  | with_reducible refine g_and ?_
  | with_reducible refine g_or ?_
  | with_reducible refine g_not ?_
  | with_reducible refine g_andV ?_
  | with_reducible refine g_orV ?_
  | with_reducible refine g_notV ?_
  | with_reducible refine g_if ?_
  | with_reducible refine g_un ?_
  | with_reducible refine g_neg ?_
  | with_reducible refine g_addI ?_
  | with_reducible refine g_subI ?_
  | with_reducible refine g_subB ?_
  | with_reducible refine g_I0 ?_
  | with_reducible refine g_cmpI ?_
  | with_reducible refine g_eqI ?_
  | with_reducible refine g_neI ?_
  | with_reducible refine g_eqS ?_
  | with_reducible refine g_neS ?_
  | with_reducible refine g_eqB ?_
  | with_reducible refine g_neB ?_
  | with_reducible refine g_bits ?_
  | with_reducible refine g_bitsI ?_
  | with_reducible refine g_fld ?_
  | with_reducible refine g_tup ?_
  | with_reducible refine g_lst ?_
  | with_reducible refine g_gtup ?_
  | with_reducible refine g_make ?_
  | with_reducible refine g_lc ?_
  | with_reducible refine g_yesT ?_
  | with_reducible refine g_intI ?_
  | with_reducible refine g_intB ?_
  | with_reducible refine g_max2 ?_
  | with_reducible refine g_abs1 ?_
  | with_reducible refine g_for ?_
  | with_reducible refine g_iList ?_
  | with_reducible refine g_iTup ?_
  | with_reducible refine g_iRng1 ?_
  | with_reducible refine g_iEnum ?_
  | with_reducible refine g_slice ?_
  | with_reducible refine g_po0 ?_
  | with_reducible refine g_po1 ?_
  | with_reducible refine g_gsub ?_
  | with_reducible refine g_par ?_
  | with_reducible refine g_par2 ?_
  | with_reducible refine g_rfl ?_
  | with_reducible refine g_meth ?_
  | with_reducible refine g_gcons ?_
  | with_reducible refine g_gnil ?_
  | with_reducible refine g_gfld ?_
  | with_reducible refine g_sfld ?_
  | with_reducible refine g_drop ?_
  | with_reducible refine g_next ?_
  | with_reducible refine iteT ?_
  | with_reducible refine iteF ?_)
local macro_rules | `(tactic| walk_at "go") => `(tactic| (repeat walk_at "u"))

def top (i : Nat) : Stmt := PySem.Challenge.pw_upvalues_k03_whole_quotients_and_what_is.main.body.getD i (.Pass ⟨0, 0, 0, 0⟩)
section
variable {P : Program} {w : World} {K : PySem.W.Frag} {mg : Str → Option Value} {base : Heap}
/-! is_plain -/
abbrev s_isplain : Stmt := top 13
theorem sc_isplain : FnScope ["number"] ["number"] (defScope s_isplain) := ⟨rfl, rfl, rfl, by decide +kernel, rfl, by decide +kernel, by decide +kernel⟩
def sp_isplain (K : PySem.W.Frag) : Sp := fun vs H Q _ => ∃ x t, vs = [x] ∧ Kn K H x t ∧ Q (.bl (isI x)) H
theorem ok_isplain {f : Addr} {fd : FuncData} (F : FunD K "is_plain" "is_plain" (defArgs s_isplain) (defBody s_isplain) (defScope s_isplain) [] [] f fd) (B : Blt mg) : FnOk P w K mg base CX0 1 f fd ["number"] (sp_isplain K) := by
  refine F.ok sc_isplain (fun vs H Q E h => ?_) (fun cdv A outer s H vs Q E hr h => ?_)
  · obtain ⟨x, t, rfl, _⟩ := h; rfl
  · obtain ⟨x, t, rfl, hk, q⟩ := h
    refine ⟨_, PSs.nox (pss_one (ps_ret (pe_and (pe_callB call_isi (by rfl) B.isinstance (by decide +kernel) (pa_cons (pv 0) (pa_cons (pe_tyInt B) pa_nil))) (pe_one (pe_not (pe_callB call_isi (by rfl) B.isinstance (by decide +kernel) (pa_cons (pv 0) (pa_cons (pe_tyBool B) pa_nil)))))))), ?_⟩
    walk_at "go"
    refine g_isiInt hk ?_
    walk_at "go"
    cases x <;> first | exact iteF q | (refine iteT ?_; walk_at "go"; refine g_isiBool hk ?_; walk_at "go"; exact q)
/-! reduced -/
abbrev s_reduced : Stmt := top 14
theorem sc_reduced : FnScope ["top", "power", "less"] ["top", "power"] (defScope s_reduced) := ⟨rfl, rfl, rfl, by decide +kernel, rfl, by decide +kernel, by decide +kernel⟩
/-- the lowest bit's place -/
def lowB (n : Int) : Int := ((Builtin.Int.intBits (Builtin.bitAnd n (0 - n)) : Nat) : Int) - 1
def redV : V → Int → V × Int
  | .int n, p => if n = 0 then (.int 0, 0) else (.int (n / 2 ^ (lowB n).toNat), p + lowB n)
  | v, _ => (v, 0)
def isIN (x : V) : Prop := x = .str "inf" ∨ x = .str "nan"
theorem inf_nan : ¬ (("inf" : Str) = "nan") := by decide +kernel
def sp_reduced : Sp := fun vs H Q _ => ∃ x p, vs = [x, .int p] ∧ (isIN x ∨ ∃ n, x = .int n ∧ (n ≠ 0 → 0 ≤ lowB n)) ∧ RetT H [(redV x p).1, .int (redV x p).2] Q
theorem ok_reduced {f : Addr} {fd : FuncData} (F : FunD K "reduced" "reduced" (defArgs s_reduced) (defBody s_reduced) (defScope s_reduced) [] [] f fd) (B : Blt mg) : FnOk P w K mg base CX0 1 f fd ["top", "power"] sp_reduced := by
  refine F.ok sc_reduced (fun vs H Q E h => ?_) (fun cdv A outer s H vs Q E hr h => ?_)
  · obtain ⟨x, t, rfl, _⟩ := h; rfl
  · obtain ⟨x, p, rfl, hx, q⟩ := h
    refine ⟨_, PSs.nox (pss_cons (ps_if (PW.pt (pw_or (pt_cmpR op_in_seq (pv 0) (pe_tupN (pa_cons pe_str (pa_cons pe_str pa_nil))) (by rfl)) (pw_or1 (pt_cmpR (op_oEq hr.units) (pv 0) pe_int (nomark _))))) (pss_one (ps_ret (pe_tupN (pa_cons (pv 0) (pa_cons pe_int pa_nil))))) pss_nil)
  (pss_cons (ps_set (i := 2) sc_reduced.nd rfl (Or.inl rfl) (pe_op op_oSub (pe_bits (pe_op op_oAnd (pv 0) (pe_op op_oSub pe_int (pv 0)))) pe_int))
  (pss_one (ps_ret (pe_tupN (pa_cons (pe_op op_oShr (pv 0) (pv 2)) (pa_cons (pe_op op_oAdd (pv 1) (pv 2)) pa_nil))))))), ?_⟩
    walk_at "go"
    refine g_new (sz rfl) fun a H1 na s1 ha _ => ?_
    rcases hx with (rfl | rfl) | ⟨n, rfl, hn⟩
    · refine ⟨a, _, rfl, .inr (SqT.of ha), rfl, rfl, ?_⟩
      walk_at "go"
      refine iteT ?_
      walk_at "go"
      refine g_new (sz rfl) fun b H2 nb s2 hb _ => ?_
      exact q _ _ (s1.free nb) (s1.trans s2) hb
    · refine ⟨a, _, rfl, .inr (SqT.of ha), rfl, rfl, ?_⟩
      walk_at "go"
      refine iteT ?_
      walk_at "go"
      refine g_new (sz rfl) fun b H2 nb s2 hb _ => ?_
      exact q _ _ (s1.free nb) (s1.trans s2) hb
    · refine ⟨a, _, rfl, .inr (SqT.of ha), rfl, rfl, ?_⟩
      walk_at "go"
      refine iteF ?_
      walk_at "go"
      refine g_ite (fun h0 => ?_) fun h0 => ?_
      · walk_at "go"
        refine g_new (sz rfl) fun b H2 nb s2 hb _ => ?_
        subst h0
        exact q _ _ (s1.free nb) (s1.trans s2) hb
      · walk_at "go"
        refine g_II (hn h0) ?_
        walk_at "go"
        refine g_new (sz rfl) fun b H2 nb s2 hb _ => ?_
        have e : redV (.int n) p = (.int (n / 2 ^ (lowB n).toNat), p + lowB n) := if_neg h0
        rw [e] at q
        exact q _ _ (s1.free nb) (s1.trans s2) hb
/-! fits -/
abbrev s_fits : Stmt := top 15
theorem sc_fits : FnScope ["top", "power"] ["top", "power"] (defScope s_fits) := ⟨rfl, rfl, rfl, by decide +kernel, rfl, by decide +kernel, by decide +kernel⟩
def fitsB (n p : Int) : Bool := (decide (n < 9007199254740992) && (decide (-1074 ≤ p) && decide (((Builtin.Int.intBits n : Nat) : Int) + p ≤ 1024))) || decide (n = 0)
def sp_fits : Sp := fun vs H Q _ => ∃ n p, vs = [.int n, .int p] ∧ Q (.bl (fitsB n p)) H
theorem ok_fits {f : Addr} {fd : FuncData} (F : FunD K "fits" "fits" (defArgs s_fits) (defBody s_fits) (defScope s_fits) [] [] f fd) (B : Blt mg) (i_ROOM : ∃ t, mg "ROOM" = some (.int 9007199254740992 t)) (i_LOWEST : ∃ t, mg "LOWEST" = some (.int (-1074) t)) (i_TOO_GREAT : ∃ t, mg "TOO_GREAT" = some (.int 1024 t)) :
    FnOk P w K mg base CX0 1 f fd ["top", "power"] sp_fits := by
  refine F.ok sc_fits (fun vs H Q E h => ?_) (fun cdv A outer s H vs Q E hr h => ?_)
  · obtain ⟨x, t, rfl, _⟩ := h; rfl
  · obtain ⟨n, p, rfl, q⟩ := h
    refine ⟨_, PSs.nox (pss_one (ps_ret (pe_or (pe_and (pe_cmpR op_oLt (pv 0) (pe_gint i_ROOM) (nomark _)) (pe_and (pe_cmpR op_oGe (pv 1) (pe_gint i_LOWEST) (nomark _)) (pe_one (pe_cmpR op_oLe (pe_op op_oAdd (pe_bits (pv 0)) (pv 1)) (pe_gint i_TOO_GREAT) (nomark _))))) (pe_one (pe_cmpR (op_oEq hr.units) (pv 0) pe_int (nomark _)))))), ?_⟩
    walk_at "go"
    unfold fitsB at q
    refine g_ite (fun h1 => ?_) fun h1 => ?_
    · walk_at "go"
      refine g_ite (fun h2 => ?_) fun h2 => ?_
      · walk_at "go"
        refine g_ite (fun h3 => ?_) fun h3 => ?_
        · simp only [h1, h2, h3, decide_true, Bool.and_self, Bool.true_or] at q
          exact q
        · walk_at "go"
          simp only [h1, h2, h3, decide_true, decide_false, Bool.and_false, Bool.and_self, Bool.false_or] at q
          exact q
      · walk_at "go"
        simp only [h1, h2, decide_true, decide_false, Bool.and_false, Bool.false_and, Bool.false_or] at q
        exact q
    · walk_at "go"
      simp only [h1, decide_false, Bool.false_and, Bool.false_or] at q
      exact q
/-! sign_of -/
abbrev s_signof : Stmt := top 16
theorem sc_signof : FnScope ["is_negative"] ["is_negative"] (defScope s_signof) := ⟨rfl, rfl, rfl, by decide +kernel, rfl, by decide +kernel, by decide +kernel⟩
def sgnB (b : Bool) : Int := if b then -1 else 1
def sp_signof : Sp := fun vs H Q _ => ∃ b, vs = [.bl b] ∧ Q (.int (sgnB b)) H
theorem ok_signof {f : Addr} {fd : FuncData} (F : FunD K "sign_of" "sign_of" (defArgs s_signof) (defBody s_signof) (defScope s_signof) [] [] f fd) : FnOk P w K mg base CX0 1 f fd ["is_negative"] sp_signof := by
  refine F.ok sc_signof (fun vs H Q E h => ?_) (fun cdv A outer s H vs Q E hr h => ?_)
  · obtain ⟨x, rfl, _⟩ := h; rfl
  · obtain ⟨b, rfl, q⟩ := h
    refine ⟨_, PSs.nox (pss_one (ps_ret (pe_ifExp (pt_val (pv 0)) (pe_un un_neg pe_int) pe_int))), ?_⟩
    walk_at "go"
    cases b
    · refine iteF ?_; walk_at "go"; exact q
    · refine iteT ?_; walk_at "go"; exact q
end
end Up

set_option Elab.async false
set_option linter.all false
set_option maxRecDepth 100000
set_option maxHeartbeats 4000000
namespace Up
open PySem PySem.Spec PyProof.Rows L2
local macro_rules | `(tactic| walk_at "u") => `(tactic| first
  | with_reducible refine g_seq ?_
  | with_reducible refine g_asg ?_
  | with_reducible refine g_op ?_
  | ((with_reducible show tVar _ _ _ _); apply g_var; exact rfl)
  | with_reducible refine g_c ?_
  | with_reducible refine g_name ?_
  | with_reducible refine g_ifs ?_
  | with_reducible refine g_tt ?_
  | with_reducible refine g_tB ?_
  | with_reducible refine g_bl ?_
  | with_reducible refine g_ret ?_
  | with_reducible refine g_cb ?_
  | with_reducible refine g_cons ?_
  | with_reducible refine g_nil ?_
  | with_reducible refine g_call ?_
  | with_reducible refine g_and ?_
  | with_reducible refine g_or ?_
  | with_reducible refine g_not ?_
  | with_reducible refine g_andV ?_
  | with_reducible refine g_orV ?_
  | with_reducible refine g_notV ?_
  | with_reducible refine g_if ?_
  | with_reducible refine g_un ?_
  | with_reducible refine g_neg ?_
  | with_reducible refine g_addI ?_
  | with_reducible refine g_subI ?_
  | with_reducible refine g_subB ?_
  | with_reducible refine g_I0 ?_
  | with_reducible refine g_cmpI ?_
  | with_reducible refine g_eqI ?_
  | with_reducible refine g_neI ?_
  | with_reducible refine g_eqS ?_
  | with_reducible refine g_neS ?_
  | with_reducible refine g_eqB ?_
  | with_reducible refine g_neB ?_
  | with_reducible refine g_bits ?_
  | with_reducible refine g_bitsI ?_
  | with_reducible refine g_fld ?_
  | with_reducible refine g_tup ?_
  | with_reducible refine g_lst ?_
  | with_reducible refine g_gtup ?_
  | with_reducible refine g_make ?_
  | with_reducible refine g_lc ?_
  | with_reducible refine g_yesT ?_
  | with_reducible refine g_intI ?_
  | with_reducible refine g_intB ?_
  | with_reducible refine g_max2 ?_
  | with_reducible refine g_abs1 ?_
  | with_reducible refine g_for ?_
  | with_reducible refine g_iList ?_
  | with_reducible refine g_iTup ?_
  | with_reducible refine g_iRng1 ?_
  | with_reducible refine g_iEnum ?_
  | with_reducible refine g_slice ?_
  | with_reducible refine g_po0 ?_
  | with_reducible refine g_po1 ?_
  | with_reducible refine g_gsub ?_
  | with_reducible refine g_par ?_
  | with_reducible refine g_par2 ?_
  | with_reducible refine g_rfl ?_
  | with_reducible refine g_meth ?_
  | with_reducible refine g_gcons ?_
  | with_reducible refine g_gnil ?_
  | with_reducible refine g_gfld ?_
  | with_reducible refine g_sfld ?_
  | with_reducible refine g_drop ?_
  | with_reducible refine g_next ?_
  | with_reducible refine iteT ?_
  | with_reducible refine iteF ?_)
local macro_rules | `(tactic| walk_at "go") => `(tactic| (repeat walk_at "u"))

/-! ### Float: what its instances are -/
def flF (s : Int) (t : V) (p : Int) : List (Str × V) := [("sign", .int s), ("top", t), ("power", .int p)]
theorem fl_put (s : Int) (t : V) (p : Int) : putF "power" (.int p) (putF "top" t (putF "sign" (.int s) [])) = flF s t p := rfl
theorem fl_sign (s : Int) (t : V) (p : Int) : (flF s t p).lookup ("sign" : Str) = some (.int s) := rfl
theorem fl_top (s : Int) (t : V) (p : Int) : (flF s t p).lookup ("top" : Str) = some t := rfl
theorem fl_power (s : Int) (t : V) (p : Int) : (flF s t p).lookup ("power" : Str) = some (.int p) := rfl
def FlAt (C : Addr) (H : Hp) (a : Addr) (s : Int) (t : V) (p : Int) : Prop := ∃ dx, H a = some (.ins C dx (flF s t p))
theorem FlAt.same {C : Addr} {H H' : Hp} {a : Addr} {s : Int} {t : V} {p : Int} (h : FlAt C H a s t p) (e : Same H H') : FlAt C H' a s t p := by
  obtain ⟨dx, h⟩ := h
  exact ⟨dx, e _ _ h⟩
/-- a right float's parts -/
def FinOk (n p : Int) : Prop := 0 ≤ n ∧ n < 2 ^ 53 ∧ -1074 ≤ p ∧ ((Builtin.Int.intBits n : Nat) : Int) + p ≤ 1024 ∧ (n = 0 → p = 0) ∧ (n ≠ 0 → n % 2 = 1)
def FlOk (s : Int) (t : V) (p : Int) : Prop := (s = 1 ∨ s = -1) ∧ ((t = .str "nan" ∧ s = 1 ∧ p = 0) ∨ (t = .str "inf" ∧ p = 0) ∨ ∃ n, t = .int n ∧ FinOk n p)
/-- what the text says of the class Float, at C -/
structure FlC (K : PySem.W.Frag) (mg : Str → Option Value) (C : Addr) : Prop where
  own : OwnC K C
  nS : NoAttr K C "sign"
  nT : NoAttr K C "top"
  nP : NoAttr K C "power"
  mg : mg "Float" = some (.ref C)
  yes : PySem.W.kitOne K (.ref C) (.ref C) = some true
  fi : PySem.W.kitOne K (.type "int") (.ref C) = some false
  fb : PySem.W.kitOne K (.type "bool") (.ref C) = some false
  fs : PySem.W.kitOne K (.type "str") (.ref C) = some false
  fn : PySem.W.kitOne K (.type "NoneType") (.ref C) = some false
  fl : PySem.W.kitOne K (.type "list") (.ref C) = some false
  ft : PySem.W.kitOne K (.type "tuple") (.ref C) = some false
  fd : PySem.W.kitOne K (.type "dict") (.ref C) = some false
section
variable {P : Program} {w : World} {K : PySem.W.Frag} {mg : Str → Option Value} {base : Heap} {C : Addr}
/-- what Float(s, top, p) asks, and the parts that it gets -/
def MkOk (s : Int) (top : V) (p : Int) : Prop := (s = 1 ∨ s = -1) ∧ ((top = .str "nan" ∧ s = 1 ∧ p = 0) ∨ (top = .str "inf" ∧ p = 0) ∨ ∃ n : Nat, top = .int n ∧ ∃ m, (redV top p).1 = .int m ∧ fitsB m (redV top p).2 = true)
abbrev s_Float_init : Stmt := inClass (top 12) 0
theorem sc_Float_init : FnScope ["self", "sign", "top", "power"] ["self", "sign", "top", "power"] (defScope s_Float_init) := ⟨rfl, rfl, rfl, by decide +kernel, rfl, by decide +kernel, by decide +kernel⟩
def sp_Finit (C : Addr) : Sp := fun vs H Q _ => ∃ a dx s top p, vs = [.ref a, .int s, top, .int p] ∧ H a = some (.ins C dx []) ∧ MkOk s top p ∧
  ∀ H', (∀ b o, b ≠ a → H b = some o → H' b = some o) → H' a = some (.ins C dx (flF s (redV top p).1 (redV top p).2)) → Q .non H'
theorem lowB_nat {n : Nat} (h : n ≠ 0) : lowB (n : Int) = (tz n : Int) := low_bits h
theorem ok_Finit {f : Addr} {fd : FuncData} (F : FunD K "__init__" "Float.__init__" (defArgs s_Float_init) (defBody s_Float_init) (defScope s_Float_init) [] [] f fd) (B : Blt mg) (T : FlC K mg C) (c_isplain : Fn P w K mg base CX0 1 "is_plain" ["number"] [] (sp_isplain K)) (c_reduced : Fn P w K mg base CX0 1 "reduced" ["top", "power"] [] sp_reduced)
    (c_fits : Fn P w K mg base CX0 1 "fits" ["top", "power"] [] sp_fits) : FnOk P w K mg base CX0 2 f fd ["self", "sign", "top", "power"] (sp_Finit C) := by
  refine F.ok sc_Float_init (fun vs H Q E h => ?_) (fun cdv A outer s H vs Q E hr h => ?_)
  · obtain ⟨a, dx, s, top, p, rfl, _⟩ := h; rfl
  · obtain ⟨a, dx, sg, top, p, rfl, ha, ⟨hs, hk⟩, q⟩ := h
    refine ⟨_, PSs.nox (pss_cons (ps_if (PW.pt (pw_or (pt_not (pt_val (pe_fn c_isplain (hr.mono (by decide)) pass0 (pa_cons (pv 1) pa_nil)))) (pw_or1 (pt_cmpR op_notIn_seq (pv 1) (pe_tupN (pa_cons pe_int (pa_cons (pe_un un_neg pe_int) pa_nil))) (by rfl))))) (pss_one ps_never) pss_nil)
  (C8.pss_cut (ps_if (PW.pt (pw_and (pt_val (pe_callB call_isi (by rfl) B.isinstance (by decide +kernel) (pa_cons (pv 2) (pa_cons (pe_tyStr B) pa_nil)))) (pw_and1 (pt_cmpR op_in_seq (pv 2) (pe_tupN (pa_cons pe_str (pa_cons pe_str pa_nil))) (by rfl))))) (pss_cons (ps_if (PW.pt (pw_and (pt_cmpR (op_oEq hr.units) (pv 2) pe_str (nomark _)) (pw_and1 (pt_cmpR (op_oEq hr.units) (pv 1) (pe_un un_neg pe_int) (nomark _))))) (pss_one ps_never) pss_nil)
  (pss_one (ps_if (PW.pt (pw_or (pt_not (pt_val (pe_fn c_isplain (hr.mono (by decide)) pass0 (pa_cons (pv 3) pa_nil)))) (pw_or1 (pt_cmpR (op_oNe hr.units) (pv 3) pe_int (nomark _))))) (pss_one ps_never) pss_nil))) (pss_one (ps_if (PW.pt (pw_or (pt_not (pt_val (pe_fn c_isplain (hr.mono (by decide)) pass0 (pa_cons (pv 2) pa_nil)))) (pw_or1 (pt_cmpR op_oLt (pv 2) pe_int (nomark _))))) (pss_one ps_never) (pss_one (ps_if (pt_not (pt_val (pe_fn c_isplain (hr.mono (by decide)) pass0 (pa_cons (pv 3) pa_nil)))) (pss_one ps_never) pss_nil)))))
  (pss_cons (ps_fld (pv 0) (pv 1) rfl)
  (pss_cons (ps_asg (pe_fn c_reduced (hr.mono (by decide)) pass0 (pa_cons (pv 2) (pa_cons (pv 3) pa_nil))) (pg_tup rfl (pgs_cons (pg_fld (pv 0)) (pgs_cons (pg_fld (pv 0)) pgs_nil))))
  (pss_one (ps_if (PW.pt (pw_and (pt_cmpR op_notIn_seq (pe_fld (pv 0) rfl) (pe_tupN (pa_cons pe_str (pa_cons pe_str pa_nil))) (by rfl)) (pw_and1 (pt_not (pt_val (pe_fn c_fits (hr.mono (by decide)) pass0 (pa_cons (pe_fld (pv 0) rfl) (pa_cons (pe_fld (pv 0) rfl) pa_nil)))))))) (pss_one ps_never) pss_nil)))))), ?_⟩
    walk_at "go"
    refine ⟨_, _, rfl, kn_int, ?_⟩
    walk_at "go"
    refine iteF ?_
    walk_at "go"
    refine g_new (sz rfl) fun a1 H1 na1 s1 ha1 _ => ?_
    refine ⟨a1, _, rfl, .inr (SqT.of ha1), rfl, rfl, ?_⟩
    walk_at "go"
    have hin : (if true = true then !inV (V.int sg) [V.int 1, V.int (-1)] else inV (V.int sg) [V.int 1, V.int (-1)]) = false := by
      rcases hs with rfl | rfl <;> rfl
    rw [hin]
    walk_at "go"
    refine g_cut (fun σ' H2 => σ' = [some (.ref a), some (.int sg), some top, some (.int p)] ∧ Same H1 H2 ∧ (isIN top ∨ ∃ n : Int, top = .int n ∧ (n ≠ 0 → 0 ≤ lowB n)) ∧ (isIN top ∧ (redV top p).1 = top ∨ ∃ m, (redV top p).1 = .int m ∧ fitsB m (redV top p).2 = true)) ?_ ?_
    · walk_at "go"
      rcases hk with ⟨rfl, rfl, rfl⟩ | ⟨rfl, rfl⟩ | ⟨n, rfl, m, hm, hf⟩
      · refine g_isiStr kn_str ?_
        walk_at "go"
        refine iteT ?_
        walk_at "go"
        refine g_new (sz rfl) fun a2 H2 na2 s2 ha2 _ => ?_
        refine ⟨a2, _, rfl, .inr (SqT.of ha2), rfl, rfl, ?_⟩
        walk_at "go"
        refine iteT ?_
        walk_at "go"
        refine g_yes rfl ?_
        walk_at "go"
        refine g_no (by decide) ?_
        walk_at "go"
        refine ⟨_, _, rfl, kn_int, ?_⟩
        walk_at "go"
        refine iteF ?_
        walk_at "go"
        refine iteF ?_
        walk_at "go"
        exact ⟨rfl, s2, .inl (.inr rfl), .inl ⟨.inr rfl, rfl⟩⟩
      · refine g_isiStr kn_str ?_
        walk_at "go"
        refine iteT ?_
        walk_at "go"
        refine g_new (sz rfl) fun a2 H2 na2 s2 ha2 _ => ?_
        refine ⟨a2, _, rfl, .inr (SqT.of ha2), rfl, rfl, ?_⟩
        walk_at "go"
        refine iteT ?_
        walk_at "go"
        refine g_no (by decide +kernel) ?_
        walk_at "go"
        refine ⟨_, _, rfl, kn_int, ?_⟩
        walk_at "go"
        refine iteF ?_
        walk_at "go"
        refine iteF ?_
        walk_at "go"
        exact ⟨rfl, s2, .inl (.inl rfl), .inl ⟨.inl rfl, rfl⟩⟩
      · refine g_isiStr kn_int ?_
        walk_at "go"
        refine iteF ?_
        walk_at "go"
        refine ⟨_, _, rfl, kn_int, ?_⟩
        walk_at "go"
        refine iteF ?_
        walk_at "go"
        refine g_no (by omega) ?_
        walk_at "go"
        refine ⟨_, _, rfl, kn_int, ?_⟩
        walk_at "go"
        refine iteF ?_
        walk_at "go"
        refine ⟨rfl, Same.refl _, .inr ⟨_, rfl, fun h => ?_⟩, .inr ⟨m, hm, hf⟩⟩
        rw [lowB_nat (by omega)]
        omega
    · rintro σ' H2 ⟨rfl, s2, hx, hy⟩
      have h2 := s2 _ _ (s1 _ _ ha)
      walk_at "go"
      refine ⟨a, C, dx, _, rfl, h2, T.own.cl, T.nS, Nat.le_of_ble_eq_true rfl, ?_⟩
      walk_at "go"
      refine ⟨_, _, rfl, hx, fun H3 a3 na3 s3 ha3 => ?_⟩
      have h3 : H3 a = some (.ins C dx (putF "sign" (.int sg) [])) := s3 _ _ upd_same
      have n3 : a3 ≠ a := fun z => by rw [z, upd_same] at na3; cases na3
      walk_at "go"
      refine ⟨a3, _, rfl, SqT.of ha3, rfl, ?_⟩
      walk_at "go"
      refine ⟨a, C, dx, _, rfl, h3, T.own.cl, T.nT, Nat.le_of_ble_eq_true rfl, ?_⟩
      walk_at "go"
      refine ⟨a, C, dx, _, rfl, upd_same, T.own.cl, T.nP, Nat.le_of_ble_eq_true rfl, ?_⟩
      walk_at "go"
      generalize e4 : upd (upd H3 a (.ins C dx (putF "top" (redV top p).1 (putF "sign" (.int sg) [])))) a (.ins C dx (putF "power" (.int (redV top p).2) (putF "top" (redV top p).1 (putF "sign" (.int sg) [])))) = H4
      have h4 : H4 a = some (.ins C dx (flF sg (redV top p).1 (redV top p).2)) := by rw [← e4]; exact upd_same
      have k4 : ∀ b o, b ≠ a → H b = some o → H4 b = some o := fun b o hb e => by
        rw [← e4, upd_ne hb, upd_ne hb]
        exact s3 _ _ (by rw [upd_ne hb]; exact s2 _ _ (s1 _ _ e))
      refine ⟨a, C, dx, _, _, rfl, h4, T.own.cl, T.nT, fl_top _ _ _, ?_⟩
      walk_at "go"
      refine g_new (sz rfl) fun a5 H5 na5 s5 ha5 _ => ?_
      have fin : ∀ H6, Same H5 H6 → Q .non H6 := fun H6 s6 => q H6 (fun b o hb e => s6 _ _ (s5 _ _ (k4 b o hb e))) (s6 _ _ (s5 _ _ h4))
      rcases hy with ⟨hn, hr⟩ | ⟨m, hm, hf⟩
      · rw [hr]
        refine ⟨a5, _, rfl, .inr (SqT.of ha5), by rcases hn with rfl | rfl <;> rfl, rfl, ?_⟩
        walk_at "go"
        have e : (if true = true then !inV top [V.str "inf", V.str "nan"] else inV top [V.str "inf", V.str "nan"]) = false := by
          rcases hn with rfl | rfl <;> decide +kernel
        rw [e]
        walk_at "go"
        exact fin _ (Same.refl _)
      · rw [hm]
        refine ⟨a5, _, rfl, .inr (SqT.of ha5), rfl, rfl, ?_⟩
        walk_at "go"
        have e : (if true = true then !inV (.int m) [V.str "inf", V.str "nan"] else inV (.int m) [V.str "inf", V.str "nan"]) = true := rfl
        rw [e]
        walk_at "go"
        refine ⟨a, C, dx, _, _, rfl, s5 _ _ h4, T.own.cl, T.nT, fl_top _ _ _, ?_⟩
        walk_at "go"
        refine ⟨a, C, dx, _, _, rfl, s5 _ _ h4, T.own.cl, T.nP, fl_power _ _ _, ?_⟩
        walk_at "go"
        refine ⟨m, _, by rw [hm]; rfl, ?_⟩
        walk_at "go"
        rw [hf]
        walk_at "go"
        exact fin _ (Same.refl _)
end
end Up

set_option Elab.async false
set_option linter.all false
set_option maxRecDepth 100000
set_option maxHeartbeats 4000000
set_option exponentiation.threshold 200000
namespace Up
open PySem PySem.Spec PyProof.Rows L2
local macro_rules | `(tactic| walk_at "u") => `(tactic| first
  | with_reducible refine g_seq ?_
  | with_reducible refine g_asg ?_
  | with_reducible refine g_op ?_
  | ((with_reducible show tVar _ _ _ _); apply g_var; exact rfl)
  | with_reducible refine g_c ?_
  | with_reducible refine g_name ?_
  | with_reducible refine g_ifs ?_
  | with_reducible refine g_tt ?_
  | with_reducible refine g_tB ?_
  | with_reducible refine g_bl ?_
  | with_reducible refine g_ret ?_
  | with_reducible refine g_cb ?_
  | with_reducible refine g_cons ?_
  | with_reducible refine g_nil ?_
  | with_reducible refine g_call ?_
  | with_reducible refine g_and ?_
  | with_reducible refine g_or ?_
  | with_reducible refine g_not ?_
  | with_reducible refine g_andV ?_
  | with_reducible refine g_orV ?_
  | with_reducible refine g_notV ?_
  | with_reducible refine g_if ?_
  | with_reducible refine g_un ?_
  | with_reducible refine g_neg ?_
  | with_reducible refine g_addI ?_
  | with_reducible refine g_subI ?_
  | with_reducible refine g_subB ?_
  | with_reducible refine g_I0 ?_
  | with_reducible refine g_cmpI ?_
  | with_reducible refine g_eqI ?_
  | with_reducible refine g_neI ?_
  | with_reducible refine g_eqS ?_
  | with_reducible refine g_neS ?_
  | with_reducible refine g_eqB ?_
  | with_reducible refine g_neB ?_
  | with_reducible refine g_bits ?_
  | with_reducible refine g_bitsI ?_
  | with_reducible refine g_fld ?_
  | with_reducible refine g_tup ?_
  | with_reducible refine g_lst ?_
  | with_reducible refine g_gtup ?_
  | with_reducible refine g_make ?_
  | with_reducible refine g_lc ?_
  | with_reducible refine g_yesT ?_
  | with_reducible refine g_intI ?_
  | with_reducible refine g_intB ?_
  | with_reducible refine g_max2 ?_
  | with_reducible refine g_abs1 ?_
  | with_reducible refine g_for ?_
  | with_reducible refine g_iList ?_
  | with_reducible refine g_iTup ?_
  | with_reducible refine g_iRng1 ?_
  | with_reducible refine g_iEnum ?_
  | with_reducible refine g_slice ?_
  | with_reducible refine g_po0 ?_
  | with_reducible refine g_po1 ?_
  | with_reducible refine g_gsub ?_
  | with_reducible refine g_par ?_
  | with_reducible refine g_par2 ?_
  | with_reducible refine g_rfl ?_
  | with_reducible refine g_meth ?_
  | with_reducible refine g_gcons ?_
  | with_reducible refine g_gnil ?_
  | with_reducible refine g_gfld ?_
  | with_reducible refine g_sfld ?_
  | with_reducible refine g_drop ?_
  | with_reducible refine g_next ?_
  | with_reducible refine iteT ?_
  | with_reducible refine iteF ?_)
local macro_rules | `(tactic| walk_at "go") => `(tactic| (repeat walk_at "u"))

/-! ### parts of a float that was made -/
theorem red_nat {n : Nat} (h : n ≠ 0) (p : Int) : redV (.int n) p = (.int ((n / 2 ^ tz n : Nat) : Int), p + (tz n : Int)) := by
  have e : redV (.int n) p = (.int ((n : Int) / 2 ^ (lowB n).toNat), p + lowB n) := if_neg (by omega)
  rw [e, lowB_nat h]
  simp
theorem red_zero (p : Int) : redV (.int 0) p = (.int 0, 0) := rfl
theorem fits_of {n : Nat} {p : Int} (h1 : n ≤ 2 ^ 53) (h2 : -1074 ≤ p) (h3 : (bitsN n : Int) + p ≤ 1024) : ∃ m, (redV (.int n) p).1 = .int m ∧ fitsB m (redV (.int n) p).2 = true := by
  by_cases h0 : n = 0
  · subst h0
    exact ⟨0, rfl, by show fitsB 0 0 = true; decide⟩
  · rw [red_nat h0]
    refine ⟨_, rfl, ?_⟩
    obtain ⟨_, i2, i3, i4⟩ := land_pred n h0
    have hb := bits_shift h0
    have hle : n / 2 ^ tz n ≤ n := Nat.div_le_self _ _
    unfold fitsB
    rw [intBits_nat]
    have a1 : ((n / 2 ^ tz n : Nat) : Int) < 9007199254740992 := by
      have : n / 2 ^ tz n ≠ 2 ^ 53 := by intro z; rw [z] at i3; exact absurd i3 (by decide)
      omega
    have a2 : -1074 ≤ p + (tz n : Int) := by omega
    have a3 : ((bitsN (n / 2 ^ tz n) : Nat) : Int) + (p + (tz n : Int)) ≤ 1024 := by omega
    rw [decide_eq_true a1, decide_eq_true a2, decide_eq_true a3]
    rfl
theorem mk_flok {s : Int} {top : V} {p : Int} (h : MkOk s top p) : FlOk s (redV top p).1 (redV top p).2 := by
  obtain ⟨hs, h⟩ := h
  refine ⟨hs, ?_⟩
  rcases h with ⟨rfl, h1, rfl⟩ | ⟨rfl, rfl⟩ | ⟨n, rfl, m, hm, hf⟩
  · exact .inl ⟨rfl, h1, rfl⟩
  · exact .inr (.inl ⟨rfl, rfl⟩)
  · refine .inr (.inr ⟨m, hm, ?_⟩)
    by_cases h0 : n = 0
    · subst h0
      have e : m = 0 := by
        have : (V.int 0) = V.int m := hm
        injection this with z
        exact z.symm
      subst e
      show FinOk 0 0
      exact ⟨by decide, by decide, by decide, by decide, fun _ => rfl, fun z => absurd rfl z⟩
    · rw [red_nat h0] at hm hf ⊢
      obtain ⟨_, i2, i3, i4⟩ := land_pred n h0
      have e : ((n / 2 ^ tz n : Nat) : Int) = m := by injection hm
      have hne : m ≠ 0 := by
        intro z
        rw [z] at e
        have : n / 2 ^ tz n = 0 := by exact_mod_cast e
        rw [this] at i3
        exact absurd i3 (by decide)
      unfold fitsB at hf
      simp only [decide_eq_false hne, Bool.or_false, Bool.and_eq_true, decide_eq_true_eq] at hf
      exact ⟨e ▸ Int.natCast_nonneg _, hf.1, hf.2.1, hf.2.2, fun z => absurd z hne, fun _ => by rw [← e]; omega⟩
theorem mk_of_flok {s : Int} {n : Nat} {p : Int} (hs : s = 1 ∨ s = -1) (h1 : n ≤ 2 ^ 53) (h2 : -1074 ≤ p) (h3 : (bitsN n : Int) + p ≤ 1024) : MkOk s (.int n) p := ⟨hs, .inr (.inr ⟨n, rfl, fits_of h1 h2 h3⟩)⟩
/-! ### numbers as values -/
inductive Nm where
  | i (n : Int)
  | f (s : Int) (t : V) (p : Int)
def NumAt (C : Addr) (H : Hp) (v : V) : Nm → Prop
  | .i n => v = .int n
  | .f s t p => ∃ a, v = .ref a ∧ FlAt C H a s t p ∧ FlOk s t p
theorem NumAt.same {C : Addr} {H H' : Hp} {v : V} : ∀ {n : Nm}, NumAt C H v n → Same H H' → NumAt C H' v n
  | .i _, h, _ => h
  | .f _ _ _, ⟨a, e, h, k⟩, s => ⟨a, e, h.same s, k⟩
abbrev RetF (C : Addr) (H : Hp) (s : Int) (t : V) (p : Int) (Q : VK) : Prop := ∀ H' a, H a = none → Same H H' → FlAt C H' a s t p → Q (.ref a) H'
section
variable {P : Program} {w : World} {K : PySem.W.Frag} {mg : Str → Option Value} {base : Heap} {C : Addr}
/-- Float(s, top, p) -/
theorem mkF {H : Hp} {Q : VK} {E : XK} {s : Int} {top : V} {p : Int} (hk : MkOk s top p) (q : RetF C H s (redV top p).1 (redV top p).2 Q) :
    MakeR C (sp_Finit C) ([.int s, top, .int p] ++ []) H Q E := by
  intro x dx H' nx ndx ne s1 hx _
  exact ⟨x, dx, s, top, p, rfl, hx, hk, fun H2 k h2 => ⟨rfl, q H2 x nx (fun b o e => k b o (ne_of_none e nx) (s1 _ _ e)) ⟨dx, h2⟩⟩⟩
abbrev CnF (P : Program) (w : World) (K : PySem.W.Frag) (mg : Str → Option Value) (base : Heap) (C : Addr) : Prop := Cn P w K mg base CX0 2 "Float" C ["self", "sign", "top", "power"] [] (sp_Finit C)
/-! is_finite -/
abbrev s_Float_isfinite : Stmt := inClass (top 12) 4
theorem sc_Float_isfinite : FnScope ["self"] ["self"] (defScope s_Float_isfinite) := ⟨rfl, rfl, rfl, by decide +kernel, rfl, by decide +kernel, by decide +kernel⟩
def sp_isfinite (C : Addr) : Sp := fun vs H Q _ => ∃ a s t p, vs = [.ref a] ∧ FlAt C H a s t p ∧ FlOk s t p ∧ Q (.bl (isI t)) H
theorem FlOk.kn {s : Int} {t : V} {p : Int} {H : Hp} (h : FlOk s t p) : ∃ u, Kn K H t u ∧ isB t = false := by
  rcases h.2 with ⟨rfl, _⟩ | ⟨rfl, _⟩ | ⟨n, rfl, _⟩
  · exact ⟨_, kn_str, rfl⟩
  · exact ⟨_, kn_str, rfl⟩
  · exact ⟨_, kn_int, rfl⟩
theorem ok_isfinite {f : Addr} {fd : FuncData} (F : FunD K "is_finite" "Float.is_finite" (defArgs s_Float_isfinite) (defBody s_Float_isfinite) (defScope s_Float_isfinite) [] [] f fd) (B : Blt mg) (T : FlC K mg C) : FnOk P w K mg base CX0 1 f fd ["self"] (sp_isfinite C) := by
  refine F.ok sc_Float_isfinite (fun vs H Q E h => ?_) (fun cdv A outer s H vs Q E hr h => ?_)
  · obtain ⟨a, s, t, p, rfl, _⟩ := h; rfl
  · obtain ⟨a, sg, t, p, rfl, ⟨dx, ha⟩, ho, q⟩ := h
    refine ⟨_, PSs.nox (pss_one (ps_ret (pe_callB call_isi (by rfl) B.isinstance (by decide +kernel) (pa_cons (pe_fld (pv 0) rfl) (pa_cons (pe_tyInt B) pa_nil))))), ?_⟩
    walk_at "go"
    refine ⟨a, C, dx, _, _, rfl, ha, T.own.cl, T.nT, fl_top _ _ _, ?_⟩
    walk_at "go"
    obtain ⟨u, kn, hb⟩ := ho.kn (K := K) (H := H)
    refine g_isiInt kn ?_
    rw [hb, Bool.or_false]
    exact q
/-! ratio -/
abbrev s_Float_ratio : Stmt := inClass (top 12) 5
theorem sc_Float_ratio : FnScope ["self"] ["self"] (defScope s_Float_ratio) := ⟨rfl, rfl, rfl, by decide +kernel, rfl, by decide +kernel, by decide +kernel⟩
def ratN (s n p : Int) : Int := if p < 0 then s * n else s * (n * 2 ^ p.toNat)
def ratD (p : Int) : Int := if p < 0 then 2 ^ (0 - p).toNat else 1
def sp_ratio (C : Addr) : Sp := fun vs H Q _ => ∃ a s n p, vs = [.ref a] ∧ FlAt C H a s (.int n) p ∧ FlOk s (.int n) p ∧ RetT H [.int (ratN s n p), .int (ratD p)] Q
theorem fin_of {s n p : Int} (h : FlOk s (.int n) p) : FinOk n p := by
  rcases h.2 with ⟨z, _⟩ | ⟨z, _⟩ | ⟨m, e, h⟩
  · cases z
  · cases z
  · injection e with e; subst e; exact h
theorem FinOk.hi {n p : Int} (h : FinOk n p) : p ≤ 1024 := by
  obtain ⟨h1, _, _, h4, h5⟩ := h
  by_cases h0 : n = 0
  · rw [h5.1 h0]; decide
  · have := bits_pos (n := n.natAbs) (by omega)
    rw [intBits_neg] at h4
    omega
theorem sgn_mul {s x : Int} (hs : s = 1 ∨ s = -1) : IntMulOk s x := .of_left (by rcases hs with rfl | rfl <;> decide)
theorem shl_small {i j : Int} (h0 : 0 ≤ j) (h : j ≤ 100000) (hi : i.natAbs < 2 ^ 100000) : CShl i j := by
  refine ⟨h0, ?_⟩
  rw [intBits_neg]
  have := bits_le hi
  omega
theorem lt_pow_mono {n a b : Nat} (h : n < 2 ^ a) (hab : a ≤ b) : n < 2 ^ b := Nat.lt_of_lt_of_le h (Nat.pow_le_pow_right (by decide) hab)
theorem ok_ratio {f : Addr} {fd : FuncData} (F : FunD K "ratio" "Float.ratio" (defArgs s_Float_ratio) (defBody s_Float_ratio) (defScope s_Float_ratio) [] [] f fd) (B : Blt mg) (T : FlC K mg C) : FnOk P w K mg base CX0 1 f fd ["self"] (sp_ratio C) := by
  refine F.ok sc_Float_ratio (fun vs H Q E h => ?_) (fun cdv A outer s H vs Q E hr h => ?_)
  · obtain ⟨a, s, t, p, rfl, _⟩ := h; rfl
  · obtain ⟨a, sg, n, p, rfl, ⟨dx, ha⟩, ho, q⟩ := h
    have hf := fin_of ho
    have hhi := hf.hi
    obtain ⟨f1, f2, f3, f4, f5⟩ := hf
    unfold ratN ratD at q
    refine ⟨_, PSs.nox (pss_cons (ps_if (pt_cmpR op_oLt (pe_fld (pv 0) rfl) pe_int (nomark _)) (pss_one (ps_ret (pe_tupN (pa_cons (pe_op op_oMul (pe_fld (pv 0) rfl) (pe_fld (pv 0) rfl)) (pa_cons (pe_op op_oShl pe_int (pe_op op_oSub pe_int (pe_fld (pv 0) rfl))) pa_nil))))) pss_nil)
  (pss_one (ps_ret (pe_tupN (pa_cons (pe_op op_oMul (pe_fld (pv 0) rfl) (pe_op op_oShl (pe_fld (pv 0) rfl) (pe_fld (pv 0) rfl))) (pa_cons pe_int pa_nil)))))), ?_⟩
    walk_at "go"
    refine ⟨a, C, dx, _, _, rfl, ha, T.own.cl, T.nP, fl_power _ _ _, ?_⟩
    walk_at "go"
    refine g_ite (fun hp => ?_) fun hp => ?_
    · walk_at "go"
      refine ⟨a, C, dx, _, _, rfl, ha, T.own.cl, T.nS, fl_sign _ _ _, ?_⟩
      walk_at "go"
      refine ⟨a, C, dx, _, _, rfl, ha, T.own.cl, T.nT, fl_top _ _ _, ?_⟩
      refine g_mulI (sgn_mul ho.1) ?_
      walk_at "go"
      refine ⟨a, C, dx, _, _, rfl, ha, T.own.cl, T.nP, fl_power _ _ _, ?_⟩
      walk_at "go"
      refine g_II (shl_small (by omega) (by omega) (lt_pow_mono (a := 1) (by decide) (by decide))) ?_
      walk_at "go"
      refine g_new (sz rfl) fun b H2 nb s2 hb _ => ?_
      rw [if_pos hp, if_pos hp] at q
      rw [Int.one_mul] at hb
      exact q _ _ nb s2 hb
    · walk_at "go"
      refine ⟨a, C, dx, _, _, rfl, ha, T.own.cl, T.nS, fl_sign _ _ _, ?_⟩
      walk_at "go"
      refine ⟨a, C, dx, _, _, rfl, ha, T.own.cl, T.nT, fl_top _ _ _, ?_⟩
      walk_at "go"
      refine ⟨a, C, dx, _, _, rfl, ha, T.own.cl, T.nP, fl_power _ _ _, ?_⟩
      walk_at "go"
      refine g_II (shl_small (by omega) (by omega) (lt_pow_mono (a := 53) (by omega) (by decide))) ?_
      refine g_mulI (sgn_mul ho.1) ?_
      walk_at "go"
      refine g_new (sz rfl) fun b H2 nb s2 hb _ => ?_
      rw [if_neg hp, if_neg hp] at q
      exact q _ _ nb s2 hb
/-! infinity -/
abbrev s_infinity : Stmt := top 18
theorem sc_infinity : FnScope ["sign"] ["sign"] (defScope s_infinity) := ⟨rfl, rfl, rfl, by decide +kernel, rfl, by decide +kernel, by decide +kernel⟩
def sp_infinity (C : Addr) : Sp := fun vs H Q _ => ∃ s, vs = [.int s] ∧ (s = 1 ∨ s = -1) ∧ RetF C H s (.str "inf") 0 Q
theorem mk_inf {s : Int} (hs : s = 1 ∨ s = -1) : MkOk s (.str "inf") 0 := ⟨hs, .inr (.inl ⟨rfl, rfl⟩)⟩
theorem ok_infinity {f : Addr} {fd : FuncData} (F : FunD K "infinity" "infinity" (defArgs s_infinity) (defBody s_infinity) (defScope s_infinity) [] [] f fd) (c_Float : CnF P w K mg base C) : FnOk P w K mg base CX0 4 f fd ["sign"] (sp_infinity C) := by
  refine F.ok sc_infinity (fun vs H Q E h => ?_) (fun cdv A outer s H vs Q E hr h => ?_)
  · obtain ⟨a, rfl, _⟩ := h; rfl
  · obtain ⟨sg, rfl, hs, q⟩ := h
    refine ⟨_, PSs.nox (pss_one (ps_ret (pe_cn c_Float (hr.mono (by decide)) pass0 (pa_cons (pv 0) (pa_cons pe_str (pa_cons pe_int pa_nil)))))), ?_⟩
    walk_at "go"
    exact mkF (mk_inf hs) q
/-! nearest -/
abbrev s_nearest : Stmt := top 19
theorem sc_nearest : FnScope ["sign", "top", "bottom", "power", "whole", "rest"] ["sign", "top", "bottom"] (defScope s_nearest) := ⟨rfl, rfl, rfl, by decide +kernel, rfl, by decide +kernel, by decide +kernel⟩
/-- what is handed to Float -/
def nearV (t b : Nat) : V × Int := if t = 0 then (.int 0, 0) else if (bitsN (nrW t b) : Int) + nrP2 t b > 1024 then (.str "inf", 0) else (.int (nrW t b : Int), nrP2 t b)
theorem near_mk {s : Int} {t b : Nat} (hs : s = 1 ∨ s = -1) (hb : 0 < b) : MkOk s (nearV t b).1 (nearV t b).2 := by
  unfold nearV
  by_cases h0 : t = 0
  · rw [if_pos h0]
    exact mk_of_flok (n := 0) hs (by decide) (by decide) (by decide)
  · rw [if_neg h0]
    by_cases h1 : (bitsN (nrW t b) : Int) + nrP2 t b > 1024
    · rw [if_pos h1]
      exact mk_inf hs
    · rw [if_neg h1]
      exact mk_of_flok hs (nrW_le hb) (nrP2_lo t b) (by omega)
def sp_nearest (C : Addr) : Sp := fun vs H Q _ => ∃ (s : Int) (t b : Nat), vs = [.int s, .int t, .int b] ∧ (s = 1 ∨ s = -1) ∧ 0 < b ∧ bitsN t ≤ 6000 ∧ bitsN b ≤ 6000 ∧ RetF C H s (redV (nearV t b).1 (nearV t b).2).1 (redV (nearV t b).1 (nearV t b).2).2 Q
theorem fdiv_nat (a b : Nat) : (a : Int).fdiv (b : Int) = ((a / b : Nat) : Int) := by
  rw [Int.fdiv_eq_ediv_of_nonneg _ (by omega)]; rfl
theorem log2_lt {b k : Nat} (h : b < 2 ^ k) (hk : 0 < k) : b.log2 < k := by
  by_cases h0 : b = 0
  · subst h0; simpa using hk
  · exact (Nat.log2_lt h0).mpr h
theorem land_one (n : Nat) : Builtin.bitAnd (n : Int) 1 = ((n % 2 : Nat) : Int) := by
  rw [PyProof.Rows.bitAnd_pp (by omega) (by decide)]
  show ((n &&& 1 : Nat) : Int) = _
  rw [Nat.and_one_is_mod]
theorem ok_nearest {f : Addr} {fd : FuncData} (F : FunD K "nearest" "nearest" (defArgs s_nearest) (defBody s_nearest) (defScope s_nearest) [] [] f fd) (B : Blt mg) (i_ROOM : ∃ t, mg "ROOM" = some (.int 9007199254740992 t)) (i_LOWEST : ∃ t, mg "LOWEST" = some (.int (-1074) t)) (i_TOO_GREAT : ∃ t, mg "TOO_GREAT" = some (.int 1024 t))
    (c_Float : CnF P w K mg base C) (c_infinity : Fn P w K mg base CX0 4 "infinity" ["sign"] [] (sp_infinity C)) : FnOk P w K mg base CX0 5 f fd ["sign", "top", "bottom"] (sp_nearest C) := by
  refine F.ok sc_nearest (fun vs H Q E h => ?_) (fun cdv A outer s H vs Q E hr h => ?_)
  · obtain ⟨_, _, _, rfl, _⟩ := h; rfl
  · obtain ⟨sg, t, b, rfl, hs, hb, ht, hbb, q⟩ := h
    have mk := near_mk (t := t) (b := b) hs hb
    refine ⟨_, PSs.nox (pss_cons (ps_if (pt_cmpR (op_oEq hr.units) (pv 1) pe_int (nomark _)) (pss_one (ps_ret (pe_cn c_Float (hr.mono (by decide)) pass0 (pa_cons (pv 0) (pa_cons pe_int (pa_cons pe_int pa_nil)))))) pss_nil)
  (pss_cons (ps_set (i := 3) sc_nearest.nd rfl (Or.inl rfl) (pe_callB (call_max2 rfl) (by rfl) B.max (by decide +kernel) (pa_cons (pe_op op_oSub (pe_op op_oSub (pe_bits (pv 1)) (pe_bits (pv 2))) pe_int) (pa_cons (pe_gint i_LOWEST) pa_nil))))
  (C8.pss_cut (ps_if (pt_cmpR op_oLt (pv 3) pe_int (nomark _)) (pss_one (ps_set (i := 1) sc_nearest.nd rfl (Or.inl rfl) (pe_op op_oShl (pv 1) (pe_op op_oSub pe_int (pv 3))))) (pss_one (ps_set (i := 2) sc_nearest.nd rfl (Or.inl rfl) (pe_op op_oShl (pv 2) (pv 3)))))
  (C8.pss_cut (ps_if (pt_cmpR op_oGe (pe_op op_oDiv (pv 1) (pv 2)) (pe_gint i_ROOM) (nomark _)) (pss_cons (ps_set (i := 2) sc_nearest.nd rfl (Or.inl rfl) (pe_op op_oShl (pv 2) pe_int))
  (pss_one (ps_set (i := 3) sc_nearest.nd rfl (Or.inl rfl) (pe_op op_oAdd (pv 3) pe_int)))) pss_nil)
  (pss_cons (ps_asg (pe_callB call_divmodK (by rfl) B.divmod (by decide +kernel) (pa_cons (pv 1) (pa_cons (pv 2) pa_nil))) (pg_tup rfl (pgs_cons (pg_name (i := 4) sc_nearest.nd rfl (Or.inl rfl)) (pgs_cons (pg_name (i := 5) sc_nearest.nd rfl (Or.inl rfl)) pgs_nil))))
  (C8.pss_cut (ps_if (PW.pt (pw_or (pt_cmpR op_oGt (pe_op op_oMul pe_int (pv 5)) (pv 2) (nomark _)) (pw_or1 (PW.pt (pw_and (pt_cmpR (op_oEq hr.units) (pe_op op_oMul pe_int (pv 5)) (pv 2) (nomark _)) (pw_and1 (pt_cmpR (op_oEq hr.units) (pe_op op_oAnd (pv 4) pe_int) pe_int (nomark _)))))))) (pss_one (ps_set (i := 4) sc_nearest.nd rfl (Or.inl rfl) (pe_op op_oAdd (pv 4) pe_int))) pss_nil)
  (pss_cons (ps_if (pt_cmpR op_oGt (pe_op op_oAdd (pe_bits (pv 4)) (pv 3)) (pe_gint i_TOO_GREAT) (nomark _)) (pss_one (ps_ret (pe_fn c_infinity (hr.mono (by decide)) pass0 (pa_cons (pv 0) pa_nil)))) pss_nil)
  (pss_one (ps_ret (pe_cn c_Float (hr.mono (by decide)) pass0 (pa_cons (pv 0) (pa_cons (pv 4) (pa_cons (pv 3) pa_nil))))))))))))), ?_⟩
    walk_at "go"
    refine g_ite (fun h0 => ?_) fun h0 => ?_
    · walk_at "go"
      have h0 : t = 0 := by omega
      have e : nearV t b = (.int 0, 0) := if_pos h0
      rw [e] at q mk
      exact mkF mk q
    · have h0 : t ≠ 0 := by omega
      walk_at "go"
      rw [intBits_nat, intBits_nat]
      have eP : (if (-1074 : Int) > ((bitsN t : Nat) : Int) - ((bitsN b : Nat) : Int) - 53 then (-1074 : Int) else ((bitsN t : Nat) : Int) - ((bitsN b : Nat) : Int) - 53) = nrP t b := rfl
      rw [eP]
      have p1 := nrP_lo t b
      have p2 := nrP_hi (t := t) (b := b)
      walk_at "go"
      refine g_cut (fun σ' H2 => σ' = [some (.int sg), some (.int (nrT t (nrP t b) : Nat)), some (.int (nrB b (nrP t b) : Nat)), some (.int (nrP t b)), none, none] ∧ H = H2) ?_ ?_
      · walk_at "go"
        refine g_ite (fun hp => ?_) fun hp => ?_
        · walk_at "go"
          refine g_II (shl_small (by omega) (by omega) (lt_pow_mono (bits_lt t) (by omega))) ?_
          walk_at "go"
          refine ⟨?_, rfl⟩
          unfold nrT nrB
          rw [if_pos hp, if_pos hp]
          simp [L2.start]
        · walk_at "go"
          refine g_II (shl_small (by omega) (by omega) (lt_pow_mono (bits_lt b) (by omega))) ?_
          walk_at "go"
          refine ⟨?_, rfl⟩
          unfold nrT nrB
          rw [if_neg hp, if_neg hp]
          simp [L2.start]
      · rintro σ' _ ⟨rfl, rfl⟩
        have hB := nrB_pos hb (nrP t b)
        have hB2 := nrB2_pos (t := t) hb
        have hbit := nrB2_bits (m := 6000) ht hbb hb
        have hbit1 : nrB b (nrP t b) < 2 ^ 6001 := by
          unfold nrB2 at hbit
          split at hbit <;> omega
        walk_at "go"
        refine g_cut (fun σ' H2 => σ' = [some (.int sg), some (.int (nrT t (nrP t b) : Nat)), some (.int (nrB2 t b : Nat)), some (.int (nrP2 t b)), none, none] ∧ H = H2) ?_ ?_
        · walk_at "go"
          refine g_divI (by omega) (by rw [Int.natAbs_natCast]; exact Nat.lt_trans (log2_lt hbit1 (by decide)) (by decide)) ?_
          rw [fdiv_nat]
          walk_at "go"
          refine g_ite (fun hg => ?_) fun hg => ?_
          · have hg' : nrBig t b = true := decide_eq_true (Int.ofNat_le.mp (show ((9007199254740992 : Nat) : Int) ≤ _ from hg))
            walk_at "go"
            refine g_II (shl_small (by decide) (by decide) (lt_pow_mono hbit1 (by decide))) ?_
            walk_at "go"
            refine ⟨?_, rfl⟩
            unfold nrB2 nrP2
            rw [if_pos hg', if_pos hg']
            simp
          · have hg' : ¬ nrBig t b = true := fun z => hg (Int.ofNat_le.mpr (of_decide_eq_true z))
            walk_at "go"
            refine ⟨?_, rfl⟩
            unfold nrB2 nrP2
            rw [if_neg hg', if_neg hg']
        · rintro σ' _ ⟨rfl, rfl⟩
          walk_at "go"
          refine ⟨_, _, rfl, ⟨by omega, by rw [Int.natAbs_natCast]; exact Nat.lt_trans (log2_lt hbit (by decide)) (by decide)⟩, fun a H2 na s2 ha _ => ?_⟩
          walk_at "go"
          refine ⟨a, _, rfl, SqT.of ha, rfl, ?_⟩
          walk_at "go"
          have eQ : ((nrT t (nrP t b) : Nat) : Int) / ((nrB2 t b : Nat) : Int) = ((nrQ t b : Nat) : Int) := rfl
          have eR : ((nrT t (nrP t b) : Nat) : Int) % ((nrB2 t b : Nat) : Int) = ((nrR t b : Nat) : Int) := rfl
          rw [eQ, eR]
          refine g_cut (fun σ' H3 => σ' = [some (.int sg), some (.int (nrT t (nrP t b) : Nat)), some (.int (nrB2 t b : Nat)), some (.int (nrP2 t b)), some (.int (nrW t b : Nat)), some (.int (nrR t b : Nat))] ∧ H2 = H3) ?_ ?_
          · have up : ∀ (c : Bool), nrUp t b = c → nrW t b = if c then nrQ t b + 1 else nrQ t b := fun c h => by unfold nrW; rw [h]
            walk_at "go"
            refine g_mulI (.of_left (by decide)) ?_
            walk_at "go"
            refine g_ite (fun h1 => ?_) fun h1 => ?_
            · walk_at "go"
              refine ⟨?_, rfl⟩
              rw [up true (by unfold nrUp; rw [decide_eq_true (show nrB2 t b < 2 * nrR t b by omega)]; rfl)]
              simp
            · walk_at "go"
              refine g_mulI (.of_left (by decide)) ?_
              walk_at "go"
              refine g_ite (fun h2 => ?_) fun h2 => ?_
              · walk_at "go"
                rw [land_one]
                refine g_ite (fun h3 => ?_) fun h3 => ?_
                · walk_at "go"
                  refine ⟨?_, rfl⟩
                  rw [up true (by unfold nrUp; rw [decide_eq_true (show 2 * nrR t b = nrB2 t b by omega), decide_eq_true (show nrQ t b % 2 = 1 by omega), Bool.and_self, Bool.or_true])]
                  simp
                · walk_at "go"
                  refine ⟨?_, rfl⟩
                  rw [up false (by unfold nrUp; rw [decide_eq_false (show ¬ nrB2 t b < 2 * nrR t b by omega), decide_eq_false (show ¬ nrQ t b % 2 = 1 by omega), Bool.and_false, Bool.or_false])]
                  simp
              · walk_at "go"
                refine ⟨?_, rfl⟩
                rw [up false (by unfold nrUp; rw [decide_eq_false (show ¬ nrB2 t b < 2 * nrR t b by omega), decide_eq_false (show ¬ 2 * nrR t b = nrB2 t b by omega), Bool.false_and, Bool.or_false])]
                simp
          · rintro σ' _ ⟨rfl, rfl⟩
            have q2 : RetF C H2 sg (redV (nearV t b).1 (nearV t b).2).1 (redV (nearV t b).1 (nearV t b).2).2 Q := fun H' x nx sx hx => q H' x (s2.free nx) (s2.trans sx) hx
            walk_at "go"
            rw [intBits_nat]
            refine g_ite (fun h1 => ?_) fun h1 => ?_
            · walk_at "go"
              have e : nearV t b = (.str "inf", 0) := by unfold nearV; rw [if_neg h0, if_pos h1]
              rw [e] at q2
              exact ⟨sg, rfl, hs, q2⟩
            · walk_at "go"
              have e : nearV t b = (.int (nrW t b : Int), nrP2 t b) := by unfold nearV; rw [if_neg h0, if_neg h1]
              rw [e] at q2 mk
              exact mkF mk q2
end
end Up

set_option Elab.async false
set_option linter.all false
set_option maxRecDepth 100000
set_option maxHeartbeats 4000000
set_option exponentiation.threshold 200000
namespace Up
open PySem PySem.Spec PyProof.Rows L2
local macro_rules | `(tactic| walk_at "u") => `(tactic| first
  | with_reducible refine g_seq ?_
  | with_reducible refine g_asg ?_
  | with_reducible refine g_op ?_
  | ((with_reducible show tVar _ _ _ _); apply g_var; exact rfl)
  | with_reducible refine g_c ?_
  | with_reducible refine g_name ?_
  | with_reducible refine g_ifs ?_
  | with_reducible refine g_tt ?_
  | with_reducible refine g_tB ?_
  | with_reducible refine g_bl ?_
  | with_reducible refine g_ret ?_
  | with_reducible refine g_cb ?_
  | with_reducible refine g_cons ?_
  | with_reducible refine g_nil ?_
  | with_reducible refine g_call ?_
  | with_reducible refine g_and ?_
  | with_reducible refine g_or ?_
  | with_reducible refine g_not ?_
  | with_reducible refine g_andV ?_
  | with_reducible refine g_orV ?_
  | with_reducible refine g_notV ?_
  | with_reducible refine g_if ?_
  | with_reducible refine g_un ?_
  | with_reducible refine g_neg ?_
  | with_reducible refine g_addI ?_
  | with_reducible refine g_subI ?_
  | with_reducible refine g_subB ?_
  | with_reducible refine g_I0 ?_
  | with_reducible refine g_cmpI ?_
  | with_reducible refine g_eqI ?_
  | with_reducible refine g_neI ?_
  | with_reducible refine g_eqS ?_
  | with_reducible refine g_neS ?_
  | with_reducible refine g_eqB ?_
  | with_reducible refine g_neB ?_
  | with_reducible refine g_bits ?_
  | with_reducible refine g_bitsI ?_
  | with_reducible refine g_fld ?_
  | with_reducible refine g_tup ?_
  | with_reducible refine g_lst ?_
  | with_reducible refine g_gtup ?_
  | with_reducible refine g_make ?_
  | with_reducible refine g_lc ?_
  | with_reducible refine g_yesT ?_
  | with_reducible refine g_intI ?_
  | with_reducible refine g_intB ?_
  | with_reducible refine g_max2 ?_
  | with_reducible refine g_abs1 ?_
  | with_reducible refine g_for ?_
  | with_reducible refine g_iList ?_
  | with_reducible refine g_iTup ?_
  | with_reducible refine g_iRng1 ?_
  | with_reducible refine g_iEnum ?_
  | with_reducible refine g_slice ?_
  | with_reducible refine g_po0 ?_
  | with_reducible refine g_po1 ?_
  | with_reducible refine g_gsub ?_
  | with_reducible refine g_par ?_
  | with_reducible refine g_par2 ?_
  | with_reducible refine g_rfl ?_
  | with_reducible refine g_meth ?_
  | with_reducible refine g_gcons ?_
  | with_reducible refine g_gnil ?_
  | with_reducible refine g_gfld ?_
  | with_reducible refine g_sfld ?_
  | with_reducible refine g_drop ?_
  | with_reducible refine g_next ?_
  | with_reducible refine iteT ?_
  | with_reducible refine iteF ?_)
local macro_rules | `(tactic| walk_at "go") => `(tactic| (repeat walk_at "u"))

section
variable {P : Program} {w : World} {K : PySem.W.Frag} {mg : Str → Option Value} {base : Heap} {C : Addr}
/-! ### kinds, Float asked too -/
structure KnF (K : PySem.W.Frag) (C : Addr) (H : Hp) (x : V) (t : Value) (b : Bool) : Prop where
  kn : Kn K H x t
  fl : PySem.W.kitOne K t (.ref C) = some b
theorem KnF.same {H H' : Hp} {x : V} {t : Value} {b : Bool} (h : KnF K C H x t b) (s : Same H H') : KnF K C H' x t b := ⟨h.kn.same s, h.fl⟩
theorem g_isiF {H : Hp} {Q : VK} {x : V} {t : Value} {b : Bool} (h : KnF K C H x t b) (q : Q (.bl b) H) : rIsi K [x, .ref C] H Q := g_isi h.kn.ty (.own _) h.fl q
theorem kf_int (T : FlC K mg C) {H : Hp} {i : Int} : KnF K C H (.int i) (.type "int") false := ⟨kn_int, T.fi⟩
theorem kf_bl (T : FlC K mg C) {H : Hp} {i : Bool} : KnF K C H (.bl i) (.type "bool") false := ⟨kn_bl, T.fb⟩
theorem kf_str (T : FlC K mg C) {H : Hp} {i : Str} : KnF K C H (.str i) (.type "str") false := ⟨kn_str, T.fs⟩
theorem kf_non (T : FlC K mg C) {H : Hp} : KnF K C H .non (.type "NoneType") false := ⟨kn_non, T.fn⟩
theorem kf_fl (T : FlC K mg C) {H : Hp} {a : Addr} {s : Int} {t : V} {p : Int} (h : FlAt C H a s t p) : KnF K C H (.ref a) (.ref C) true := by
  obtain ⟨dx, h⟩ := h
  exact ⟨kn_ins T.own h, T.yes⟩
def isF : Nm → Bool
  | .i _ => false
  | .f _ _ _ => true
theorem NumAt.kf (T : FlC K mg C) {H : Hp} {v : V} : ∀ {n : Nm}, NumAt C H v n → ∃ t, KnF K C H v t (isF n) ∧ isI v = !isF n ∧ isB v = false
  | .i n, h => by
    have h : v = .int n := h
    subst h
    exact ⟨_, kf_int T, rfl, rfl⟩
  | .f s t p, ⟨a, e, h, _⟩ => by
    subst e
    exact ⟨_, kf_fl T h, rfl, rfl⟩
/-! to_float -/
abbrev s_tofloat : Stmt := top 21
theorem sc_tofloat : FnScope ["number"] ["number"] (defScope s_tofloat) := ⟨rfl, rfl, rfl, by decide +kernel, rfl, by decide +kernel, by decide +kernel⟩
def bigOk (k : Int) : Prop := k.natAbs < 2 ^ 5000
/-- the float of an int: sign, top, power -/
def tfS (k : Int) : Int := if k < 0 then -1 else 1
def tfR (k : Int) : V × Int := redV (nearV k.natAbs 1).1 (nearV k.natAbs 1).2
def sp_tofloat (C : Addr) : Sp := fun vs H Q _ => ∃ v n, vs = [v] ∧ NumAt C H v n ∧ match n with
  | .f _ _ _ => Q v H
  | .i k => bigOk k ∧ RetF C H (tfS k) (tfR k).1 (tfR k).2 Q
theorem ok_tofloat {f : Addr} {fd : FuncData} (F : FunD K "to_float" "to_float" (defArgs s_tofloat) (defBody s_tofloat) (defScope s_tofloat) [] [] f fd) (B : Blt mg) (T : FlC K mg C) (c_nearest : Fn P w K mg base CX0 5 "nearest" ["sign", "top", "bottom"] [] (sp_nearest C)) (c_signof : Fn P w K mg base CX0 1 "sign_of" ["is_negative"] [] sp_signof) :
    FnOk P w K mg base CX0 6 f fd ["number"] (sp_tofloat C) := by
  have g_Float : mg "Float" = some (.ref C) := T.mg
  refine F.ok sc_tofloat (fun vs H Q E h => ?_) (fun cdv A outer s H vs Q E hr h => ?_)
  · obtain ⟨x, n, rfl, _⟩ := h; rfl
  · obtain ⟨x, n, rfl, hn, q⟩ := h
    refine ⟨_, PSs.nox (pss_cons (ps_if (pt_val (pe_callB call_isi (by rfl) B.isinstance (by decide +kernel) (pa_cons (pv 0) (pa_cons (pe_gref g_Float) pa_nil)))) (pss_one (ps_ret (pv 0))) pss_nil)
  (pss_one (ps_ret (pe_fn c_nearest (hr.mono (by decide)) pass0 (pa_cons (pe_fn c_signof (hr.mono (by decide)) pass0 (pa_cons (pe_cmpR op_oLt (pv 0) pe_int (nomark _)) pa_nil)) (pa_cons (pe_callB call_abs (by rfl) B.abs (by decide +kernel) (pa_cons (pv 0) pa_nil)) (pa_cons pe_int pa_nil))))))), ?_⟩
    obtain ⟨t, hk, _, _⟩ := hn.kf T
    walk_at "go"
    refine g_isiF hk ?_
    walk_at "go"
    cases n with
    | f sg tp p =>
      refine iteT ?_
      walk_at "go"
      exact q
    | i k =>
      have hn : x = .int k := hn
      subst hn
      obtain ⟨hb, q⟩ := q
      refine iteF ?_
      walk_at "go"
      refine ⟨_, rfl, ?_⟩
      walk_at "go"
      have e1 : sgnB (decide (k < 0)) = tfS k := by unfold sgnB tfS; by_cases h : k < 0 <;> simp [h]
      have e2 : (if k < 0 then -k else k) = (k.natAbs : Int) := by split <;> omega
      rw [e1, e2]
      refine ⟨tfS k, k.natAbs, 1, rfl, by unfold tfS; split <;> simp, by decide, Nat.le_trans (bits_le hb) (by decide), by decide, q⟩
theorem mul_small {i j : Int} (hi : i.natAbs < 2 ^ 100000) (hj : j.natAbs < 2 ^ 100000) : IntMulOk i j := (mulx_ok hi hj (by decide)).ok
theorem natAbs_mul_lt {x y : Int} {a b : Nat} (hx : x.natAbs < 2 ^ a) (hy : y.natAbs < 2 ^ b) : (x * y).natAbs < 2 ^ (a + b) := by
  rw [Int.natAbs_mul, Nat.pow_add]
  exact Nat.mul_lt_mul'' hx hy
theorem sgn_abs {s : Int} (hs : s = 1 ∨ s = -1) (x : Int) : (s * x).natAbs = x.natAbs := by
  rw [Int.natAbs_mul]; rcases hs with rfl | rfl <;> simp
theorem tf_mk (k : Int) : MkOk (tfS k) (nearV k.natAbs 1).1 (nearV k.natAbs 1).2 := near_mk (by unfold tfS; split <;> simp) (by decide)
/-- a float made again of its own parts -/
theorem mk_again {s : Int} {t : V} {p : Int} (h : FlOk s t p) : MkOk s t p := by
  obtain ⟨hs, h⟩ := h
  rcases h with ⟨rfl, h1, rfl⟩ | ⟨rfl, rfl⟩ | ⟨n, rfl, f1, f2, f3, f4, f5⟩
  · exact ⟨hs, .inl ⟨rfl, h1, rfl⟩⟩
  · exact ⟨hs, .inr (.inl ⟨rfl, rfl⟩)⟩
  · obtain ⟨k, rfl⟩ := Int.eq_ofNat_of_zero_le f1
    rw [intBits_nat] at f4
    exact mk_of_flok hs (by omega) f3 f4
theorem small64 {k : Int} (h1 : -(2 ^ 65) ≤ k) (h2 : k ≤ 2 ^ 65) : k.natAbs < 2 ^ 1000 := lt_pow_mono (a := 66) (by omega) (by decide)
theorem big64 {k : Int} (h1 : -(2 ^ 65) ≤ k) (h2 : k ≤ 2 ^ 65) : bigOk k := lt_pow_mono (a := 66) (by omega) (by decide)
end
end Up

set_option Elab.async false
set_option linter.all false
set_option maxRecDepth 100000
set_option maxHeartbeats 4000000
set_option exponentiation.threshold 200000
namespace Up
open PySem PySem.Spec PyProof.Rows L2
local macro_rules | `(tactic| walk_at "u") => `(tactic| first
  | with_reducible refine g_seq ?_
  | with_reducible refine g_asg ?_
  | with_reducible refine g_op ?_
  | ((with_reducible show tVar _ _ _ _); apply g_var; exact rfl)
  | with_reducible refine g_c ?_
  | with_reducible refine g_name ?_
  | with_reducible refine g_ifs ?_
  | with_reducible refine g_tt ?_
  | with_reducible refine g_tB ?_
  | with_reducible refine g_bl ?_
  | with_reducible refine g_ret ?_
  | with_reducible refine g_cb ?_
  | with_reducible refine g_cons ?_
  | with_reducible refine g_nil ?_
  | with_reducible refine g_call ?_
  | with_reducible refine g_and ?_
  | with_reducible refine g_or ?_
  | with_reducible refine g_not ?_
  | with_reducible refine g_andV ?_
  | with_reducible refine g_orV ?_
  | with_reducible refine g_notV ?_
  | with_reducible refine g_if ?_
  | with_reducible refine g_un ?_
  | with_reducible refine g_neg ?_
  | with_reducible refine g_addI ?_
  | with_reducible refine g_subI ?_
  | with_reducible refine g_subB ?_
  | with_reducible refine g_I0 ?_
  | with_reducible refine g_cmpI ?_
  | with_reducible refine g_eqI ?_
  | with_reducible refine g_neI ?_
  | with_reducible refine g_eqS ?_
  | with_reducible refine g_neS ?_
  | with_reducible refine g_eqB ?_
  | with_reducible refine g_neB ?_
  | with_reducible refine g_bits ?_
  | with_reducible refine g_bitsI ?_
  | with_reducible refine g_fld ?_
  | with_reducible refine g_tup ?_
  | with_reducible refine g_lst ?_
  | with_reducible refine g_gtup ?_
  | with_reducible refine g_make ?_
  | with_reducible refine g_lc ?_
  | with_reducible refine g_yesT ?_
  | with_reducible refine g_intI ?_
  | with_reducible refine g_intB ?_
  | with_reducible refine g_max2 ?_
  | with_reducible refine g_abs1 ?_
  | with_reducible refine g_for ?_
  | with_reducible refine g_iList ?_
  | with_reducible refine g_iTup ?_
  | with_reducible refine g_iRng1 ?_
  | with_reducible refine g_iEnum ?_
  | with_reducible refine g_slice ?_
  | with_reducible refine g_po0 ?_
  | with_reducible refine g_po1 ?_
  | with_reducible refine g_gsub ?_
  | with_reducible refine g_par ?_
  | with_reducible refine g_par2 ?_
  | with_reducible refine g_rfl ?_
  | with_reducible refine g_meth ?_
  | with_reducible refine g_gcons ?_
  | with_reducible refine g_gnil ?_
  | with_reducible refine g_gfld ?_
  | with_reducible refine g_sfld ?_
  | with_reducible refine g_drop ?_
  | with_reducible refine g_next ?_
  | with_reducible refine iteT ?_
  | with_reducible refine iteF ?_)
local macro_rules | `(tactic| walk_at "go") => `(tactic| (repeat walk_at "u"))

/-! ### floats by their parts -/
structure FL where
  s : Int
  t : V
  p : Int
def FL.ok (x : FL) : Prop := FlOk x.s x.t x.p
def FA (C : Addr) (H : Hp) (v : V) (x : FL) : Prop := ∃ a, v = .ref a ∧ FlAt C H a x.s x.t x.p
theorem FA.same {C : Addr} {H H' : Hp} {v : V} {x : FL} (h : FA C H v x) (e : Same H H') : FA C H' v x := by
  obtain ⟨a, rfl, h⟩ := h
  exact ⟨a, rfl, h.same e⟩
def RetN (C : Addr) (H : Hp) (x : FL) (Q : VK) : Prop := ∀ H' v, Same H H' → FA C H' v x → Q v H'
theorem RetN.later {C : Addr} {H H1 : Hp} {x : FL} {Q : VK} (q : RetN C H x Q) (s : Same H H1) : RetN C H1 x Q := fun H' v s' h => q H' v (s.trans s') h
theorem RetN.to {C : Addr} {H : Hp} {x : FL} {Q : VK} (q : RetN C H x Q) : RetF C H x.s x.t x.p Q := fun H' a _ s h => q H' _ s ⟨a, rfl, h⟩
def mkL (s : Int) (v : V × Int) : FL := ⟨s, (redV v.1 v.2).1, (redV v.1 v.2).2⟩
def nanL : FL := ⟨1, .str "nan", 0⟩
def infL (s : Int) : FL := ⟨s, .str "inf", 0⟩
def zeroL (s : Int) : FL := ⟨s, .int 0, 0⟩
def nearL (s : Int) (t b : Nat) : FL := mkL s (nearV t b)
theorem near_zero (s : Int) (b : Nat) : nearL s 0 b = zeroL s := rfl
theorem mkL_ok {s : Int} {v : V × Int} (h : MkOk s v.1 v.2) : (mkL s v).ok := mk_flok h
theorem near_ok {s : Int} {t b : Nat} (hs : s = 1 ∨ s = -1) (hb : 0 < b) : (nearL s t b).ok := mkL_ok (near_mk hs hb)
theorem nan_ok : nanL.ok := ⟨.inl rfl, .inl ⟨rfl, rfl, rfl⟩⟩
theorem inf_ok {s : Int} (hs : s = 1 ∨ s = -1) : (infL s).ok := ⟨hs, .inr (.inl ⟨rfl, rfl⟩)⟩
theorem zero_mk {s : Int} (hs : s = 1 ∨ s = -1) : MkOk s (.int 0) 0 := mk_of_flok (n := 0) hs (by decide) (by decide) (by decide)
theorem zero_ok {s : Int} (hs : s = 1 ∨ s = -1) : (zeroL s).ok := mkL_ok (v := (.int 0, 0)) (zero_mk hs)
theorem FL.ok.is {x : FL} (h : x.ok) : IS x.t := by
  rcases h.2 with ⟨e, _⟩ | ⟨e, _⟩ | ⟨n, e, _⟩
  · exact .inr ⟨_, e⟩
  · exact .inr ⟨_, e⟩
  · exact .inl ⟨_, e⟩
theorem FL.ok.fin {x : FL} (h : x.ok) (h1 : x.t ≠ .str "nan") (h2 : x.t ≠ .str "inf") : ∃ n, x.t = .int n ∧ FinOk n x.p := by
  rcases h.2 with ⟨e, _⟩ | ⟨e, _⟩ | h
  · exact absurd e h1
  · exact absurd e h2
  · exact h
/-- made again of its own parts it is the same -/
theorem red_again {s : Int} {t : V} {p : Int} (h : FlOk s t p) : redV t p = (t, p) := by
  rcases h.2 with ⟨rfl, _, rfl⟩ | ⟨rfl, rfl⟩ | ⟨n, rfl, f1, f2, f3, f4, f5, f6⟩
  · rfl
  · rfl
  · by_cases h0 : n = 0
    · subst h0
      rw [f5 rfl]; rfl
    · obtain ⟨k, rfl⟩ := Int.eq_ofNat_of_zero_le f1
      have ho : k % 2 = 1 := by have := f6 h0; omega
      rw [red_nat (by omega), tz_odd ho]
      simp
def nI : V → Int
  | .int n => n
  | _ => 0
def nx (x : FL) : Int := ratN x.s (nI x.t) x.p
def dx (x : FL) : Int := ratD x.p
theorem rat_small {s n p : Int} (h : FlOk s (.int n) p) : (ratN s n p).natAbs < 2 ^ 1100 ∧ (ratD p).natAbs < 2 ^ 1100 ∧ 0 < ratD p := by
  have hf := fin_of h
  have hs := h.1
  have hhi := hf.hi
  obtain ⟨f1, f2, f3, f4, f5⟩ := hf
  have hm : n.natAbs < 2 ^ 53 := by omega
  unfold ratN ratD
  by_cases hp : p < 0
  · rw [if_pos hp, if_pos hp, sgn_abs hs]
    refine ⟨lt_pow_mono hm (by decide), ?_, Int.pow_pos (by decide)⟩
    rw [Int.natAbs_pow]
    exact Nat.pow_lt_pow_right (by decide) (by omega)
  · rw [if_neg hp, if_neg hp, sgn_abs hs]
    refine ⟨?_, lt_pow_mono (a := 1) (by decide) (by decide), by decide⟩
    rw [Int.natAbs_mul, Int.natAbs_pow]
    have h1 : n.natAbs * Int.natAbs 2 ^ p.toNat < 2 ^ 53 * 2 ^ p.toNat := Nat.mul_lt_mul_of_pos_right hm (Nat.two_pow_pos _)
    rw [← Nat.pow_add] at h1
    exact lt_pow_mono h1 (by omega)
theorem FL.ok.small {x : FL} (h : x.ok) {n : Int} (e : x.t = .int n) : (nx x).natAbs < 2 ^ 1100 ∧ (dx x).natAbs < 2 ^ 1100 ∧ 0 < dx x := by
  have h : FlOk x.s x.t x.p := h
  unfold nx dx
  rw [e] at h ⊢
  exact rat_small h
def maxI (i j : Int) : Int := if j > i then j else i
theorem maxI_sgn {i j : Int} (hi : i = 1 ∨ i = -1) (hj : j = 1 ∨ j = -1) : maxI i j = 1 ∨ maxI i j = -1 := by
  unfold maxI; split
  · exact hj
  · exact hi
theorem tfS_sgn (k : Int) : tfS k = 1 ∨ tfS k = -1 := by unfold tfS; split <;> simp
theorem mul_sgn {i j : Int} (hi : i = 1 ∨ i = -1) (hj : j = 1 ∨ j = -1) : i * j = 1 ∨ i * j = -1 := by
  rcases hi with rfl | rfl <;> rcases hj with rfl | rfl <;> simp
/-! what is reckoned -/
def addL (x y : FL) : FL :=
  if x.t = .str "inf" ∨ y.t = .str "inf" then (if x.t = y.t ∧ x.s ≠ y.s then nanL else if x.t = .str "inf" then x else y)
  else if x.t = .int 0 ∧ y.t = .int 0 then zeroL (maxI x.s y.s)
  else nearL (tfS (nx x * dx y + nx y * dx x)) (nx x * dx y + nx y * dx x).natAbs (dx x * dx y).natAbs
def mulL (x y : FL) : FL :=
  if x.t = .str "inf" ∨ y.t = .str "inf" then (if x.t = .int 0 ∨ y.t = .int 0 then nanL else infL (x.s * y.s))
  else nearL (x.s * y.s) (nx x * nx y).natAbs (dx x * dx y).natAbs
def divL (x y : FL) : FL :=
  if x.t = .str "inf" then (if y.t = .str "inf" then nanL else infL (x.s * y.s))
  else if y.t = .str "inf" then zeroL (x.s * y.s)
  else if y.t = .int 0 then (if x.t = .int 0 then nanL else infL (x.s * y.s))
  else nearL (x.s * y.s) (nx x * dx y).natAbs (dx x * nx y).natAbs
def negL (x : FL) : FL := ⟨0 - x.s, x.t, x.p⟩
def byL (c : Str) (x y : FL) : FL :=
  if x.t = .str "nan" ∨ y.t = .str "nan" then nanL
  else if c = "add" then addL x y else if c = "sub" then addL x (negL y) else if c = "mul" then mulL x y else divL x y
section
variable {P : Program} {w : World} {K : PySem.W.Frag} {mg : Str → Option Value} {base : Heap} {C : Addr}
section
variable {H : Hp} {a : Addr} {s : Int} {t : V} {p : Int} {T : V → Prop}
theorem show_ex {p : Addr → Prop} (h : ∃ a, p a) : ∃ a, p a := h
theorem fS (O : FlC K mg C) (h : FlAt C H a s t p) (q : T (.int s)) : ∃ a' C' dx fs v, V.ref a = .ref a' ∧ H a' = some (.ins C' dx fs) ∧ Cls K C' ∧ NoAttr K C' "sign" ∧ fs.lookup ("sign" : Str) = some v ∧ T v := by
  obtain ⟨dx, h⟩ := h
  exact ⟨a, C, dx, _, _, rfl, h, O.own.cl, O.nS, fl_sign _ _ _, q⟩
theorem fT (O : FlC K mg C) (h : FlAt C H a s t p) (q : T t) : ∃ a' C' dx fs v, V.ref a = .ref a' ∧ H a' = some (.ins C' dx fs) ∧ Cls K C' ∧ NoAttr K C' "top" ∧ fs.lookup ("top" : Str) = some v ∧ T v := by
  obtain ⟨dx, h⟩ := h
  exact ⟨a, C, dx, _, _, rfl, h, O.own.cl, O.nT, fl_top _ _ _, q⟩
theorem fP (O : FlC K mg C) (h : FlAt C H a s t p) (q : T (.int p)) : ∃ a' C' dx fs v, V.ref a = .ref a' ∧ H a' = some (.ins C' dx fs) ∧ Cls K C' ∧ NoAttr K C' "power" ∧ fs.lookup ("power" : Str) = some v ∧ T v := by
  obtain ⟨dx, h⟩ := h
  exact ⟨a, C, dx, _, _, rfl, h, O.own.cl, O.nP, fl_power _ _ _, q⟩
theorem g_rat {Q : VK} {E : XK} {n : Int} (h : FlAt C H a s (.int n) p) (o : FlOk s (.int n) p) (q : RetT H [.int (ratN s n p), .int (ratD p)] Q) :
    ∃ a' dx fs, V.ref a = .ref a' ∧ H a' = some (.ins C dx fs) ∧ fs.lookup ("ratio" : Str) = none ∧ tNil [] H fun vs H2 => sp_ratio C (V.ref a :: (vs ++ [])) H2 Q E := by
  obtain ⟨d, h'⟩ := id h
  exact ⟨a, d, _, rfl, h', rfl, a, s, n, p, rfl, h, o, q⟩
end
/-- Float(..) -/
theorem mkN {H : Hp} {Q : VK} {E : XK} {s : Int} {top : V} {p : Int} (hk : MkOk s top p) (q : RetN C H (mkL s (top, p)) Q) : MakeR C (sp_Finit C) ([.int s, top, .int p] ++ []) H Q E := mkF hk q.to
end
end Up

set_option Elab.async false
set_option linter.all false
set_option maxRecDepth 100000
set_option maxHeartbeats 4000000
set_option exponentiation.threshold 200000
namespace Up
open PySem PySem.Spec PyProof.Rows L2
local macro_rules | `(tactic| walk_at "u") => `(tactic| first
  | with_reducible refine g_seq ?_
  | with_reducible refine g_asg ?_
  | with_reducible refine g_op ?_
  | ((with_reducible show tVar _ _ _ _); apply g_var; exact rfl)
  | with_reducible refine g_c ?_
  | with_reducible refine g_name ?_
  | with_reducible refine g_ifs ?_
  | with_reducible refine g_tt ?_
  | with_reducible refine g_tB ?_
  | with_reducible refine g_bl ?_
  | with_reducible refine g_ret ?_
  | with_reducible refine g_cb ?_
  | with_reducible refine g_cons ?_
  | with_reducible refine g_nil ?_
  | with_reducible refine g_call ?_
  | with_reducible refine g_and ?_
  | with_reducible refine g_or ?_
  | with_reducible refine g_not ?_
  | with_reducible refine g_andV ?_
  | with_reducible refine g_orV ?_
  | with_reducible refine g_notV ?_
  | with_reducible refine g_if ?_
  | with_reducible refine g_un ?_
  | with_reducible refine g_neg ?_
  | with_reducible refine g_addI ?_
  | with_reducible refine g_subI ?_
  | with_reducible refine g_subB ?_
  | with_reducible refine g_I0 ?_
  | with_reducible refine g_cmpI ?_
  | with_reducible refine g_eqI ?_
  | with_reducible refine g_neI ?_
  | with_reducible refine g_eqS ?_
  | with_reducible refine g_neS ?_
  | with_reducible refine g_eqB ?_
  | with_reducible refine g_neB ?_
  | with_reducible refine g_bits ?_
  | with_reducible refine g_bitsI ?_
  | with_reducible refine g_fld ?_
  | with_reducible refine g_tup ?_
  | with_reducible refine g_lst ?_
  | with_reducible refine g_gtup ?_
  | with_reducible refine g_make ?_
  | with_reducible refine g_lc ?_
  | with_reducible refine g_yesT ?_
  | with_reducible refine g_intI ?_
  | with_reducible refine g_intB ?_
  | with_reducible refine g_max2 ?_
  | with_reducible refine g_abs1 ?_
  | with_reducible refine g_for ?_
  | with_reducible refine g_iList ?_
  | with_reducible refine g_iTup ?_
  | with_reducible refine g_iRng1 ?_
  | with_reducible refine g_iEnum ?_
  | with_reducible refine g_slice ?_
  | with_reducible refine g_po0 ?_
  | with_reducible refine g_po1 ?_
  | with_reducible refine g_gsub ?_
  | with_reducible refine g_par ?_
  | with_reducible refine g_par2 ?_
  | with_reducible refine g_rfl ?_
  | with_reducible refine g_meth ?_
  | with_reducible refine g_gcons ?_
  | with_reducible refine g_gnil ?_
  | with_reducible refine g_gfld ?_
  | with_reducible refine g_sfld ?_
  | with_reducible refine g_drop ?_
  | with_reducible refine g_next ?_
  | with_reducible refine iteT ?_
  | with_reducible refine iteF ?_)
local macro_rules | `(tactic| walk_at "go") => `(tactic| (repeat walk_at "u"))
local macro_rules | `(tactic| walk_at "f") => `(tactic| (repeat (first
  | walk_at "u"
  | with_reducible refine g_chain ?_
  | with_reducible refine g_par3 ?_
  | with_reducible refine g_par3' ?_
  | ((with_reducible refine show_ex ?_); first
    | refine fT (by assumption) (by assumption) ?_
    | refine fS (by assumption) (by assumption) ?_
    | refine fP (by assumption) (by assumption) ?_))))

section
variable {P : Program} {w : World} {K : PySem.W.Frag} {mg : Str → Option Value} {base : Heap} {C : Addr}
/-! nan -/
abbrev s_nan : Stmt := top 17
theorem sc_nan : FnScope [] [] (defScope s_nan) := ⟨rfl, rfl, rfl, by decide +kernel, rfl, by decide +kernel, by decide +kernel⟩
theorem nan_mk : MkOk 1 (.str "nan") 0 := ⟨.inl rfl, .inl ⟨rfl, rfl, rfl⟩⟩
def sp_nan (C : Addr) : Sp := fun vs H Q _ => vs = [] ∧ RetN C H nanL Q
theorem ok_nan {f : Addr} {fd : FuncData} (F : FunD K "nan" "nan" (defArgs s_nan) (defBody s_nan) (defScope s_nan) [] [] f fd) (c_Float : CnF P w K mg base C) : FnOk P w K mg base CX0 4 f fd [] (sp_nan C) := by
  refine F.ok sc_nan (fun vs H Q E h => ?_) (fun cdv A outer s H vs Q E hr h => ?_)
  · obtain ⟨rfl, _⟩ := h; rfl
  · obtain ⟨rfl, q⟩ := h
    refine ⟨_, PSs.nox (pss_one (ps_ret (pe_cn c_Float (hr.mono (by decide)) pass0 (pa_cons pe_int (pa_cons pe_str (pa_cons pe_int pa_nil)))))), ?_⟩
    walk_at "go"
    exact mkN nan_mk q
/-! Float.__eq__ -/
abbrev s_Float_eq : Stmt := inClass (top 12) 2
theorem sc_Float_eq : FnScope ["self", "other"] ["self", "other"] (defScope s_Float_eq) := ⟨rfl, rfl, rfl, by decide +kernel, rfl, by decide +kernel, by decide +kernel⟩
def eqL (x y : FL) : Bool := decide (x.s = y.s) && (decide (x.t = y.t) && decide (x.p = y.p))
theorem eqL_refl (x : FL) : eqL x x = true := by unfold eqL; simp
def tpD (x : FL) : PyData := .tuple [.int x.s, dV x.t, .int x.p]
theorem tp_shape {x : FL} (h : x.ok) : SeqAt.shaped (tpD x) = true := by
  have h : FlOk x.s x.t x.p := h
  unfold tpD
  rcases h.2 with ⟨e, _⟩ | ⟨e, _⟩ | ⟨n, e, _⟩
  · rw [e]; show SeqAt.shaped (.tuple [.int x.s, .str "nan", .int x.p]) = true; unfold SeqAt.shaped; simp only [PyData.canLay0, PyData.canLayAll0, Bool.true_and, Bool.and_true, Bool.and_eq_true, decide_eq_true_eq]; exact ⟨by decide +kernel, by simp [PyData.depth, PyData.depthAll]⟩
  · rw [e]; show SeqAt.shaped (.tuple [.int x.s, .str "inf", .int x.p]) = true; unfold SeqAt.shaped; simp only [PyData.canLay0, PyData.canLayAll0, Bool.true_and, Bool.and_true, Bool.and_eq_true, decide_eq_true_eq]; exact ⟨by decide +kernel, by simp [PyData.depth, PyData.depthAll]⟩
  · rw [e]; rfl
theorem tp_eqv {x y : FL} (hx : x.ok) (hy : y.ok) : PyData.eqv (tpD x) (tpD y) = eqL x y := by
  unfold tpD eqL
  simp only [PyData.eqv, PyData.eqvAll, hx.is.eqv hy.is, Bool.and_true]
  have e : ∀ i j : Int, (i == j) = decide (i = j) := fun i j => by by_cases h : i = j <;> simp [h]
  rw [e, e]
def sp_Feq (C : Addr) : Sp := fun vs H Q _ => ∃ v u x y, vs = [v, u] ∧ FA C H v x ∧ FA C H u y ∧ x.ok ∧ y.ok ∧ ∀ H', Same H H' → Q (.bl (eqL x y)) H'
theorem ok_Feq {f : Addr} {fd : FuncData} (F : FunD K "__eq__" "Float.__eq__" (defArgs s_Float_eq) (defBody s_Float_eq) (defScope s_Float_eq) [] [] f fd) (B : Blt mg) (T : FlC K mg C) : FnOk P w K mg base CX0 1 f fd ["self", "other"] (sp_Feq C) := by
  have g_Float : mg "Float" = some (.ref C) := T.mg
  refine F.ok sc_Float_eq (fun vs H Q E h => ?_) (fun cdv A outer s H vs Q E hr h => ?_)
  · obtain ⟨_, _, _, _, rfl, _⟩ := h; rfl
  · obtain ⟨_, _, x, y, rfl, ⟨a, rfl, ha⟩, ⟨b, rfl, hb⟩, ox, oy, q⟩ := h
    refine ⟨_, PSs.nox (pss_cons (ps_if (pt_not (pt_val (pe_callB call_isi (by rfl) B.isinstance (by decide +kernel) (pa_cons (pv 1) (pa_cons (pe_gref g_Float) pa_nil))))) (pss_one ps_never) pss_nil)
  (pss_one (ps_ret (pe_cmpR (op_oEq hr.units) (pe_tupN (pa_cons (pe_fld (pv 0) rfl) (pa_cons (pe_fld (pv 0) rfl) (pa_cons (pe_fld (pv 0) rfl) pa_nil)))) (pe_tupN (pa_cons (pe_fld (pv 1) rfl) (pa_cons (pe_fld (pv 1) rfl) (pa_cons (pe_fld (pv 1) rfl) pa_nil)))) (nomark _))))), ?_⟩
    walk_at "f"
    refine g_isiF (kf_fl T hb) ?_
    walk_at "f"
    refine iteF ?_
    walk_at "f"
    refine g_new (sz rfl) fun c H1 n1 s1 h1 _ => ?_
    have ha := ha.same s1
    have hb := hb.same s1
    walk_at "f"
    refine g_new (sz rfl) fun d H2 n2 s2 h2 _ => ?_
    refine .inr ⟨tpD x, tpD y, .tup (SqT.of (s2 _ _ h1)) (.cons (.int _) (.cons ox.is.dp (.cons (.int _) .nil))), .tup (SqT.of h2) (.cons (.int _) (.cons oy.is.dp (.cons (.int _) .nil))), tp_shape ox, tp_shape oy, ?_⟩
    rw [tp_eqv ox oy]
    exact q _ (s1.trans s2)
/-! added -/
abbrev s_added : Stmt := top 27
theorem sc_added : FnScope ["one", "other", "first", "second", "top"] ["one", "other"] (defScope s_added) := ⟨rfl, rfl, rfl, by decide +kernel, rfl, by decide +kernel, by decide +kernel⟩
theorem cast_abs {k : Int} (h : 0 < k) : ((k.natAbs : Nat) : Int) = k := by omega
theorem abs_if (k : Int) : (if k < 0 then -k else k) = (k.natAbs : Int) := by split <;> omega
theorem add_lt {x y : Int} {a : Nat} (hx : x.natAbs < 2 ^ a) (hy : y.natAbs < 2 ^ a) : (x + y).natAbs < 2 ^ (a + 1) := by
  rw [Nat.pow_succ]; omega
theorem dd_pos {x y : Int} (hx : 0 < x) (hy : 0 < y) : 0 < (x * y).natAbs := by
  have := Int.mul_pos hx hy
  omega
theorem bits6 {n a : Nat} (h : n < 2 ^ a) (ha : a ≤ 6000) : bitsN n ≤ 6000 := Nat.le_trans (bits_le h) ha
def sp_added (C : Addr) : Sp := fun vs H Q _ => ∃ v u x y, vs = [v, u] ∧ FA C H v x ∧ FA C H u y ∧ x.ok ∧ y.ok ∧ x.t ≠ .str "nan" ∧ y.t ≠ .str "nan" ∧ RetN C H (addL x y) Q
abbrev CNear (P : Program) (w : World) (K : PySem.W.Frag) (mg : Str → Option Value) (base : Heap) (C : Addr) : Prop := Fn P w K mg base CX0 5 "nearest" ["sign", "top", "bottom"] [] (sp_nearest C)
abbrev CSign (P : Program) (w : World) (K : PySem.W.Frag) (mg : Str → Option Value) (base : Heap) : Prop := Fn P w K mg base CX0 1 "sign_of" ["is_negative"] [] sp_signof
abbrev CRat (P : Program) (w : World) (K : PySem.W.Frag) (mg : Str → Option Value) (base : Heap) (C : Addr) : Prop := Mt P w K mg base CX0 1 C "ratio" ["self"] (sp_ratio C)
abbrev CNan (P : Program) (w : World) (K : PySem.W.Frag) (mg : Str → Option Value) (base : Heap) (C : Addr) : Prop := Fn P w K mg base CX0 4 "nan" [] [] (sp_nan C)
abbrev CInf (P : Program) (w : World) (K : PySem.W.Frag) (mg : Str → Option Value) (base : Heap) (C : Addr) : Prop := Fn P w K mg base CX0 4 "infinity" ["sign"] [] (sp_infinity C)
theorem ok_added {f : Addr} {fd : FuncData} (F : FunD K "added" "added" (defArgs s_added) (defBody s_added) (defScope s_added) [] [] f fd) (B : Blt mg) (T : FlC K mg C) (c_Float : CnF P w K mg base C) (c_nan : CNan P w K mg base C) (c_ratio : CRat P w K mg base C) (c_nearest : CNear P w K mg base C) (c_signof : CSign P w K mg base) :
    FnOk P w K mg base CX0 6 f fd ["one", "other"] (sp_added C) := by
  refine F.ok sc_added (fun vs H Q E h => ?_) (fun cdv A outer s H vs Q E hr h => ?_)
  · obtain ⟨_, _, _, _, rfl, _⟩ := h; rfl
  · obtain ⟨_, _, x, y, rfl, ⟨a, rfl, ha⟩, ⟨b, rfl, hb⟩, ox, oy, nx1, ny1, q⟩ := h
    refine ⟨_, PSs.nox (pss_cons (ps_if (PW.pt (pw_or (pt_cmpR (op_oEq hr.units) (pe_fld (pv 0) rfl) pe_str (nomark _)) (pw_or1 (pt_cmpR (op_oEq hr.units) (pe_fld (pv 1) rfl) pe_str (nomark _))))) (pss_cons (ps_if (PW.pt (pw_and (pt_cmpR (op_oEq hr.units) (pe_fld (pv 0) rfl) (pe_fld (pv 1) rfl) (nomark _)) (pw_and1 (pt_cmpR (op_oNe hr.units) (pe_fld (pv 0) rfl) (pe_fld (pv 1) rfl) (nomark _))))) (pss_one (ps_ret (pe_fn0 c_nan (hr.mono (by decide)) pass0))) pss_nil)
  (pss_one (ps_ret (pe_ifExp (pt_cmpR (op_oEq hr.units) (pe_fld (pv 0) rfl) pe_str (nomark _)) (pv 0) (pv 1))))) pss_nil)
  (C8.pss_cut (ps_if (PW.pt (pw_and (pt_cmpR (op_oEq hr.units) (pe_fld (pv 0) rfl) pe_int (nomark _)) (pw_and1 (pt_cmpR (op_oEq hr.units) (pe_fld (pv 1) rfl) pe_int (nomark _))))) (pss_one (ps_ret (pe_cn c_Float (hr.mono (by decide)) pass0 (pa_cons (pe_callB (call_max2 rfl) (by rfl) B.max (by decide +kernel) (pa_cons (pe_fld (pv 0) rfl) (pa_cons (pe_fld (pv 1) rfl) pa_nil))) (pa_cons pe_int (pa_cons pe_int pa_nil)))))) pss_nil)
  (pss_cons (ps_par (i := 2) (j := 3) rfl sc_added.nd rfl rfl (by decide) rfl rfl (pa_cons (pe_mt0 c_ratio (hr.mono (by decide)) pass0 (pv 0)) (pa_cons (pe_mt0 c_ratio (hr.mono (by decide)) pass0 (pv 1)) pa_nil)) (by rfl))
  (pss_cons (ps_set (i := 4) sc_added.nd rfl (Or.inl rfl) (pe_op op_oAdd (pe_op op_oMul (pe_ix ix_seq (pv 2) pe_int (fun _ _ => rfl)) (pe_ix ix_seq (pv 3) pe_int (fun _ _ => rfl))) (pe_op op_oMul (pe_ix ix_seq (pv 3) pe_int (fun _ _ => rfl)) (pe_ix ix_seq (pv 2) pe_int (fun _ _ => rfl)))))
  (pss_one (ps_ret (pe_fn c_nearest (hr.mono (by decide)) pass0 (pa_cons (pe_fn c_signof (hr.mono (by decide)) pass0 (pa_cons (pe_cmpR op_oLt (pv 4) pe_int (nomark _)) pa_nil)) (pa_cons (pe_callB call_abs (by rfl) B.abs (by decide +kernel) (pa_cons (pv 4) pa_nil)) (pa_cons (pe_op op_oMul (pe_ix ix_seq (pv 2) pe_int (fun _ _ => rfl)) (pe_ix ix_seq (pv 3) pe_int (fun _ _ => rfl))) pa_nil)))))))))), ?_⟩
    unfold addL at q
    have fin : (¬ x.t = .str "inf") → (¬ y.t = .str "inf") → ¬ (x.t = .int 0 ∧ y.t = .int 0) → RetN C H (nearL (tfS (nx x * dx y + nx y * dx x)) (nx x * dx y + nx y * dx x).natAbs (dx x * dx y).natAbs) Q := fun h1 h2 h3 => by
      rw [if_neg (fun z => z.elim h1 h2), if_neg h3] at q; exact q
    have inf : (x.t = .str "inf" ∨ y.t = .str "inf") → RetN C H (if x.t = y.t ∧ x.s ≠ y.s then nanL else if x.t = .str "inf" then x else y) Q := fun h => by rw [if_pos h] at q; exact q
    walk_at "f"
    refine g_eqV (ox.is.scal (.str _)) ?_
    walk_at "f"
    have infw : (x.t = .str "inf" ∨ y.t = .str "inf") → RetN C H (if x.t = y.t ∧ x.s ≠ y.s then nanL else if x.t = .str "inf" then x else y) Q := inf
    refine g_ite (fun h1 => ?_) fun h1 => ?_
    · walk_at "f"
      refine g_eqV (ox.is.scal oy.is) ?_
      walk_at "f"
      have q := inf (.inl h1)
      refine g_ite (fun h2 => ?_) fun h2 => ?_
      · walk_at "f"
        refine g_iten (fun h3 => ?_) fun h3 => ?_
        · walk_at "f"
          rw [if_pos ⟨h2, h3⟩] at q
          exact ⟨rfl, q⟩
        · walk_at "f"
          refine g_eqV (ox.is.scal (.str _)) ?_
          walk_at "f"
          refine g_yes h1 ?_
          walk_at "f"
          rw [if_neg (fun z => z.2 h3), if_pos h1] at q
          exact q _ _ (Same.refl _) ⟨a, rfl, ha⟩
      · walk_at "f"
        refine g_eqV (ox.is.scal (.str _)) ?_
        walk_at "f"
        refine g_yes h1 ?_
        walk_at "f"
        rw [if_neg (fun z => h2 z.1), if_pos h1] at q
        exact q _ _ (Same.refl _) ⟨a, rfl, ha⟩
    · walk_at "f"
      refine g_eqV (oy.is.scal (.str _)) ?_
      walk_at "f"
      refine g_ite (fun h1' => ?_) fun h1' => ?_
      · walk_at "f"
        refine g_eqV (ox.is.scal oy.is) ?_
        walk_at "f"
        have q := inf (.inr h1')
        refine g_no (fun z => h1 (z.trans h1')) ?_
        walk_at "f"
        refine g_eqV (ox.is.scal (.str _)) ?_
        walk_at "f"
        refine g_no h1 ?_
        walk_at "f"
        rw [if_neg (fun z => h1 (z.1.trans h1')), if_neg h1] at q
        exact q _ _ (Same.refl _) ⟨b, rfl, hb⟩
      · obtain ⟨n, en, fn⟩ := ox.fin nx1 h1
        obtain ⟨m, em, fm⟩ := oy.fin ny1 h1'
        obtain ⟨x1, x2, x3⟩ := ox.small en
        obtain ⟨y1, y2, y3⟩ := oy.small em
        have q' := q
        rw [if_neg (fun z => z.elim h1 h1')] at q'
        walk_at "f"
        refine g_cut (fun σ' H2 => σ' = [some (.ref a), some (.ref b), none, none, none] ∧ H2 = H ∧ ¬ (x.t = .int 0 ∧ y.t = .int 0)) ?_ ?_
        · walk_at "f"
          refine g_eqV (ox.is.scal (.int _)) ?_
          walk_at "f"
          refine g_ite (fun h2 => ?_) fun h2 => ?_
          · walk_at "f"
            refine g_eqV (oy.is.scal (.int _)) ?_
            walk_at "f"
            refine g_ite (fun h3 => ?_) fun h3 => ?_
            · walk_at "f"
              rw [if_pos ⟨h2, h3⟩] at q'
              exact mkN (zero_mk (maxI_sgn ox.1 oy.1)) q'
            · walk_at "f"
              exact ⟨rfl, rfl, fun z => h3 z.2⟩
          · walk_at "f"
            exact ⟨rfl, rfl, fun z => h2 z.1⟩
        · rintro _ _ ⟨rfl, rfl, hz⟩
          rw [if_neg hz] at q'
          rw [en] at ha
          rw [em] at hb
          have ox' : FlOk x.s (.int n) x.p := en ▸ ox
          have oy' : FlOk y.s (.int m) y.p := em ▸ oy
          have enx : ratN x.s n x.p = nx x := by unfold nx; rw [en]; rfl
          have eny : ratN y.s m y.p = nx y := by unfold nx; rw [em]; rfl
          walk_at "f"
          refine g_rat ha ox' fun H1 c n1 s1 h1c => ?_
          rw [enx] at h1c
          walk_at "f"
          refine g_rat (hb.same s1) oy' fun H2 d n2 s2 h2d => ?_
          rw [eny] at h2d
          have h1c := s2 _ _ h1c
          walk_at "f"
          refine g_ixT h1c rfl ?_
          walk_at "f"
          refine g_ixT h2d rfl ?_
          refine g_mulI (mul_small (lt_pow_mono x1 (by decide)) (lt_pow_mono y2 (by decide))) ?_
          walk_at "f"
          refine g_ixT h2d rfl ?_
          walk_at "f"
          refine g_ixT h1c rfl ?_
          refine g_mulI (mul_small (lt_pow_mono y1 (by decide)) (lt_pow_mono x2 (by decide))) ?_
          walk_at "f"
          refine ⟨_, rfl, ?_⟩
          walk_at "f"
          refine g_ixT h1c rfl ?_
          walk_at "f"
          refine g_ixT h2d rfl ?_
          refine g_mulI (mul_small (lt_pow_mono x2 (by decide)) (lt_pow_mono y2 (by decide))) ?_
          walk_at "f"
          have ez : ratD x.p * ratD y.p = (((dx x * dx y).natAbs : Nat) : Int) := (cast_abs (Int.mul_pos x3 y3)).symm
          have es : sgnB (decide (nx x * ratD y.p + nx y * ratD x.p < 0)) = tfS (nx x * dx y + nx y * dx x) := by unfold sgnB tfS; by_cases h : nx x * dx y + nx y * dx x < 0 <;> simp [h] <;> simpa [dx] using h
          rw [es, abs_if, ez]
          exact ⟨_, _, _, rfl, tfS_sgn _, dd_pos x3 y3, bits6 (add_lt (natAbs_mul_lt x1 y2) (natAbs_mul_lt y1 x2)) (by decide), bits6 (natAbs_mul_lt x2 y2) (by decide), (q'.later (s1.trans s2)).to⟩
/-! multiplied -/
abbrev s_multiplied : Stmt := top 28
theorem sc_multiplied : FnScope ["one", "other", "sign", "first", "second"] ["one", "other"] (defScope s_multiplied) := ⟨rfl, rfl, rfl, by decide +kernel, rfl, by decide +kernel, by decide +kernel⟩
def sp_multiplied (C : Addr) : Sp := fun vs H Q _ => ∃ v u x y, vs = [v, u] ∧ FA C H v x ∧ FA C H u y ∧ x.ok ∧ y.ok ∧ x.t ≠ .str "nan" ∧ y.t ≠ .str "nan" ∧ RetN C H (mulL x y) Q
theorem inf_to {H : Hp} {Q : VK} {E : XK} {s : Int} (hs : s = 1 ∨ s = -1) (q : RetN C H (infL s) Q) : sp_infinity C ([.int s] ++ []) H Q E := ⟨s, rfl, hs, q.to⟩
theorem ok_multiplied {f : Addr} {fd : FuncData} (F : FunD K "multiplied" "multiplied" (defArgs s_multiplied) (defBody s_multiplied) (defScope s_multiplied) [] [] f fd) (B : Blt mg) (T : FlC K mg C) (c_nan : CNan P w K mg base C) (c_infinity : CInf P w K mg base C) (c_ratio : CRat P w K mg base C) (c_nearest : CNear P w K mg base C) :
    FnOk P w K mg base CX0 6 f fd ["one", "other"] (sp_multiplied C) := by
  refine F.ok sc_multiplied (fun vs H Q E h => ?_) (fun cdv A outer s H vs Q E hr h => ?_)
  · obtain ⟨_, _, _, _, rfl, _⟩ := h; rfl
  · obtain ⟨_, _, x, y, rfl, ⟨a, rfl, ha⟩, ⟨b, rfl, hb⟩, ox, oy, nx1, ny1, q⟩ := h
    refine ⟨_, PSs.nox (pss_cons (ps_set (i := 2) sc_multiplied.nd rfl (Or.inl rfl) (pe_op op_oMul (pe_fld (pv 0) rfl) (pe_fld (pv 1) rfl)))
  (C8.pss_cut (ps_if (PW.pt (pw_or (pt_cmpR (op_oEq hr.units) (pe_fld (pv 0) rfl) pe_str (nomark _)) (pw_or1 (pt_cmpR (op_oEq hr.units) (pe_fld (pv 1) rfl) pe_str (nomark _))))) (pss_one (ps_ret (pe_ifExp (pt_cmpR op_in_seq pe_int (pe_tupN (pa_cons (pe_fld (pv 0) rfl) (pa_cons (pe_fld (pv 1) rfl) pa_nil))) (by rfl)) (pe_fn0 c_nan (hr.mono (by decide)) pass0) (pe_fn c_infinity (hr.mono (by decide)) pass0 (pa_cons (pv 2) pa_nil))))) pss_nil)
  (pss_cons (ps_par (i := 3) (j := 4) rfl sc_multiplied.nd rfl rfl (by decide) rfl rfl (pa_cons (pe_mt0 c_ratio (hr.mono (by decide)) pass0 (pv 0)) (pa_cons (pe_mt0 c_ratio (hr.mono (by decide)) pass0 (pv 1)) pa_nil)) (by rfl))
  (pss_one (ps_ret (pe_fn c_nearest (hr.mono (by decide)) pass0 (pa_cons (pv 2) (pa_cons (pe_callB call_abs (by rfl) B.abs (by decide +kernel) (pa_cons (pe_op op_oMul (pe_ix ix_seq (pv 3) pe_int (fun _ _ => rfl)) (pe_ix ix_seq (pv 4) pe_int (fun _ _ => rfl))) pa_nil)) (pa_cons (pe_op op_oMul (pe_ix ix_seq (pv 3) pe_int (fun _ _ => rfl)) (pe_ix ix_seq (pv 4) pe_int (fun _ _ => rfl))) pa_nil))))))))), ?_⟩
    unfold mulL at q
    have hs := mul_sgn ox.1 oy.1
    walk_at "f"
    refine g_mulI (sgn_mul ox.1) ?_
    walk_at "f"
    refine g_cut (fun σ' H2 => σ' = [some (.ref a), some (.ref b), some (.int (x.s * y.s)), none, none] ∧ H2 = H ∧ ¬ (x.t = .str "inf" ∨ y.t = .str "inf")) ?_ ?_
    · have inf : (x.t = .str "inf" ∨ y.t = .str "inf") → RetN C H (if x.t = .int 0 ∨ y.t = .int 0 then nanL else infL (x.s * y.s)) Q := fun h => by rw [if_pos h] at q; exact q
      walk_at "f"
      refine g_eqV (ox.is.scal (.str _)) ?_
      walk_at "f"
      refine g_ite (fun h1 => ?_) fun h1 => ?_
      · have q := inf (.inl h1)
        walk_at "f"
        refine g_new (sz rfl) fun c H1 n1 s1 h1c _ => ?_
        refine g_in2 h1c (.int _) ox.is oy.is ?_
        walk_at "f"
        refine g_ite (fun h2 => ?_) fun h2 => ?_
        · walk_at "f"
          rw [if_pos h2] at q
          exact ⟨rfl, q.later s1⟩
        · walk_at "f"
          rw [if_neg h2] at q
          exact inf_to hs (q.later s1)
      · walk_at "f"
        refine g_eqV (oy.is.scal (.str _)) ?_
        walk_at "f"
        refine g_ite (fun h1' => ?_) fun h1' => ?_
        · have q := inf (.inr h1')
          walk_at "f"
          refine g_new (sz rfl) fun c H1 n1 s1 h1c _ => ?_
          refine g_in2 h1c (.int _) ox.is oy.is ?_
          walk_at "f"
          refine g_ite (fun h2 => ?_) fun h2 => ?_
          · walk_at "f"
            rw [if_pos h2] at q
            exact ⟨rfl, q.later s1⟩
          · walk_at "f"
            rw [if_neg h2] at q
            exact inf_to hs (q.later s1)
        · walk_at "f"
          exact ⟨rfl, rfl, fun z => z.elim h1 h1'⟩
    · rintro _ _ ⟨rfl, rfl, hz⟩
      rw [if_neg hz] at q
      obtain ⟨n, en, fn⟩ := ox.fin nx1 fun z => hz (.inl z)
      obtain ⟨m, em, fm⟩ := oy.fin ny1 fun z => hz (.inr z)
      obtain ⟨x1, x2, x3⟩ := ox.small en
      obtain ⟨y1, y2, y3⟩ := oy.small em
      rw [en] at ha
      rw [em] at hb
      have ox' : FlOk x.s (.int n) x.p := en ▸ ox
      have oy' : FlOk y.s (.int m) y.p := em ▸ oy
      have enx : ratN x.s n x.p = nx x := by unfold nx; rw [en]; rfl
      have eny : ratN y.s m y.p = nx y := by unfold nx; rw [em]; rfl
      walk_at "f"
      refine g_rat ha ox' fun H1 c n1 s1 h1c => ?_
      rw [enx] at h1c
      walk_at "f"
      refine g_rat (hb.same s1) oy' fun H2 d n2 s2 h2d => ?_
      rw [eny] at h2d
      have h1c := s2 _ _ h1c
      walk_at "f"
      refine g_ixT h1c rfl ?_
      walk_at "f"
      refine g_ixT h2d rfl ?_
      refine g_mulI (mul_small (lt_pow_mono x1 (by decide)) (lt_pow_mono y1 (by decide))) ?_
      walk_at "f"
      refine g_ixT h1c rfl ?_
      walk_at "f"
      refine g_ixT h2d rfl ?_
      refine g_mulI (mul_small (lt_pow_mono x2 (by decide)) (lt_pow_mono y2 (by decide))) ?_
      walk_at "f"
      have ez : ratD x.p * ratD y.p = (((dx x * dx y).natAbs : Nat) : Int) := (cast_abs (Int.mul_pos x3 y3)).symm
      rw [abs_if, ez]
      exact ⟨_, _, _, rfl, hs, dd_pos x3 y3, bits6 (natAbs_mul_lt x1 y1) (by decide), bits6 (natAbs_mul_lt x2 y2) (by decide), (q.later (s1.trans s2)).to⟩
/-! divided -/
abbrev s_divided : Stmt := top 29
theorem sc_divided : FnScope ["one", "other", "sign", "first", "second"] ["one", "other"] (defScope s_divided) := ⟨rfl, rfl, rfl, by decide +kernel, rfl, by decide +kernel, by decide +kernel⟩
def sp_divided (C : Addr) : Sp := fun vs H Q _ => ∃ v u x y, vs = [v, u] ∧ FA C H v x ∧ FA C H u y ∧ x.ok ∧ y.ok ∧ x.t ≠ .str "nan" ∧ y.t ≠ .str "nan" ∧ RetN C H (divL x y) Q
theorem nx_zero {x : FL} (h : x.ok) {n : Int} (e : x.t = .int n) (h0 : ¬ x.t = .int 0) : nx x ≠ 0 := by
  have hn : n ≠ 0 := fun z => h0 (by rw [e, z])
  have hs : x.s ≠ 0 := by rcases h.1 with z | z <;> rw [z] <;> decide
  unfold nx ratN
  rw [e]
  show (if x.p < 0 then x.s * n else x.s * (n * 2 ^ x.p.toNat)) ≠ 0
  have hp : (2 : Int) ^ x.p.toNat ≠ 0 := Int.ne_of_gt (Int.pow_pos (by decide))
  split
  · exact Int.mul_ne_zero hs hn
  · exact Int.mul_ne_zero hs (Int.mul_ne_zero hn hp)
theorem ok_divided {f : Addr} {fd : FuncData} (F : FunD K "divided" "divided" (defArgs s_divided) (defBody s_divided) (defScope s_divided) [] [] f fd) (B : Blt mg) (T : FlC K mg C) (c_Float : CnF P w K mg base C) (c_nan : CNan P w K mg base C) (c_infinity : CInf P w K mg base C) (c_ratio : CRat P w K mg base C) (c_nearest : CNear P w K mg base C) :
    FnOk P w K mg base CX0 6 f fd ["one", "other"] (sp_divided C) := by
  refine F.ok sc_divided (fun vs H Q E h => ?_) (fun cdv A outer s H vs Q E hr h => ?_)
  · obtain ⟨_, _, _, _, rfl, _⟩ := h; rfl
  · obtain ⟨_, _, x, y, rfl, ⟨a, rfl, ha⟩, ⟨b, rfl, hb⟩, ox, oy, nx1, ny1, q⟩ := h
    refine ⟨_, PSs.nox (pss_cons (ps_set (i := 2) sc_divided.nd rfl (Or.inl rfl) (pe_op op_oMul (pe_fld (pv 0) rfl) (pe_fld (pv 1) rfl)))
  (pss_cons (ps_if (pt_cmpR (op_oEq hr.units) (pe_fld (pv 0) rfl) pe_str (nomark _)) (pss_one (ps_ret (pe_ifExp (pt_cmpR (op_oEq hr.units) (pe_fld (pv 1) rfl) pe_str (nomark _)) (pe_fn0 c_nan (hr.mono (by decide)) pass0) (pe_fn c_infinity (hr.mono (by decide)) pass0 (pa_cons (pv 2) pa_nil))))) pss_nil)
  (pss_cons (ps_if (pt_cmpR (op_oEq hr.units) (pe_fld (pv 1) rfl) pe_str (nomark _)) (pss_one (ps_ret (pe_cn c_Float (hr.mono (by decide)) pass0 (pa_cons (pv 2) (pa_cons pe_int (pa_cons pe_int pa_nil)))))) pss_nil)
  (pss_cons (ps_if (pt_cmpR (op_oEq hr.units) (pe_fld (pv 1) rfl) pe_int (nomark _)) (pss_one (ps_ret (pe_ifExp (pt_cmpR (op_oEq hr.units) (pe_fld (pv 0) rfl) pe_int (nomark _)) (pe_fn0 c_nan (hr.mono (by decide)) pass0) (pe_fn c_infinity (hr.mono (by decide)) pass0 (pa_cons (pv 2) pa_nil))))) pss_nil)
  (pss_cons (ps_par (i := 3) (j := 4) rfl sc_divided.nd rfl rfl (by decide) rfl rfl (pa_cons (pe_mt0 c_ratio (hr.mono (by decide)) pass0 (pv 0)) (pa_cons (pe_mt0 c_ratio (hr.mono (by decide)) pass0 (pv 1)) pa_nil)) (by rfl))
  (pss_one (ps_ret (pe_fn c_nearest (hr.mono (by decide)) pass0 (pa_cons (pv 2) (pa_cons (pe_callB call_abs (by rfl) B.abs (by decide +kernel) (pa_cons (pe_op op_oMul (pe_ix ix_seq (pv 3) pe_int (fun _ _ => rfl)) (pe_ix ix_seq (pv 4) pe_int (fun _ _ => rfl))) pa_nil)) (pa_cons (pe_callB call_abs (by rfl) B.abs (by decide +kernel) (pa_cons (pe_op op_oMul (pe_ix ix_seq (pv 3) pe_int (fun _ _ => rfl)) (pe_ix ix_seq (pv 4) pe_int (fun _ _ => rfl))) pa_nil)) pa_nil))))))))))), ?_⟩
    unfold divL at q
    have hs := mul_sgn ox.1 oy.1
    walk_at "f"
    refine g_mulI (sgn_mul ox.1) ?_
    walk_at "f"
    refine g_eqV (ox.is.scal (.str _)) ?_
    walk_at "f"
    refine g_ite (fun h1 => ?_) fun h1 => ?_
    · walk_at "f"
      rw [if_pos h1] at q
      refine g_eqV (oy.is.scal (.str _)) ?_
      walk_at "f"
      refine g_ite (fun h2 => ?_) fun h2 => ?_
      · walk_at "f"
        rw [if_pos h2] at q
        exact ⟨rfl, q⟩
      · walk_at "f"
        rw [if_neg h2] at q
        exact inf_to hs q
    · rw [if_neg h1] at q
      walk_at "f"
      refine g_eqV (oy.is.scal (.str _)) ?_
      walk_at "f"
      refine g_ite (fun h2 => ?_) fun h2 => ?_
      · rw [if_pos h2] at q
        walk_at "f"
        exact mkN (zero_mk hs) q
      · rw [if_neg h2] at q
        walk_at "f"
        refine g_eqV (oy.is.scal (.int _)) ?_
        walk_at "f"
        refine g_ite (fun h3 => ?_) fun h3 => ?_
        · rw [if_pos h3] at q
          walk_at "f"
          refine g_eqV (ox.is.scal (.int _)) ?_
          walk_at "f"
          refine g_ite (fun h4 => ?_) fun h4 => ?_
          · walk_at "f"
            rw [if_pos h4] at q
            exact ⟨rfl, q⟩
          · walk_at "f"
            rw [if_neg h4] at q
            exact inf_to hs q
        · rw [if_neg h3] at q
          obtain ⟨n, en, fn⟩ := ox.fin nx1 h1
          obtain ⟨m, em, fm⟩ := oy.fin ny1 h2
          obtain ⟨x1, x2, x3⟩ := ox.small en
          obtain ⟨y1, y2, y3⟩ := oy.small em
          have y4 := nx_zero oy em h3
          rw [en] at ha
          rw [em] at hb
          have ox' : FlOk x.s (.int n) x.p := en ▸ ox
          have oy' : FlOk y.s (.int m) y.p := em ▸ oy
          have enx : ratN x.s n x.p = nx x := by unfold nx; rw [en]; rfl
          have eny : ratN y.s m y.p = nx y := by unfold nx; rw [em]; rfl
          walk_at "f"
          refine g_rat ha ox' fun H1 c n1 s1 h1c => ?_
          rw [enx] at h1c
          walk_at "f"
          refine g_rat (hb.same s1) oy' fun H2 d n2 s2 h2d => ?_
          rw [eny] at h2d
          have h1c := s2 _ _ h1c
          walk_at "f"
          refine g_ixT h1c rfl ?_
          walk_at "f"
          refine g_ixT h2d rfl ?_
          refine g_mulI (mul_small (lt_pow_mono x1 (by decide)) (lt_pow_mono y2 (by decide))) ?_
          walk_at "f"
          refine g_ixT h1c rfl ?_
          walk_at "f"
          refine g_ixT h2d rfl ?_
          refine g_mulI (mul_small (lt_pow_mono x2 (by decide)) (lt_pow_mono y1 (by decide))) ?_
          walk_at "f"
          rw [abs_if, abs_if]
          refine ⟨_, _, _, rfl, hs, ?_, bits6 (natAbs_mul_lt x1 y2) (by decide), bits6 (natAbs_mul_lt x2 y1) (by decide), (q.later (s1.trans s2)).to⟩
          have : ratD x.p * nx y ≠ 0 := Int.mul_ne_zero (Int.ne_of_gt x3) y4
          omega
/-! made with the other sign -/
theorem neg_sgn {s : Int} (hs : s = 1 ∨ s = -1) : 0 - s = 1 ∨ 0 - s = -1 := by rcases hs with rfl | rfl <;> simp
theorem neg_mk {x : FL} (h : x.ok) (h1 : x.t ≠ .str "nan") : MkOk (0 - x.s) x.t x.p ∧ mkL (0 - x.s) (x.t, x.p) = negL x := by
  have h' : FlOk x.s x.t x.p := h
  refine ⟨?_, ?_⟩
  · have hs := neg_sgn h'.1
    rcases h'.2 with ⟨e, _⟩ | ⟨e, e2⟩ | ⟨n, e, f1, f2, f3, f4, f5⟩
    · exact absurd e h1
    · exact ⟨hs, .inr (.inl ⟨e, e2⟩)⟩
    · obtain ⟨k, rfl⟩ := Int.eq_ofNat_of_zero_le f1
      rw [intBits_nat] at f4
      rw [e]
      exact mk_of_flok hs (by omega) f3 f4
  · unfold mkL negL
    rw [red_again h']
theorem neg_ok {x : FL} (h : x.ok) (h1 : x.t ≠ .str "nan") : (negL x).ok := by
  obtain ⟨a, b⟩ := neg_mk h h1
  rw [← b]
  exact mkL_ok a
def toL : Nm → FL
  | .i k => nearL (tfS k) k.natAbs 1
  | .f s t p => ⟨s, t, p⟩
def nBig : Nm → Prop
  | .i k => bigOk k
  | .f _ _ _ => True
theorem NumAt.tok {H : Hp} {v : V} : ∀ {n : Nm}, NumAt C H v n → (toL n).ok
  | .i k, _ => near_ok (tfS_sgn k) (by decide)
  | .f _ _ _, ⟨_, _, _, h⟩ => h
theorem g_tofl {H : Hp} {v : V} {Q : VK} {E : XK} : ∀ {n : Nm}, NumAt C H v n → nBig n → RetN C H (toL n) Q → sp_tofloat C ([v] ++ []) H Q E
  | .i k, h, b, q => ⟨v, .i k, rfl, h, b, q.to⟩
  | .f s t p, h, _, q => ⟨v, .f s t p, rfl, h, by
    obtain ⟨a, e, h, _⟩ := h
    exact q _ _ (Same.refl _) ⟨a, e, h⟩⟩
end
end Up

set_option Elab.async false
set_option linter.all false
set_option maxRecDepth 100000
set_option maxHeartbeats 4000000
set_option exponentiation.threshold 200000
namespace Up
open PySem PySem.Spec PyProof.Rows L2
/-! ### a fraction that is a float is met exactly; fractions over powers of two -/
def mgn (n : Nat) (p : Int) : Nat := if p < 0 then n else n * 2 ^ p.toNat
def dn (p : Int) : Nat := if p < 0 then 2 ^ (0 - p).toNat else 1
theorem dn_pos (p : Int) : 0 < dn p := by
  unfold dn; split
  · exact Nat.two_pow_pos _
  · decide
theorem dn_pow (p : Int) : ∃ i, dn p = 2 ^ i := by
  unfold dn; split
  · exact ⟨_, rfl⟩
  · exact ⟨0, rfl⟩
theorem mgn_sc (n : Nat) {p : Int} (h : -2000 ≤ p) : mgn n p * 2 ^ 2000 = n * scW p * dn p := by
  unfold mgn dn scW
  by_cases hp : p < 0
  · rw [if_pos hp, if_pos hp, Nat.mul_assoc, ← Nat.pow_add]
    congr 2
    omega
  · rw [if_neg hp, if_neg hp, Nat.mul_one, Nat.mul_assoc, ← Nat.pow_add]
    congr 2
    omega
theorem near_exact {s : Int} {t b k : Nat} {e : Int} (ht : 0 < t) (hb : 0 < b) (hk : k < 2 ^ 53) (he : -1074 ≤ e) (hf : (bitsN k : Int) + e ≤ 1024) (h : TT t = k * (scW e * b)) :
    ∃ (n : Nat) (p : Int), nearL s t b = ⟨s, .int (n : Nat), p⟩ ∧ 0 < n ∧ -1074 ≤ p ∧ mgn n p * b = t * dn p := by
  have hx := nr_exact ht hb hk he h
  have hT : 0 < TT t := Nat.mul_pos ht (Nat.two_pow_pos _)
  have h0 : nrW t b ≠ 0 := by
    intro z
    rw [z, Nat.zero_mul] at hx
    omega
  have hk0 : k ≠ 0 := by
    intro z
    rw [z, Nat.zero_mul] at h
    omega
  have hlo := nrP2_lo t b
  have hE : nrW t b * scW (nrP2 t b) = k * scW e := by
    have : nrW t b * scW (nrP2 t b) * b = k * scW e * b := by rw [Nat.mul_assoc, Nat.mul_assoc, hx, h]
    exact Nat.eq_of_mul_eq_mul_right hb this
  have hB : bitsN (nrW t b) + (nrP2 t b + 2000).toNat = bitsN k + (e + 2000).toNat := by
    have e1 := bits_mul_pow h0 (nrP2 t b + 2000).toNat
    have e2 := bits_mul_pow hk0 (e + 2000).toNat
    rw [← e1, ← e2]
    exact congrArg bitsN hE
  obtain ⟨_, i2, i3, i4⟩ := land_pred _ h0
  have sc : scW (nrP2 t b + (tz (nrW t b) : Int)) = 2 ^ tz (nrW t b) * scW (nrP2 t b) := by
    unfold scW
    rw [← Nat.pow_add]
    congr 1
    omega
  have val : nrW t b / 2 ^ tz (nrW t b) * scW (nrP2 t b + (tz (nrW t b) : Int)) * b = TT t := by
    rw [sc, ← Nat.mul_assoc, i4, Nat.mul_assoc, hx]
  unfold nearL nearV
  rw [if_neg (by omega), if_neg (by omega)]
  unfold mkL
  rw [red_nat h0]
  refine ⟨_, _, rfl, ?_, by omega, ?_⟩
  · rcases Nat.eq_zero_or_pos (nrW t b / 2 ^ tz (nrW t b)) with z | z
    · rw [z] at i3
      omega
    · exact z
  · generalize nrW t b / 2 ^ tz (nrW t b) = n at *
    generalize hq : nrP2 t b + (tz (nrW t b) : Int) = p at *
    have m := mgn_sc n (p := p) (by omega)
    have : mgn n p * b * 2 ^ 2000 = t * dn p * 2 ^ 2000 := by
      rw [Nat.mul_right_comm, m, Nat.mul_right_comm, val]
      unfold TT
      rw [Nat.mul_right_comm]
    exact Nat.eq_of_mul_eq_mul_right (Nat.two_pow_pos _) this
theorem near_scale {s : Int} {t b : Nat} (hb : 0 < b) (k : Nat) : nearL s (t * 2 ^ k) (b * 2 ^ k) = nearL s t b := by
  rcases Nat.eq_zero_or_pos t with h0 | ht
  · subst h0
    rw [Nat.zero_mul]; rfl
  · have p2 := Nat.two_pow_pos k
    have ht2 : t * 2 ^ k ≠ 0 := Nat.ne_of_gt (Nat.mul_pos ht p2)
    unfold nearL nearV
    rw [if_neg ht2, if_neg (by omega : ¬ t = 0), nrW_scale ht hb, nrP2_scale ht hb]
theorem near_ratio {s : Int} {t b t' b' i j : Nat} (hb : b = 2 ^ i) (hb' : b' = 2 ^ j) (h : t * b' = t' * b) : nearL s t b = nearL s t' b' := by
  rcases Nat.le_total i j with hij | hij
  · obtain ⟨d, rfl⟩ := Nat.exists_eq_add_of_le hij
    subst hb hb'
    have e : t' = t * 2 ^ d := by
      rw [Nat.pow_add, ← Nat.mul_assoc, Nat.mul_right_comm] at h
      exact (Nat.eq_of_mul_eq_mul_right (Nat.two_pow_pos _) h).symm
    rw [e, Nat.pow_add, near_scale (Nat.two_pow_pos _)]
  · obtain ⟨d, rfl⟩ := Nat.exists_eq_add_of_le hij
    subst hb hb'
    have e : t = t' * 2 ^ d := by
      rw [Nat.pow_add, ← Nat.mul_assoc, Nat.mul_right_comm] at h
      exact Nat.eq_of_mul_eq_mul_right (Nat.two_pow_pos _) h
    rw [e, Nat.pow_add, near_scale (Nat.two_pow_pos _)]
/-- what is left of a float is a float -/
theorem rest_exact {a c : Nat} {px py : Int} (ha : a < 2 ^ 53) (hc : c < 2 ^ 53) (c0 : 0 < c) (hx : -1074 ≤ px) (hy : -1074 ≤ py) (hb : (bitsN a : Int) + px ≤ 1024) :
    ∃ (k : Nat) (e : Int), k < 2 ^ 53 ∧ -1074 ≤ e ∧ (k ≠ 0 → (bitsN k : Int) + e ≤ 1024) ∧ TT (mgn a px * dn py % (mgn c py * dn px)) = k * (scW e * (dn px * dn py)) := by
  obtain ⟨e, he, i, j, hi, hj, h0⟩ : ∃ (e : Int), -1074 ≤ e ∧ ∃ i j : Nat, px = e + i ∧ py = e + j ∧ (i = 0 ∨ j = 0) := by
    rcases Int.le_total px py with h | h
    · exact ⟨px, hx, 0, (py - px).toNat, by omega, by omega, .inl rfl⟩
    · exact ⟨py, hy, (px - py).toNat, 0, by omega, by omega, .inr rfl⟩
  have s1 : scW px = 2 ^ i * scW e := by
    unfold scW
    rw [← Nat.pow_add]
    congr 1
    omega
  have s2 : scW py = 2 ^ j * scW e := by
    unfold scW
    rw [← Nat.pow_add]
    congr 1
    omega
  refine ⟨(a * 2 ^ i) % (c * 2 ^ j), e, ?_, he, fun hk => ?_, ?_⟩
  · rcases h0 with z | z
    · rw [z, Nat.pow_zero, Nat.mul_one]
      exact Nat.lt_of_le_of_lt (Nat.mod_le _ _) ha
    · rw [z, Nat.pow_zero, Nat.mul_one]
      exact Nat.lt_trans (Nat.mod_lt _ c0) hc
  · have a0 : a ≠ 0 := by
      intro z
      rw [z, Nat.zero_mul, Nat.zero_mod] at hk
      exact hk rfl
    have h1 : bitsN ((a * 2 ^ i) % (c * 2 ^ j)) ≤ bitsN a + i := bits_le (by
      refine Nat.lt_of_le_of_lt (Nat.mod_le _ _) ?_
      rw [Nat.pow_add]
      exact Nat.mul_lt_mul_of_pos_right (bits_lt a) (Nat.two_pow_pos _))
    omega
  · unfold TT
    rw [← Nat.mul_mod_mul_right]
    have m1 : mgn a px * dn py * 2 ^ 2000 = a * 2 ^ i * (scW e * (dn px * dn py)) := by
      rw [Nat.mul_right_comm, mgn_sc a (by omega), s1]
      simp only [Nat.mul_assoc, Nat.mul_comm, Nat.mul_left_comm]
    have m2 : mgn c py * dn px * 2 ^ 2000 = c * 2 ^ j * (scW e * (dn px * dn py)) := by
      rw [Nat.mul_right_comm, mgn_sc c (by omega), s2]
      simp only [Nat.mul_assoc, Nat.mul_comm, Nat.mul_left_comm]
    rw [m1, m2, Nat.mul_mod_mul_right]
end Up

set_option Elab.async false
set_option linter.all false
set_option pp.maxSteps 600
set_option maxRecDepth 100000
set_option maxHeartbeats 4000000
set_option exponentiation.threshold 200000
namespace Up
open PySem PySem.Spec PyProof.Rows L2
local macro_rules | `(tactic| walk_at "u") => `(tactic| first
  | with_reducible refine g_seq ?_
  | with_reducible refine g_asg ?_
  | with_reducible refine g_op ?_
  | ((with_reducible show tVar _ _ _ _); apply g_var; exact rfl)
  | with_reducible refine g_c ?_
  | with_reducible refine g_name ?_
  | with_reducible refine g_ifs ?_
  | with_reducible refine g_tt ?_
  | with_reducible refine g_tB ?_
  | with_reducible refine g_bl ?_
  | with_reducible refine g_ret ?_
  | with_reducible refine g_cb ?_
  | with_reducible refine g_cons ?_
  | with_reducible refine g_nil ?_
  | with_reducible refine g_call ?_
  | with_reducible refine g_and ?_
  | with_reducible refine g_or ?_
  | with_reducible refine g_not ?_
  | with_reducible refine g_andV ?_
  | with_reducible refine g_orV ?_
  | with_reducible refine g_notV ?_
  | with_reducible refine g_if ?_
  | with_reducible refine g_un ?_
  | with_reducible refine g_neg ?_
  | with_reducible refine g_addI ?_
  | with_reducible refine g_subI ?_
  | with_reducible refine g_subB ?_
  | with_reducible refine g_I0 ?_
  | with_reducible refine g_cmpI ?_
  | with_reducible refine g_eqI ?_
  | with_reducible refine g_neI ?_
  | with_reducible refine g_eqS ?_
  | with_reducible refine g_neS ?_
  | with_reducible refine g_eqB ?_
  | with_reducible refine g_neB ?_
  | with_reducible refine g_bits ?_
  | with_reducible refine g_bitsI ?_
  | with_reducible refine g_fld ?_
  | with_reducible refine g_tup ?_
  | with_reducible refine g_lst ?_
  | with_reducible refine g_gtup ?_
  | with_reducible refine g_make ?_
  | with_reducible refine g_lc ?_
  | with_reducible refine g_yesT ?_
  | with_reducible refine g_intI ?_
  | with_reducible refine g_intB ?_
  | with_reducible refine g_max2 ?_
  | with_reducible refine g_abs1 ?_
  | with_reducible refine g_for ?_
  | with_reducible refine g_iList ?_
  | with_reducible refine g_iTup ?_
  | with_reducible refine g_iRng1 ?_
  | with_reducible refine g_iEnum ?_
  | with_reducible refine g_slice ?_
  | with_reducible refine g_po0 ?_
  | with_reducible refine g_po1 ?_
  | with_reducible refine g_gsub ?_
  | with_reducible refine g_par ?_
  | with_reducible refine g_par2 ?_
  | with_reducible refine g_rfl ?_
  | with_reducible refine g_meth ?_
  | with_reducible refine g_gcons ?_
  | with_reducible refine g_gnil ?_
  | with_reducible refine g_gfld ?_
  | with_reducible refine g_sfld ?_
  | with_reducible refine g_drop ?_
  | with_reducible refine g_next ?_
  | with_reducible refine iteT ?_
  | with_reducible refine iteF ?_)
local macro_rules | `(tactic| walk_at "go") => `(tactic| (repeat walk_at "u"))
local macro_rules | `(tactic| walk_at "f") => `(tactic| (repeat (first
  | walk_at "u"
  | with_reducible refine g_chain ?_
  | with_reducible refine g_par3 ?_
  | with_reducible refine g_par3' ?_
  | ((with_reducible refine show_ex ?_); first
    | refine fT (by assumption) (by assumption) ?_
    | refine fS (by assumption) (by assumption) ?_
    | refine fP (by assumption) (by assumption) ?_))))

section
variable {P : Program} {w : World} {K : PySem.W.Frag} {mg : Str → Option Value} {base : Heap} {C : Addr}
/-! wrapped -/
abbrev s_wrapped : Stmt := top 20
theorem sc_wrapped : FnScope ["number"] ["number"] (defScope s_wrapped) := ⟨rfl, rfl, rfl, by decide +kernel, rfl, by decide +kernel, by decide +kernel⟩
def wrapI (n : Int) : Int := (n + 9223372036854775808).fmod 18446744073709551616 - 9223372036854775808
def sp_wrapped : Sp := fun vs H Q _ => ∃ n, vs = [.int n] ∧ Q (.int (wrapI n)) H
theorem ok_wrapped {f : Addr} {fd : FuncData} (F : FunD K "wrapped" "wrapped" (defArgs s_wrapped) (defBody s_wrapped) (defScope s_wrapped) [] [] f fd) : FnOk P w K mg base CX0 1 f fd ["number"] sp_wrapped := by
  refine F.ok sc_wrapped (fun vs H Q E h => ?_) (fun cdv A outer s H vs Q E hr h => ?_)
  · obtain ⟨_, rfl, _⟩ := h; rfl
  · obtain ⟨n, rfl, q⟩ := h
    refine ⟨_, PSs.nox (pss_one (ps_ret (pe_op op_oSub (pe_op op_oMod (pe_op op_oAdd (pv 0) (pe_op op_oPow pe_int pe_int)) (pe_op op_oPow pe_int pe_int)) (pe_op op_oPow pe_int pe_int)))), ?_⟩
    have e63 : (2 : Int) ^ Int.toNat 63 = 9223372036854775808 := by decide
    have e64 : (2 : Int) ^ Int.toNat 64 = 18446744073709551616 := by decide
    walk_at "f"
    refine g_II ⟨by decide, by decide, by decide⟩ ?_
    rw [e63]
    walk_at "f"
    refine g_II ⟨by decide, by decide, by decide⟩ ?_
    rw [e64]
    refine g_modI (by decide) ?_
    walk_at "f"
    refine g_II ⟨by decide, by decide, by decide⟩ ?_
    rw [e63]
    walk_at "f"
    exact q
/-! floored -/
abbrev s_floored : Stmt := top 30
theorem sc_floored : FnScope ["number", "top", "bottom", "whole"] ["number"] (defScope s_floored) := ⟨rfl, rfl, rfl, by decide +kernel, rfl, by decide +kernel, by decide +kernel⟩
def flrI (x : FL) : Int := (nx x).fdiv (dx x)
def floorL (x : FL) : FL := if (x.t = .str "inf" ∨ x.t = .str "nan") ∨ 0 ≤ x.p then x else nearL (tfS (flrI x)) (flrI x).natAbs 1
def sp_floored (C : Addr) : Sp := fun vs H Q _ => ∃ v x, vs = [v] ∧ FA C H v x ∧ x.ok ∧ RetN C H (floorL x) Q
theorem fdiv_small {x d : Int} {a : Nat} (hx : x.natAbs < 2 ^ a) (hd : 0 < d) : (x.fdiv d).natAbs < 2 ^ (a + 1) := by
  rw [Int.fdiv_eq_ediv_of_nonneg _ (by omega), Nat.pow_succ]
  rcases Int.lt_or_le x 0 with h | h
  · have h1 : -(2 ^ a : Nat) ≤ x / d := by
      rw [Int.le_ediv_iff_mul_le hd]
      have : ((2 ^ a : Nat) : Int) * 1 ≤ ((2 ^ a : Nat) : Int) * d := Int.mul_le_mul_of_nonneg_left (by omega) (by omega)
      have e : -((2 ^ a : Nat) : Int) * d = -(((2 ^ a : Nat) : Int) * d) := Int.neg_mul _ _
      omega
    have h2 : x / d < 0 := Int.ediv_neg_of_neg_of_pos h hd
    omega
  · have h1 : x / d ≤ x := Int.ediv_le_self _ h
    have h2 : 0 ≤ x / d := Int.ediv_nonneg h (by omega)
    omega
theorem ok_floored {f : Addr} {fd : FuncData} (F : FunD K "floored" "floored" (defArgs s_floored) (defBody s_floored) (defScope s_floored) [] [] f fd) (B : Blt mg) (T : FlC K mg C) (c_ratio : CRat P w K mg base C) (c_nearest : CNear P w K mg base C) (c_signof : CSign P w K mg base) : FnOk P w K mg base CX0 6 f fd ["number"] (sp_floored C) := by
  refine F.ok sc_floored (fun vs H Q E h => ?_) (fun cdv A outer s H vs Q E hr h => ?_)
  · obtain ⟨_, _, rfl, _⟩ := h; rfl
  · obtain ⟨_, x, rfl, ⟨a, rfl, ha⟩, ox, q⟩ := h
    refine ⟨_, PSs.nox (pss_cons (ps_if (pt_cut (PW.pt (pw_or (pt_cmpR op_in_seq (pe_fld (pv 0) rfl) (pe_tupN (pa_cons pe_str (pa_cons pe_str pa_nil))) (by rfl)) (pw_or1 (pt_cmpR op_oGe (pe_fld (pv 0) rfl) pe_int (nomark _)))))) (pss_one (ps_ret (pv 0))) pss_nil)
  (pss_cons (ps_asg (pe_mt0 c_ratio (hr.mono (by decide)) pass0 (pv 0)) (pg_tup rfl (pgs_cons (pg_name (i := 1) sc_floored.nd rfl (Or.inl rfl)) (pgs_cons (pg_name (i := 2) sc_floored.nd rfl (Or.inl rfl)) pgs_nil))))
  (pss_cons (ps_set (i := 3) sc_floored.nd rfl (Or.inl rfl) (pe_op op_oDiv (pv 1) (pv 2)))
  (pss_one (ps_ret (pe_fn c_nearest (hr.mono (by decide)) pass0 (pa_cons (pe_fn c_signof (hr.mono (by decide)) pass0 (pa_cons (pe_cmpR op_oLt (pv 3) pe_int (nomark _)) pa_nil)) (pa_cons (pe_callB call_abs (by rfl) B.abs (by decide +kernel) (pa_cons (pv 3) pa_nil)) (pa_cons pe_int pa_nil))))))))), ?_⟩
    unfold floorL at q
    walk_at "f"
    refine g_cutT (fun c H' => c = decide ((x.t = .str "inf" ∨ x.t = .str "nan") ∨ 0 ≤ x.p) ∧ Same H H') ?_ ?_
    · walk_at "f"
      refine g_new (sz rfl) fun k H1 n1 s1 h1 _ => ?_
      refine g_in2 h1 ox.is (.str _) (.str _) ?_
      have ha := ha.same s1
      walk_at "f"
      refine g_ite (fun h2 => ?_) fun h2 => ?_
      · exact ⟨(decide_eq_true (.inl (h2.imp Eq.symm Eq.symm))).symm, s1⟩
      · walk_at "f"
        refine ⟨?_, s1⟩
        have h2' : ¬ (x.t = .str "inf" ∨ x.t = .str "nan") := fun z => h2 (z.imp Eq.symm Eq.symm)
        by_cases h3 : 0 ≤ x.p
        · rw [decide_eq_true h3, decide_eq_true (.inr h3)]
        · rw [decide_eq_false h3, decide_eq_false (fun z => z.elim h2' h3)]
    · rintro _ H1 ⟨rfl, s1⟩
      have ha := ha.same s1
      refine g_ite (fun h2 => ?_) fun h2 => ?_
      · rw [if_pos h2] at q
        walk_at "f"
        exact q _ _ s1 ⟨a, rfl, ha⟩
      · rw [if_neg h2] at q
        obtain ⟨n, en, fn⟩ := ox.fin (fun z => h2 (.inl (.inr z))) fun z => h2 (.inl (.inl z))
        obtain ⟨x1, x2, x3⟩ := ox.small en
        rw [en] at ha
        have ox' : FlOk x.s (.int n) x.p := en ▸ ox
        have enx : ratN x.s n x.p = nx x := by unfold nx; rw [en]; rfl
        walk_at "f"
        refine g_rat ha ox' fun H2 c n2 s2 h2c => ?_
        rw [enx] at h2c
        walk_at "f"
        refine ⟨c, _, rfl, SqT.of h2c, rfl, ?_⟩
        walk_at "f"
        refine g_divI (Int.ne_of_gt x3) (Nat.lt_trans (log2_lt x2 (by decide)) (by decide)) ?_
        walk_at "f"
        refine ⟨_, rfl, ?_⟩
        walk_at "f"
        have es : sgnB (decide ((nx x).fdiv (ratD x.p) < 0)) = tfS (flrI x) := by unfold sgnB tfS flrI dx; by_cases h : (nx x).fdiv (ratD x.p) < 0 <;> simp [h]
        rw [es, abs_if]
        exact ⟨_, _, 1, rfl, tfS_sgn _, by decide, bits6 (fdiv_small x1 x3) (by decide), by decide, (q.later (s1.trans s2)).to⟩
/-! remainder -/
abbrev s_remainder : Stmt := top 31
theorem sc_remainder : FnScope ["one", "other", "left", "first", "second", "rest"] ["one", "other"] (defScope s_remainder) := ⟨rfl, rfl, rfl, by decide +kernel, rfl, by decide +kernel, by decide +kernel⟩
def restN (x y : FL) : Nat := (nx x * dx y).natAbs % (nx y * dx x).natAbs
def leftL (x y : FL) : FL := if y.t = .str "inf" then x else nearL x.s (restN x y) (dx x * dx y).natAbs
def modL (x y : FL) : FL := if x.t = .str "inf" ∨ y.t = .int 0 then nanL else if (leftL x y).t ≠ .int 0 ∧ (leftL x y).s ≠ y.s then addL (leftL x y) y else leftL x y
theorem red_int (n p : Int) : ∃ m, (redV (.int n) p).1 = .int m := by
  by_cases h : n = 0
  · subst h
    exact ⟨0, rfl⟩
  · have e : redV (.int n) p = (.int (n / 2 ^ (lowB n).toNat), p + lowB n) := if_neg h
    rw [e]
    exact ⟨_, rfl⟩
theorem left_ok {x y : FL} (ox : x.ok) (oy : y.ok) (hx1 : x.t ≠ .str "nan") (hx : x.t ≠ .str "inf") (hy1 : y.t ≠ .str "nan") : (leftL x y).ok ∧ (leftL x y).t ≠ .str "nan" := by
  unfold leftL
  by_cases h : y.t = .str "inf"
  · rw [if_pos h]; exact ⟨ox, hx1⟩
  · rw [if_neg h]
    obtain ⟨n, en, _⟩ := ox.fin hx1 hx
    obtain ⟨m, em, _⟩ := oy.fin hy1 h
    obtain ⟨_, _, x3⟩ := ox.small en
    obtain ⟨_, _, y3⟩ := oy.small em
    refine ⟨near_ok ox.1 (dd_pos x3 y3), ?_⟩
    unfold nearL nearV
    split
    · show (redV (.int 0) 0).1 ≠ _
      exact fun z => by cases z
    · split
      · exact fun z => by
          have z : V.str "inf" = V.str "nan" := z
          injection z with z
          exact inf_nan z
      · obtain ⟨m, em⟩ := red_int (nrW (restN x y) (dx x * dx y).natAbs : Int) (nrP2 (restN x y) (dx x * dx y).natAbs)
        unfold mkL
        show (redV (.int (nrW (restN x y) (dx x * dx y).natAbs : Int)) (nrP2 (restN x y) (dx x * dx y).natAbs)).1 ≠ _
        rw [em]
        exact fun z => by cases z
def sp_remainder (C : Addr) : Sp := fun vs H Q _ => ∃ v u x y, vs = [v, u] ∧ FA C H v x ∧ FA C H u y ∧ x.ok ∧ y.ok ∧ x.t ≠ .str "nan" ∧ y.t ≠ .str "nan" ∧ RetN C H (modL x y) Q
theorem fmod_nat (a b : Nat) : ((a : Nat) : Int).fmod ((b : Nat) : Int) = ((a % b : Nat) : Int) := by
  rw [Int.fmod_eq_emod_of_nonneg _ (by omega)]
  rfl
theorem ok_remainder {f : Addr} {fd : FuncData} (F : FunD K "remainder" "remainder" (defArgs s_remainder) (defBody s_remainder) (defScope s_remainder) [] [] f fd) (B : Blt mg) (T : FlC K mg C) (c_nan : CNan P w K mg base C) (c_ratio : CRat P w K mg base C) (c_nearest : CNear P w K mg base C) (c_added : Fn P w K mg base CX0 6 "added" ["one", "other"] [] (sp_added C)) :
    FnOk P w K mg base CX0 7 f fd ["one", "other"] (sp_remainder C) := by
  refine F.ok sc_remainder (fun vs H Q E h => ?_) (fun cdv A outer s H vs Q E hr h => ?_)
  · obtain ⟨_, _, _, _, rfl, _⟩ := h; rfl
  · obtain ⟨_, _, x, y, rfl, ⟨a, rfl, ha⟩, ⟨b, rfl, hb⟩, ox, oy, nx1, ny1, q⟩ := h
    refine ⟨_, PSs.nox (pss_cons (ps_if (pt_cut (PW.pt (pw_or (pt_cmpR (op_oEq hr.units) (pe_fld (pv 0) rfl) pe_str (nomark _)) (pw_or1 (pt_cmpR (op_oEq hr.units) (pe_fld (pv 1) rfl) pe_int (nomark _)))))) (pss_one (ps_ret (pe_fn0 c_nan (hr.mono (by decide)) pass0))) pss_nil)
  (pss_cons (ps_set (i := 2) sc_remainder.nd rfl (Or.inl rfl) (pv 0))
  (C8.pss_cut (ps_if (pt_cmpR (op_oNe hr.units) (pe_fld (pv 1) rfl) pe_str (nomark _)) (pss_cons (ps_par (i := 3) (j := 4) rfl sc_remainder.nd rfl rfl (by decide) rfl rfl (pa_cons (pe_mt0 c_ratio (hr.mono (by decide)) pass0 (pv 0)) (pa_cons (pe_mt0 c_ratio (hr.mono (by decide)) pass0 (pv 1)) pa_nil)) (by rfl))
  (pss_cons (ps_set (i := 5) sc_remainder.nd rfl (Or.inl rfl) (pe_op op_oMod (pe_callB call_abs (by rfl) B.abs (by decide +kernel) (pa_cons (pe_op op_oMul (pe_ix ix_seq (pv 3) pe_int (fun _ _ => rfl)) (pe_ix ix_seq (pv 4) pe_int (fun _ _ => rfl))) pa_nil)) (pe_callB call_abs (by rfl) B.abs (by decide +kernel) (pa_cons (pe_op op_oMul (pe_ix ix_seq (pv 4) pe_int (fun _ _ => rfl)) (pe_ix ix_seq (pv 3) pe_int (fun _ _ => rfl))) pa_nil))))
  (pss_one (ps_set (i := 2) sc_remainder.nd rfl (Or.inl rfl) (pe_fn c_nearest (hr.mono (by decide)) pass0 (pa_cons (pe_fld (pv 0) rfl) (pa_cons (pv 5) (pa_cons (pe_op op_oMul (pe_ix ix_seq (pv 3) pe_int (fun _ _ => rfl)) (pe_ix ix_seq (pv 4) pe_int (fun _ _ => rfl))) pa_nil)))))))) pss_nil)
  (pss_cons (ps_if (pt_cut (PW.pt (pw_and (pt_cmpR (op_oNe hr.units) (pe_fld (pv 2) rfl) pe_int (nomark _)) (pw_and1 (pt_cmpR (op_oNe hr.units) (pe_fld (pv 2) rfl) (pe_fld (pv 1) rfl) (nomark _)))))) (pss_one (ps_ret (pe_fn c_added (hr.mono (by decide)) pass0 (pa_cons (pv 2) (pa_cons (pv 1) pa_nil))))) pss_nil)
  (pss_one (ps_ret (pv 2))))))), ?_⟩
    unfold modL at q
    walk_at "f"
    refine g_cutT (fun c H' => c = decide (x.t = .str "inf" ∨ y.t = .int 0) ∧ H = H') ?_ ?_
    · walk_at "f"
      refine g_eqV (ox.is.scal (.str _)) ?_
      walk_at "f"
      refine g_ite (fun h1 => ?_) fun h1 => ?_
      · exact ⟨(decide_eq_true (.inl h1)).symm, rfl⟩
      · walk_at "f"
        refine g_eqV (oy.is.scal (.int _)) ?_
        walk_at "f"
        refine ⟨?_, rfl⟩
        by_cases h2 : y.t = .int 0
        · rw [decide_eq_true h2, decide_eq_true (.inr h2)]
        · rw [decide_eq_false h2, decide_eq_false (fun z => z.elim h1 h2)]
    · rintro _ _ ⟨rfl, rfl⟩
      refine g_ite (fun h => ?_) fun h => ?_
      · rw [if_pos h] at q
        walk_at "f"
        exact ⟨rfl, q⟩
      · rw [if_neg h] at q
        have hxi : x.t ≠ .str "inf" := fun z => h (.inl z)
        obtain ⟨lo, ln⟩ := left_ok ox oy nx1 hxi ny1
        walk_at "f"
        refine g_cut (fun σ' H2 => ∃ (l : Addr) (e3 e4 e5 : Option V), σ' = [some (.ref a), some (.ref b), some (.ref l), e3, e4, e5] ∧ Same H H2 ∧ FlAt C H2 l (leftL x y).s (leftL x y).t (leftL x y).p) ?_ ?_
        · walk_at "f"
          refine g_neV (oy.is.scal (.str _)) ?_
          walk_at "f"
          refine g_iten (fun h1 => ?_) fun h1 => ?_
          · obtain ⟨n, en, fn⟩ := ox.fin nx1 hxi
            obtain ⟨m, em, fm⟩ := oy.fin ny1 h1
            obtain ⟨x1, x2, x3⟩ := ox.small en
            obtain ⟨y1, y2, y3⟩ := oy.small em
            have y4 := nx_zero oy em fun z => h (.inr z)
            rw [en] at ha
            rw [em] at hb
            have ox' : FlOk x.s (.int n) x.p := en ▸ ox
            have oy' : FlOk y.s (.int m) y.p := em ▸ oy
            have enx : ratN x.s n x.p = nx x := by unfold nx; rw [en]; rfl
            have eny : ratN y.s m y.p = nx y := by unfold nx; rw [em]; rfl
            walk_at "f"
            refine g_rat ha ox' fun H1 c n1 s1 h1c => ?_
            rw [enx] at h1c
            walk_at "f"
            refine g_rat (hb.same s1) oy' fun H2 d n2 s2 h2d => ?_
            rw [eny] at h2d
            have h1c := s2 _ _ h1c
            have ha := (ha.same s1).same s2
            walk_at "f"
            refine g_ixT h1c rfl ?_
            walk_at "f"
            refine g_ixT h2d rfl ?_
            refine g_mulI (mul_small (lt_pow_mono x1 (by decide)) (lt_pow_mono y2 (by decide))) ?_
            walk_at "f"
            refine g_ixT h2d rfl ?_
            walk_at "f"
            refine g_ixT h1c rfl ?_
            refine g_mulI (mul_small (lt_pow_mono y1 (by decide)) (lt_pow_mono x2 (by decide))) ?_
            walk_at "f"
            rw [abs_if, abs_if]
            have hb0 : (nx y * ratD x.p).natAbs ≠ 0 := by
              have : nx y * ratD x.p ≠ 0 := Int.mul_ne_zero y4 (Int.ne_of_gt x3)
              omega
            refine g_modI (by omega) ?_
            rw [fmod_nat]
            walk_at "f"
            refine g_ixT h1c rfl ?_
            walk_at "f"
            refine g_ixT h2d rfl ?_
            refine g_mulI (mul_small (lt_pow_mono x2 (by decide)) (lt_pow_mono y2 (by decide))) ?_
            walk_at "f"
            have ez : ratD x.p * ratD y.p = (((dx x * dx y).natAbs : Nat) : Int) := (cast_abs (Int.mul_pos x3 y3)).symm
            rw [ez]
            refine ⟨_, _, _, rfl, ox.1, dd_pos x3 y3, ?_, bits6 (natAbs_mul_lt x2 y2) (by decide), fun H3 l n3 s3 hl => ?_⟩
            · exact bits6 (Nat.lt_trans (Nat.mod_lt _ (by omega)) (natAbs_mul_lt y1 x2)) (by decide)
            · walk_at "f"
              refine ⟨l, _, _, _, rfl, (s1.trans s2).trans s3, ?_⟩
              unfold leftL
              rw [if_neg h1]
              exact hl
          · walk_at "f"
            refine ⟨a, _, _, _, rfl, Same.refl _, ?_⟩
            unfold leftL
            rw [if_pos h1]
            exact ha
        · rintro _ H2 ⟨l, e3, e4, e5, rfl, s2, hl⟩
          have hb := hb.same s2
          have q := q.later s2
          walk_at "f"
          refine g_cutT (fun c H' => c = decide ((leftL x y).t ≠ .int 0 ∧ (leftL x y).s ≠ y.s) ∧ H2 = H') ?_ ?_
          · walk_at "f"
            refine g_neV (lo.is.scal (.int _)) ?_
            walk_at "f"
            refine g_iten (fun h1 => ?_) fun h1 => ?_
            · walk_at "f"
              refine ⟨?_, rfl⟩
              by_cases h2 : (leftL x y).s = y.s
              · rw [decide_eq_true h2, decide_eq_false (fun z => z.2 h2)]; rfl
              · rw [decide_eq_false h2, decide_eq_true ⟨h1, h2⟩]; rfl
            · exact ⟨(decide_eq_false (fun z => z.1 h1)).symm, rfl⟩
          · rintro _ _ ⟨rfl, rfl⟩
            refine g_ite (fun h3 => ?_) fun h3 => ?_
            · rw [if_pos h3] at q
              walk_at "f"
              exact ⟨_, _, leftL x y, y, rfl, ⟨l, rfl, hl⟩, ⟨b, rfl, hb⟩, lo, oy, ln, ny1, q⟩
            · rw [if_neg h3] at q
              walk_at "f"
              exact q _ _ (Same.refl _) ⟨l, rfl, hl⟩
end
end Up

set_option Elab.async false
set_option linter.all false
set_option pp.maxSteps 600
set_option maxRecDepth 100000
set_option maxHeartbeats 4000000
set_option exponentiation.threshold 200000
namespace Up
open PySem PySem.Spec PyProof.Rows L2
local macro_rules | `(tactic| walk_at "u") => `(tactic| first
  | with_reducible refine g_seq ?_
  | with_reducible refine g_asg ?_
  | with_reducible refine g_op ?_
  | ((with_reducible show tVar _ _ _ _); apply g_var; exact rfl)
  | with_reducible refine g_c ?_
  | with_reducible refine g_name ?_
  | with_reducible refine g_ifs ?_
  | with_reducible refine g_tt ?_
  | with_reducible refine g_tB ?_
  | with_reducible refine g_bl ?_
  | with_reducible refine g_ret ?_
  | with_reducible refine g_cb ?_
  | with_reducible refine g_cons ?_
  | with_reducible refine g_nil ?_
  | with_reducible refine g_call ?_
  | with_reducible refine g_and ?_
  | with_reducible refine g_or ?_
  | with_reducible refine g_not ?_
  | with_reducible refine g_andV ?_
  | with_reducible refine g_orV ?_
  | with_reducible refine g_notV ?_
  | with_reducible refine g_if ?_
  | with_reducible refine g_un ?_
  | with_reducible refine g_neg ?_
  | with_reducible refine g_addI ?_
  | with_reducible refine g_subI ?_
  | with_reducible refine g_subB ?_
  | with_reducible refine g_I0 ?_
  | with_reducible refine g_cmpI ?_
  | with_reducible refine g_eqI ?_
  | with_reducible refine g_neI ?_
  | with_reducible refine g_eqS ?_
  | with_reducible refine g_neS ?_
  | with_reducible refine g_eqB ?_
  | with_reducible refine g_neB ?_
  | with_reducible refine g_bits ?_
  | with_reducible refine g_bitsI ?_
  | with_reducible refine g_fld ?_
  | with_reducible refine g_tup ?_
  | with_reducible refine g_lst ?_
  | with_reducible refine g_gtup ?_
  | with_reducible refine g_make ?_
  | with_reducible refine g_lc ?_
  | with_reducible refine g_yesT ?_
  | with_reducible refine g_intI ?_
  | with_reducible refine g_intB ?_
  | with_reducible refine g_max2 ?_
  | with_reducible refine g_abs1 ?_
  | with_reducible refine g_for ?_
  | with_reducible refine g_iList ?_
  | with_reducible refine g_iTup ?_
  | with_reducible refine g_iRng1 ?_
  | with_reducible refine g_iEnum ?_
  | with_reducible refine g_slice ?_
  | with_reducible refine g_po0 ?_
  | with_reducible refine g_po1 ?_
  | with_reducible refine g_gsub ?_
  | with_reducible refine g_par ?_
  | with_reducible refine g_par2 ?_
  | with_reducible refine g_rfl ?_
  | with_reducible refine g_meth ?_
  | with_reducible refine g_gcons ?_
  | with_reducible refine g_gnil ?_
  | with_reducible refine g_gfld ?_
  | with_reducible refine g_sfld ?_
  | with_reducible refine g_drop ?_
  | with_reducible refine g_next ?_
  | with_reducible refine iteT ?_
  | with_reducible refine iteF ?_)
local macro_rules | `(tactic| walk_at "go") => `(tactic| (repeat walk_at "u"))
local macro_rules | `(tactic| walk_at "f") => `(tactic| (repeat (first
  | walk_at "u"
  | with_reducible refine g_chain ?_
  | with_reducible refine g_par3 ?_
  | with_reducible refine g_par3' ?_
  | ((with_reducible refine show_ex ?_); first
    | refine fT (by assumption) (by assumption) ?_
    | refine fS (by assumption) (by assumption) ?_
    | refine fP (by assumption) (by assumption) ?_))))

/-! ### what is thrown -/
section
variable {P : Program} {w : World} {K : PySem.W.Frag} {mg : Str → Option Value} {base : Heap} {C CT : Addr}
structure ThK (K : PySem.W.Frag) (mg : Str → Option Value) (C : Addr) : Prop where
  ax : AxC K C
  nV : PySem.W.findIn K (.ref C) "value" = some none
  nL : PySem.W.findIn K (.ref C) "level" = some none
  xf : XfC K C
  te : PySem.W.exmOne K (.ref C) (.ref C) = some true
  ae : mg "ArithmeticError" = none
  vV : PySem.W.findCls K (.type "ArithmeticError") (.type "type") "__init__" = some (.val (.builtin "ArithmeticError.__init__"))
  mg : mg "Thrown" = some (.ref C)
abbrev s_Thrown_init : Stmt := inClass (top 5) 0
theorem sc_Thrown_init : FnScope ["self", "value", "level"] ["self", "value", "level"] (defScope s_Thrown_init) := ⟨rfl, rfl, rfl, by decide +kernel, rfl, by decide +kernel, by decide +kernel⟩
abbrev thrF (v l : V) : List (Str × V) := [("level", l), ("value", v)]
def sp_Tinit (C : Addr) : Sp := fun vs H Q _ => ∃ (a : Addr) (v l : V), vs = [.ref a, v, l] ∧ H a = some (exo a C none) ∧ ∀ d H', H d = none → d ≠ a → H' a = some (exo a C (some d)) → H' d = some (exd d (thrF v l)) → (∀ b, b ≠ a → b ≠ d → H' b = H b) → Q .non H'
theorem ok_Tinit {f : Addr} {fd : FuncData} (F : FunD K "__init__" "Thrown.__init__" (defArgs s_Thrown_init) (defBody s_Thrown_init) (defScope s_Thrown_init) [.int 1] [] f fd) (T : ThK K mg CT) : FnOk P w K mg base CX0 1 f fd ["self", "value", "level"] (sp_Tinit CT) := by
  refine F.ok sc_Thrown_init (fun vs H Q E h => ?_) (fun cdv A outer s H vs Q E hr h => ?_)
  · obtain ⟨_, _, _, rfl, _⟩ := h; rfl
  · obtain ⟨a, v, l, rfl, ha, q⟩ := h
    refine ⟨_, PSs.nox (pss_cons (ps_expr (pe_axI T.ae T.vV (pa_cons (pv 0) (pa_cons (pv 1) pa_nil)))) (pss_cons (ps_axS (pv 0) (pv 1)) (pss_one (ps_axS (pv 0) (pv 2))))), ?_⟩
    refine g_seq (g_drop ?_)
    refine ⟨_, rfl, _, rfl, a, CT, [v], rfl, by simp, T.ax, ha, ?_⟩
    refine g_seq ?_
    refine ⟨_, rfl, _, rfl, a, CT, rfl, T.ax, T.nV, .inl ⟨ha, fun d H1 nd ne h1 h2 kp => ?_⟩⟩
    refine ⟨_, rfl, _, rfl, a, CT, rfl, T.ax, T.nL, .inr ⟨d, _, h1, h2, by simp, fun H2 h3 kp2 => ?_⟩⟩
    exact q d H2 nd ne ((kp2 a (Ne.symm ne)).trans h1) h3 fun b b1 b2 => (kp2 b b2).trans (kp b b1 b2)
def CThr (P : Program) (w : World) (K : PySem.W.Frag) (mg : Str → Option Value) (base : Heap) (C : Addr) : Prop := ThK K mg C ∧ ∃ fI fd ds, PySem.W.findIn K (.ref C) "__init__" = some (some (.ref fI)) ∧ PySem.W.typeIn K (.ref fI) = some (.type "function") ∧
  FnOk P w K mg base CX0 1 fI fd ["self", "value", "level"] (sp_Tinit C) ∧ Binds K fd ["self", "value", "level"] ds ∧ Vals [.int 1] ds
/-! raise, made of a reading -/
def tRai (t : L2.St → Hp → XK → Prop) (W : WX) : TS := fun _ σ H => t σ H fun cls d H' => W cls d σ H'
theorem g_rai {t : L2.St → Hp → XK → Prop} {W : WX} {D : Ends} {σ : L2.St} {H : Hp} (h : t σ H fun cls d H' => W cls d σ H') : tRai t W D σ H := h
def MkOR (C : Addr) (sp : Sp) (dvs : List V) (Q : XK) (vs : List V) (H1 : Hp) : Prop := vs.length ≤ 1000 ∧ ∀ a, H1 a = none → sp (.ref a :: (vs ++ dvs)) (upd H1 a (exo a C none))
  (fun v H2 => v = .non ∧ ∃ (d : Addr) (fs : List (Str × V)), H2 a = some (exo a C (some d)) ∧ H2 d = some (exd d fs) ∧ H1 d = none ∧ Q (.ref C) (some d) (upd (del H2 a) d (.xd fs))) (fun _ _ _ => False)
theorem g_mko {sp : Sp} {dvs : List V} {ta : TA} {σ : L2.St} {H : Hp} {Q : XK} (h : ta σ H fun vs H1 => MkOR C sp dvs Q vs H1) : tMkO C sp dvs ta σ H Q := h
def ThrR (C : Addr) (v : V) (H : Hp) (E : XK) : Prop := ∀ d H', Same H H' → H' d = some (.xd (thrF v (.int 1))) → E (.ref C) (some d) H'
theorem ThrR.later {v : V} {H H1 : Hp} {E : XK} (q : ThrR C v H E) (s : Same H H1) : ThrR C v H1 E := fun d H' s' h => q d H' (s.trans s') h
theorem g_thr {v : V} {H : Hp} {Q : XK} (q : ThrR C v H Q) : MkOR C (sp_Tinit C) [.int 1] Q [v] H := by
  refine ⟨by simp, fun a na => ?_⟩
  refine ⟨a, v, .int 1, rfl, upd_same, fun d H' nd dne ha hd kp => ⟨rfl, d, _, ha, hd, ?_, q d _ (fun b o e => ?_) upd_same⟩⟩
  · rw [upd_ne dne] at nd
    exact nd
  · rw [upd_ne dne] at nd
    have b1 := ne_of_none e na
    have b2 := ne_of_none e nd
    rw [upd_ne b2, del_ne b1, kp b b1 b2, upd_ne b1]
    exact e
theorem ps_thr {X : Cx} {W : WX} {e : Expr} {te : TE} {p pos pos2 : Pos} (T : CThr X.prog X.w X.K X.mg X.base C) (hr : Room 2 X.A) (hc : X.calm = true) (tk : Takes X W) (he : PE X e te) (hg : Gl X "Thrown" := by rfl)
    (hst : starEach (e :: []) X.env = (false, eval e X.env) :: starEach [] X.env := by rfl) (hpl : (backTo pos (starEach [] X.env)).any (·.1) = false := by rfl) :
    PS X (.Raise (some (.Call (.Name "Thrown" p) [e] [] pos)) none pos2) (tRai (tMkO C (sp_Tinit C) [.int 1] (tCons te tNil)) W) := by
  obtain ⟨T, fI, fd, ds, iC, tI, F, hb, hd⟩ := T
  exact ps_raise hc tk (pmk_ax T.ax iC tI F hr hb hd pass0 T.mg (pa_cons he pa_nil (hs := hst)) hg (by decide) hst hpl)
/-! ### by_floats, all words -/
theorem addL_ok {x y : FL} (ox : x.ok) (oy : y.ok) (hx : x.t ≠ .str "nan") (hy : y.t ≠ .str "nan") : (addL x y).ok := by
  unfold addL
  split
  · split
    · exact nan_ok
    · split
      · exact ox
      · exact oy
  · rename_i h1
    split
    · exact zero_ok (maxI_sgn ox.1 oy.1)
    · obtain ⟨n, en, _⟩ := ox.fin hx fun z => h1 (.inl z)
      obtain ⟨m, em, _⟩ := oy.fin hy fun z => h1 (.inr z)
      exact near_ok (tfS_sgn _) (dd_pos (ox.small en).2.2 (oy.small em).2.2)
theorem divL_ok {x y : FL} (ox : x.ok) (oy : y.ok) (hx : x.t ≠ .str "nan") (hy : y.t ≠ .str "nan") : (divL x y).ok := by
  have hs := mul_sgn ox.1 oy.1
  unfold divL
  split
  · split
    · exact nan_ok
    · exact inf_ok hs
  · rename_i h1
    split
    · exact zero_ok hs
    · rename_i h2
      split
      · split
        · exact nan_ok
        · exact inf_ok hs
      · rename_i h3
        obtain ⟨n, en, _⟩ := ox.fin hx h1
        obtain ⟨m, em, _⟩ := oy.fin hy h2
        have := Int.mul_ne_zero (Int.ne_of_gt (ox.small en).2.2) (nx_zero oy em h3)
        exact near_ok hs (by omega)
theorem mulL_ok {x y : FL} (ox : x.ok) (oy : y.ok) (hx : x.t ≠ .str "nan") (hy : y.t ≠ .str "nan") : (mulL x y).ok := by
  have hs := mul_sgn ox.1 oy.1
  unfold mulL
  split
  · split
    · exact nan_ok
    · exact inf_ok hs
  · rename_i h1
    obtain ⟨n, en, _⟩ := ox.fin hx fun z => h1 (.inl z)
    obtain ⟨m, em, _⟩ := oy.fin hy fun z => h1 (.inr z)
    exact near_ok hs (dd_pos (ox.small en).2.2 (oy.small em).2.2)
theorem floorL_ok {x : FL} (ox : x.ok) : (floorL x).ok := by
  unfold floorL
  split
  · exact ox
  · exact near_ok (tfS_sgn _) (by decide)
theorem modL_ok {x y : FL} (ox : x.ok) (oy : y.ok) (hx : x.t ≠ .str "nan") (hy : y.t ≠ .str "nan") : (modL x y).ok := by
  unfold modL
  split
  · exact nan_ok
  · rename_i h
    obtain ⟨lo, ln⟩ := left_ok ox oy hx (fun z => h (.inl z)) hy
    split
    · exact addL_ok lo oy ln hy
    · exact lo
def by6L (c : Str) (x y : FL) : FL :=
  if x.t = .str "nan" ∨ y.t = .str "nan" then nanL
  else if c = "add" then addL x y else if c = "sub" then addL x (negL y) else if c = "mul" then mulL x y else if c = "mod" then modL x y else if c = "floor" then floorL (divL x y) else divL x y
theorem by6L_ok {c : Str} {x y : FL} (ox : x.ok) (oy : y.ok) : (by6L c x y).ok := by
  unfold by6L
  split
  · exact nan_ok
  · rename_i hn
    have hx : x.t ≠ .str "nan" := fun z => hn (.inl z)
    have hy : y.t ≠ .str "nan" := fun z => hn (.inr z)
    split
    · exact addL_ok ox oy hx hy
    · split
      · exact addL_ok ox (neg_ok oy hy) hx hy
      · split
        · exact mulL_ok ox oy hx hy
        · split
          · exact modL_ok ox oy hx hy
          · split
            · exact floorL_ok (divL_ok ox oy hx hy)
            · exact divL_ok ox oy hx hy
abbrev s_byfloats : Stmt := top 26
theorem sc_byfloats : FnScope ["word", "one", "other", "found"] ["word", "one", "other"] (defScope s_byfloats) := ⟨rfl, rfl, rfl, by decide +kernel, rfl, by decide +kernel, by decide +kernel⟩
def sp_byfloats6 (C : Addr) : Sp := fun vs H Q _ => ∃ c v u x y, vs = [.str c, v, u] ∧ FA C H v x ∧ FA C H u y ∧ x.ok ∧ y.ok ∧ RetN C H (by6L c x y) Q
abbrev CAdd (P : Program) (w : World) (K : PySem.W.Frag) (mg : Str → Option Value) (base : Heap) (C : Addr) : Prop := Fn P w K mg base CX0 6 "added" ["one", "other"] [] (sp_added C)
theorem ok_byfloats6 {f : Addr} {fd : FuncData} (F : FunD K "by_floats" "by_floats" (defArgs s_byfloats) (defBody s_byfloats) (defScope s_byfloats) [] [] f fd) (B : Blt mg) (T : FlC K mg C) (c_Float : CnF P w K mg base C) (c_nan : CNan P w K mg base C) (c_added : CAdd P w K mg base C) (c_multiplied : Fn P w K mg base CX0 6 "multiplied" ["one", "other"] [] (sp_multiplied C)) (c_divided : Fn P w K mg base CX0 6 "divided" ["one", "other"] [] (sp_divided C))
    (c_remainder : Fn P w K mg base CX0 7 "remainder" ["one", "other"] [] (sp_remainder C)) (c_floored : Fn P w K mg base CX0 6 "floored" ["number"] [] (sp_floored C)) : FnOk P w K mg base CX0 8 f fd ["word", "one", "other"] (sp_byfloats6 C) := by
  refine F.ok sc_byfloats (fun vs H Q E h => ?_) (fun cdv A outer s H vs Q E hr h => ?_)
  · obtain ⟨_, _, _, _, _, rfl, _⟩ := h; rfl
  · obtain ⟨c, _, _, x, y, rfl, ⟨a, rfl, ha⟩, ⟨b, rfl, hb⟩, ox, oy, q⟩ := h
    refine ⟨_, PSs.nox (pss_cons (ps_if (pt_cmpR op_in_seq pe_str (pe_tupN (pa_cons (pe_fld (pv 1) rfl) (pa_cons (pe_fld (pv 2) rfl) pa_nil))) (by rfl)) (pss_one (ps_ret (pe_fn0 c_nan (hr.mono (by decide)) pass0))) pss_nil)
  (pss_cons (ps_if (pt_cmpR (op_oEq hr.units) (pv 0) pe_str (nomark _)) (pss_one (ps_ret (pe_fn c_added (hr.mono (by decide)) pass0 (pa_cons (pv 1) (pa_cons (pv 2) pa_nil))))) pss_nil)
  (pss_cons (ps_if (pt_cmpR (op_oEq hr.units) (pv 0) pe_str (nomark _)) (pss_one (ps_ret (pe_fn c_added (hr.mono (by decide)) pass0 (pa_cons (pv 1) (pa_cons (pe_cn c_Float (hr.mono (by decide)) pass0 (pa_cons (pe_op op_oSub pe_int (pe_fld (pv 2) rfl)) (pa_cons (pe_fld (pv 2) rfl) (pa_cons (pe_fld (pv 2) rfl) pa_nil)))) pa_nil))))) pss_nil)
  (pss_cons (ps_if (pt_cmpR (op_oEq hr.units) (pv 0) pe_str (nomark _)) (pss_one (ps_ret (pe_fn c_multiplied (hr.mono (by decide)) pass0 (pa_cons (pv 1) (pa_cons (pv 2) pa_nil))))) pss_nil)
  (pss_cons (ps_if (pt_cmpR (op_oEq hr.units) (pv 0) pe_str (nomark _)) (pss_one (ps_ret (pe_fn c_remainder (hr.mono (by decide)) pass0 (pa_cons (pv 1) (pa_cons (pv 2) pa_nil))))) pss_nil)
  (pss_cons (ps_set (i := 3) sc_byfloats.nd rfl (Or.inl rfl) (pe_fn c_divided (hr.mono (by decide)) pass0 (pa_cons (pv 1) (pa_cons (pv 2) pa_nil))))
  (pss_one (ps_ret (pe_ifExp (pt_cmpR (op_oEq hr.units) (pv 0) pe_str (nomark _)) (pe_fn c_floored (hr.mono (by decide)) pass0 (pa_cons (pv 3) pa_nil)) (pv 3)))))))))), ?_⟩
    unfold by6L at q
    walk_at "f"
    refine g_new (sz rfl) fun k H1 n1 s1 h1 _ => ?_
    refine g_in2 h1 (.str _) ox.is oy.is ?_
    have q := q.later s1
    have ha := ha.same s1
    have hb := hb.same s1
    walk_at "f"
    refine g_ite (fun h2 => ?_) fun h2 => ?_
    · rw [if_pos h2] at q
      walk_at "f"
      exact ⟨rfl, q⟩
    · rw [if_neg h2] at q
      have nx1 : x.t ≠ .str "nan" := fun z => h2 (.inl z)
      have ny1 : y.t ≠ .str "nan" := fun z => h2 (.inr z)
      walk_at "f"
      refine g_ite (fun h3 => ?_) fun h3 => ?_
      · rw [if_pos h3] at q
        walk_at "f"
        exact ⟨_, _, x, y, rfl, ⟨a, rfl, ha⟩, ⟨b, rfl, hb⟩, ox, oy, nx1, ny1, q⟩
      · rw [if_neg h3] at q
        walk_at "f"
        refine g_ite (fun h4 => ?_) fun h4 => ?_
        · rw [if_pos h4] at q
          walk_at "f"
          obtain ⟨k1, k2⟩ := neg_mk oy ny1
          refine mkN k1 fun H2 v s2 h5 => ?_
          rw [k2] at h5
          walk_at "f"
          exact ⟨_, _, x, negL y, rfl, ⟨a, rfl, ha.same s2⟩, h5, ox, neg_ok oy ny1, nx1, ny1, q.later s2⟩
        · rw [if_neg h4] at q
          walk_at "f"
          refine g_ite (fun h5 => ?_) fun h5 => ?_
          · rw [if_pos h5] at q
            walk_at "f"
            exact ⟨_, _, x, y, rfl, ⟨a, rfl, ha⟩, ⟨b, rfl, hb⟩, ox, oy, nx1, ny1, q⟩
          · rw [if_neg h5] at q
            walk_at "f"
            refine g_ite (fun h6 => ?_) fun h6 => ?_
            · rw [if_pos h6] at q
              walk_at "f"
              exact ⟨_, _, x, y, rfl, ⟨a, rfl, ha⟩, ⟨b, rfl, hb⟩, ox, oy, nx1, ny1, q⟩
            · rw [if_neg h6] at q
              walk_at "f"
              refine ⟨_, _, x, y, rfl, ⟨a, rfl, ha⟩, ⟨b, rfl, hb⟩, ox, oy, nx1, ny1, fun H2 v s2 h7 => ?_⟩
              walk_at "f"
              refine g_ite (fun h8 => ?_) fun h8 => ?_
              · rw [if_pos h8] at q
                walk_at "f"
                exact ⟨_, _, rfl, h7, divL_ok ox oy nx1 ny1, q.later s2⟩
              · rw [if_neg h8] at q
                walk_at "f"
                exact q _ _ s2 h7
/-! ### arith -/
abbrev s_arith : Stmt := top 23
theorem sc_arith : FnScope ["word", "one", "other"] ["word", "one", "other"] (defScope s_arith) := ⟨rfl, rfl, rfl, by decide +kernel, rfl, by decide +kernel, by decide +kernel⟩
def Wd6 (c : Str) : Prop := c = "add" ∨ c = "sub" ∨ c = "mul" ∨ c = "div" ∨ c = "floor" ∨ c = "mod"
def arI (c : Str) (k l : Int) : Int := if c = "floor" then wrapI (k.fdiv l) else if c = "mod" then k.fmod l else if c = "mul" then wrapI (k * l) else if c = "add" then wrapI (k + l) else wrapI (k - l)
def thrT (c : Str) : Str := if c = "floor" then "attempt to perform 'n//0'" else "attempt to perform 'n mod 0'"
def IntR (CT : Addr) (c : Str) (k l : Int) (H : Hp) (Q : VK) (E : XK) : Prop := ((c = "floor" ∨ c = "mod") ∧ l = 0 ∧ ThrR CT (.str (thrT c)) H E) ∨ (((c = "floor" ∨ c = "mod") → l ≠ 0) ∧ ∀ H', Same H H' → Q (.int (arI c k l)) H')
def sp_arith6 (C CT : Addr) : Sp := fun vs H Q E => ∃ c v u n m, vs = [.str c, v, u] ∧ Wd6 c ∧ NumAt C H v n ∧ NumAt C H u m ∧ nBig n ∧ nBig m ∧
  (((c = "div" ∨ isF n = true ∨ isF m = true) ∧ RetN C H (by6L c (toL n) (toL m)) Q) ∨ ∃ k l, n = .i k ∧ m = .i l ∧ c ≠ "div" ∧ IntR CT c k l H Q E)
theorem ok_arith6 {f : Addr} {fd : FuncData} (F : FunD K "arith" "arith" (defArgs s_arith) (defBody s_arith) (defScope s_arith) [] [] f fd) (B : Blt mg) (T : FlC K mg C) (c_Thrown : CThr P w K mg base CT) (c_byfloats : Fn P w K mg base CX0 8 "by_floats" ["word", "one", "other"] [] (sp_byfloats6 C)) (c_tofloat : Fn P w K mg base CX0 6 "to_float" ["number"] [] (sp_tofloat C))
    (c_wrapped : Fn P w K mg base CX0 1 "wrapped" ["number"] [] sp_wrapped) : FnOk P w K mg base (L2.CX P w) 9 f fd ["word", "one", "other"] (sp_arith6 C CT) := by
  have g_Float : mg "Float" = some (.ref C) := T.mg
  refine F.ok sc_arith (fun vs H Q E h => ?_) (fun cdv A outer s H vs Q E hr h => ?_)
  · obtain ⟨_, _, _, _, _, rfl, _⟩ := h; rfl
  · obtain ⟨c, v, u, n, m, rfl, hc, hn, hm, bn, bm, hf⟩ := h
    refine ⟨_, (pss_cons (ps_if (pt_cmpR op_in_seq (pv 0) (pe_tupN (pa_cons pe_str (pa_cons pe_str (pa_cons pe_str (pa_cons pe_str (pa_cons pe_str pa_nil)))))) (by rfl)) pss_never pss_nil)
  (pss_cons (ps_if (pt_cut (PW.pt (pw_or (pt_cmpR (op_oEq hr.units) (pv 0) pe_str (nomark _)) (pw_or (pt_val (pe_callB call_isi (by rfl) B.isinstance (by decide +kernel) (pa_cons (pv 1) (pa_cons (pe_gref g_Float) pa_nil)))) (pw_or1 (pt_val (pe_callB call_isi (by rfl) B.isinstance (by decide +kernel) (pa_cons (pv 2) (pa_cons (pe_gref g_Float) pa_nil))))))))) (pss_one (ps_ret (pe_fn c_byfloats (hr.mono (by decide)) pass0 (pa_cons (pv 0) (pa_cons (pe_fn c_tofloat (hr.mono (by decide)) pass0 (pa_cons (pv 1) pa_nil)) (pa_cons (pe_fn c_tofloat (hr.mono (by decide)) pass0 (pa_cons (pv 2) pa_nil)) pa_nil)))))) pss_nil)
  (pss_cons (ps_if (pt_cmpR op_in_seq (pv 0) (pe_tupN (pa_cons pe_str (pa_cons pe_str pa_nil))) (by rfl)) (pss_cons (ps_if (pt_cmpR (op_oEq hr.units) (pv 2) pe_int (nomark _)) (pss_one (ps_thr c_Thrown (hr.mono (by decide)) rfl (takes_of rfl rfl rfl rfl) (pe_ifExp (pt_cmpR (op_oEq hr.units) (pv 0) pe_str (nomark _)) pe_str pe_str))) pss_nil)
  (pss_one (ps_ret (pe_ifExp (pt_cmpR (op_oEq hr.units) (pv 0) pe_str (nomark _)) (pe_fn c_wrapped (hr.mono (by decide)) pass0 (pa_cons (pe_op op_oDiv (pv 1) (pv 2)) pa_nil)) (pe_op op_oMod (pv 1) (pv 2)))))) pss_nil)
  (pss_cons (ps_if (pt_cmpR (op_oEq hr.units) (pv 0) pe_str (nomark _)) (pss_one (ps_ret (pe_fn c_wrapped (hr.mono (by decide)) pass0 (pa_cons (pe_op op_oMul (pv 1) (pv 2)) pa_nil)))) pss_nil)
  (pss_one (ps_ret (pe_fn c_wrapped (hr.mono (by decide)) pass0 (pa_cons (pe_ifExp (pt_cmpR (op_oEq hr.units) (pv 0) pe_str (nomark _)) (pe_op op_oAdd (pv 1) (pv 2)) (pe_op op_oSub (pv 1) (pv 2))) pa_nil)))))))), ?_⟩
    walk_at "f"
    refine g_new (sz rfl) fun k H1 n1 s1 h1 _ => ?_
    refine ⟨k, _, rfl, .inr (SqT.of h1), rfl, rfl, ?_⟩
    have hin : inV (.str c) [.str "band", .str "bor", .str "bxor", .str "shl", .str "shr"] = false := by rcases hc with rfl | rfl | rfl | rfl | rfl | rfl <;> decide +kernel
    walk_at "f"
    refine g_iteb (fun z => absurd (hin.symm.trans z) (by decide)) fun _ => ?_
    have hn := hn.same s1
    have hm := hm.same s1
    obtain ⟨t1, k1, _, _⟩ := hn.kf T
    obtain ⟨t2, k2, _, _⟩ := hm.kf T
    walk_at "f"
    refine g_cutT (fun b H' => b = (decide (c = "div") || (isF n || isF m)) ∧ H' = H1) ?_ ?_
    · walk_at "f"
      refine g_ite (fun h2 => ?_) fun h2 => ?_
      · exact ⟨by rw [decide_eq_true h2]; rfl, rfl⟩
      · walk_at "f"
        refine g_isiF k1 ?_
        walk_at "f"
        refine g_iteb (fun h3 => ?_) fun h3 => ?_
        · exact ⟨by rw [h3, decide_eq_false h2]; rfl, rfl⟩
        · walk_at "f"
          refine g_isiF k2 ?_
          walk_at "f"
          exact ⟨by rw [h3, decide_eq_false h2]; rfl, rfl⟩
    · rintro _ _ ⟨rfl, rfl⟩
      rcases hf with ⟨hf, q⟩ | ⟨k, l, rfl, rfl, hd, q⟩
      · have e : (decide (c = "div") || (isF n || isF m)) = true := by
          rcases hf with z | z | z
          · rw [decide_eq_true z]; rfl
          · rw [z]; simp
          · rw [z]; simp
        rw [e]
        walk_at "f"
        refine g_tofl hn bn fun H2 v2 s2 f2 => ?_
        walk_at "f"
        refine g_tofl (hm.same s2) bm fun H3 v3 s3 f3 => ?_
        walk_at "f"
        exact ⟨c, _, _, _, _, rfl, f2.same s3, f3, hn.tok, hm.tok, q.later (s1.trans (s2.trans s3))⟩
      · have e : (decide (c = "div") || (isF (.i k) || isF (.i l))) = false := by rw [decide_eq_false hd]; rfl
        rw [e]
        have hn : v = .int k := hn
        have hm : u = .int l := hm
        subst hn hm
        have bn : bigOk k := bn
        have bm : bigOk l := bm
        walk_at "f"
        refine g_new (sz rfl) fun p H2 n2 s2 h2 _ => ?_
        refine g_in2 h2 (.str _) (.str _) (.str _) ?_
        walk_at "f"
        have S := s1.trans s2
        have cv : (V.str "floor" = V.str c ∨ V.str "mod" = V.str c) ↔ (c = "floor" ∨ c = "mod") := by
          constructor
          · rintro (z | z) <;> injection z with z
            · exact .inl z.symm
            · exact .inr z.symm
          · rintro (z | z)
            · exact .inl (by rw [z])
            · exact .inr (by rw [z])
        refine g_ite (fun h3 => ?_) fun h3 => ?_
        · have h3 := cv.mp h3
          walk_at "f"
          refine g_ite (fun h4 => ?_) fun h4 => ?_
          · rcases q with ⟨_, _, q⟩ | ⟨z, _⟩
            · walk_at "f"
              refine g_rai (g_mko ?_)
              walk_at "f"
              unfold thrT at q
              refine g_ite (fun h5 => ?_) fun h5 => ?_
              · rw [if_pos h5] at q
                walk_at "f"
                exact g_thr (q.later S)
              · rw [if_neg h5] at q
                walk_at "f"
                exact g_thr (q.later S)
            · exact absurd h4 (z h3)
          · rcases q with ⟨_, z, _⟩ | ⟨_, q⟩
            · exact absurd z h4
            · unfold arI at q
              walk_at "f"
              refine g_ite (fun h5 => ?_) fun h5 => ?_
              · rw [if_pos h5] at q
                walk_at "f"
                refine g_divI h4 (Nat.lt_trans (log2_lt bm (by decide)) (by decide)) ?_
                walk_at "f"
                exact ⟨_, rfl, q _ S⟩
              · rw [if_neg h5, if_pos (h3.resolve_left h5)] at q
                walk_at "f"
                refine g_modI h4 ?_
                exact q _ S
        · have h3 : ¬ (c = "floor" ∨ c = "mod") := fun z => h3 (cv.mpr z)
          rcases q with ⟨z, _⟩ | ⟨_, q⟩
          · exact absurd z h3
          · unfold arI at q
            rw [if_neg (fun z => h3 (.inl z)), if_neg (fun z => h3 (.inr z))] at q
            walk_at "f"
            refine g_ite (fun h5 => ?_) fun h5 => ?_
            · rw [if_pos h5] at q
              walk_at "f"
              refine g_mulI (mul_small (lt_pow_mono bn (by decide)) (lt_pow_mono bm (by decide))) ?_
              walk_at "f"
              exact ⟨_, rfl, q _ S⟩
            · rw [if_neg h5] at q
              walk_at "f"
              refine g_ite (fun h6 => ?_) fun h6 => ?_
              · rw [if_pos h6] at q
                walk_at "f"
                exact ⟨_, rfl, q _ S⟩
              · rw [if_neg h6] at q
                walk_at "f"
                exact ⟨_, rfl, q _ S⟩
end
end Up

set_option Elab.async false
set_option linter.all false
set_option maxRecDepth 100000
set_option maxHeartbeats 4000000
set_option exponentiation.threshold 200000
namespace Up
open PySem PySem.Spec PyProof.Rows L2
local macro_rules | `(tactic| walk_at "u") => `(tactic| first
  | with_reducible refine g_seq ?_
  | with_reducible refine g_asg ?_
  | with_reducible refine g_op ?_
  | ((with_reducible show tVar _ _ _ _); apply g_var; exact rfl)
  | with_reducible refine g_c ?_
  | with_reducible refine g_name ?_
  | with_reducible refine g_ifs ?_
  | with_reducible refine g_tt ?_
  | with_reducible refine g_tB ?_
  | with_reducible refine g_bl ?_
  | with_reducible refine g_ret ?_
  | with_reducible refine g_cb ?_
  | with_reducible refine g_cons ?_
  | with_reducible refine g_nil ?_
  | with_reducible refine g_call ?_
  | with_reducible refine g_and ?_
  | with_reducible refine g_or ?_
  | with_reducible refine g_not ?_
  | with_reducible refine g_andV ?_
  | with_reducible refine g_orV ?_
  | with_reducible refine g_notV ?_
  | with_reducible refine g_if ?_
  | with_reducible refine g_un ?_
  | with_reducible refine g_neg ?_
  | with_reducible refine g_addI ?_
  | with_reducible refine g_subI ?_
  | with_reducible refine g_subB ?_
  | with_reducible refine g_I0 ?_
  | with_reducible refine g_cmpI ?_
  | with_reducible refine g_eqI ?_
  | with_reducible refine g_neI ?_
  | with_reducible refine g_eqS ?_
  | with_reducible refine g_neS ?_
  | with_reducible refine g_eqB ?_
  | with_reducible refine g_neB ?_
  | with_reducible refine g_bits ?_
  | with_reducible refine g_bitsI ?_
  | with_reducible refine g_fld ?_
  | with_reducible refine g_tup ?_
  | with_reducible refine g_lst ?_
  | with_reducible refine g_gtup ?_
  | with_reducible refine g_make ?_
  | with_reducible refine g_lc ?_
  | with_reducible refine g_yesT ?_
  | with_reducible refine g_intI ?_
  | with_reducible refine g_intB ?_
  | with_reducible refine g_max2 ?_
  | with_reducible refine g_abs1 ?_
  | with_reducible refine g_for ?_
  | with_reducible refine g_iList ?_
  | with_reducible refine g_iTup ?_
  | with_reducible refine g_iRng1 ?_
  | with_reducible refine g_iEnum ?_
  | with_reducible refine g_slice ?_
  | with_reducible refine g_po0 ?_
  | with_reducible refine g_po1 ?_
  | with_reducible refine g_gsub ?_
  | with_reducible refine g_par ?_
  | with_reducible refine g_par2 ?_
  | with_reducible refine g_rfl ?_
  | with_reducible refine g_meth ?_
  | with_reducible refine g_gcons ?_
  | with_reducible refine g_gnil ?_
  | with_reducible refine g_gfld ?_
  | with_reducible refine g_sfld ?_
  | with_reducible refine g_drop ?_
  | with_reducible refine g_next ?_
  | with_reducible refine iteT ?_
  | with_reducible refine iteF ?_)
local macro_rules | `(tactic| walk_at "go") => `(tactic| (repeat walk_at "u"))

section
variable {P : Program} {w : World} {K : PySem.W.Frag} {mg : Str → Option Value} {base : Heap} {C : Addr}
/-! _law_well -/
abbrev s_Lwell : Stmt := top 33
theorem sc_Lwell : FnScope ["_law_cell"] ["_law_cell"] (defScope s_Lwell) := ⟨rfl, rfl, rfl, by decide +kernel, rfl, by decide +kernel, by decide +kernel⟩
def sp_Lwell : Sp := fun vs H Q _ => ∃ n, vs = [.int n] ∧ ∀ a H', H a = none → Same H H' → Well H' a → Q (.ref a) H'
theorem fmod_lt {x m : Int} (h : 0 < m) : 0 ≤ x.fmod m ∧ x.fmod m < m := by
  rw [Int.fmod_eq_emod_of_nonneg _ (by omega)]
  exact ⟨Int.emod_nonneg _ (by omega), Int.emod_lt_of_pos _ h⟩
theorem fdiv_nn {x m : Int} (hx : 0 ≤ x) (h : 0 < m) : 0 ≤ x.fdiv m := by
  rw [Int.fdiv_eq_ediv_of_nonneg _ (by omega)]
  exact Int.ediv_nonneg hx (by omega)
theorem ok_Lwell {f : Addr} {fd : FuncData} (F : FunD K "_law_well" "_law_well" (defArgs s_Lwell) (defBody s_Lwell) (defScope s_Lwell) [] [] f fd) (B : Blt mg) : FnOk P w K mg base CX0 1 f fd ["_law_cell"] sp_Lwell := by
  refine F.ok sc_Lwell (fun vs H Q E h => ?_) (fun cdv A outer s H vs Q E hr h => ?_)
  · obtain ⟨n, rfl, _⟩ := h; rfl
  · obtain ⟨n, rfl, q⟩ := h
    refine ⟨_, PSs.nox (pss_one (ps_ret (pe_lstN (pa_cons (pe_op op_oMul (pv 0) (pe_callTy call_int1 (by rfl) B.int (by decide +kernel) (pa_cons (pe_cmpR op_oGe (pv 0) (pe_op op_oPow pe_int pe_int) (nomark _)) pa_nil))) (pa_cons (pe_op op_oMod (pe_callTy call_int1 (by rfl) B.int (by decide +kernel) (pa_cons (pv 0) pa_nil)) pe_int) (pa_cons pe_int pa_nil)))))), ?_⟩
    walk_at "go"
    refine g_II ⟨by decide, by decide, by decide⟩ ?_
    walk_at "go"
    refine g_mulI (.of_right (by by_cases h : ((10 : Int) ^ (18 : Int).toNat ≤ n) <;> simp only [h, decide_true, decide_false] <;> decide)) ?_
    walk_at "go"
    refine g_modI (by decide) ?_
    walk_at "go"
    refine g_new (sz rfl) fun a H1 na s1 ha _ => ?_
    refine q a H1 na s1 ⟨_, _, _, ha, ?_, (fmod_lt (by decide)).1, (fmod_lt (by decide)).2, by decide⟩
    by_cases h : ((10 : Int) ^ (18 : Int).toNat ≤ n)
    · simp only [h, decide_true, if_true]
      have : (0 : Int) ≤ 10 ^ (18 : Int).toNat := by decide
      omega
    · rw [if_neg (by simpa using h), Int.mul_zero]
      decide
/-! _law_draw -/
abbrev s_Ldraw : Stmt := top 34
theorem sc_Ldraw : FnScope ["_law_well_here", "_law_many", "_law_digit", "_law_number"] ["_law_well_here", "_law_many"] (defScope s_Ldraw) := ⟨rfl, rfl, rfl, by decide +kernel, rfl, by decide +kernel, by decide +kernel⟩
def sp_Ldraw : Sp := fun vs H Q _ => ∃ (a : Addr) (m : Int), vs = [.ref a, .int m] ∧ 0 < m ∧ m < 2 ^ 62 ∧ Well H a ∧ ∀ k H', 0 ≤ k → k < m → Stp a H H' → Well H' a → Q (.int k) H'
theorem small_div {m : Int} (h : 0 < m) (h2 : m < 2 ^ 62) : m.natAbs.log2 < 9000 := Nat.lt_trans (log2_lt (k := 62) (by omega) (by decide)) (by decide)
theorem sm31 {x : Int} (h0 : 0 ≤ x) (h1 : x < 2147483648) (y : Int) : IntMulOk x y := .of_left (intBits_le_64 (by omega) (by omega))
theorem sm31r {x : Int} (h0 : 0 ≤ x) (h1 : x < 2147483648) (y : Int) : IntMulOk y x := .of_right (intBits_le_64 (by omega) (by omega))
theorem ok_Ldraw {f : Addr} {fd : FuncData} (F : FunD K "_law_draw" "_law_draw" (defArgs s_Ldraw) (defBody s_Ldraw) (defScope s_Ldraw) [] [] f fd) (B : Blt mg) : FnOk P w K mg base CX0 1 f fd ["_law_well_here", "_law_many"] sp_Ldraw := by
  refine F.ok sc_Ldraw (fun vs H Q E h => ?_) (fun cdv A outer s H vs Q E hr h => ?_)
  · obtain ⟨a, m, rfl, _⟩ := h; rfl
  · obtain ⟨a, m, rfl, m0, m1, ⟨x, y, z, hw, x0, y0, y1, z0⟩, q⟩ := h
    refine ⟨_, PSs.nox (pss_cons (ps_if (pt_cmpR op_oGt (pe_ix ix_seq (pv 0) pe_int (fun _ _ => rfl)) pe_int (nomark _)) (pss_cons (ps_set (i := 2) sc_Ldraw.nd rfl (Or.inl rfl) (pe_op op_oMod (pe_callTy call_int1 (by rfl) B.int (by decide +kernel) (pa_cons (pe_ix ix_seq (pv 0) pe_int (fun _ _ => rfl)) pa_nil)) (pv 1)))
  (pss_cons (ps_asg (pe_op op_oDiv (pe_ix ix_seq (pv 0) pe_int (fun _ _ => rfl)) (pv 1)) (pg_sub (pv 0) pe_int set_list))
  (pss_one (ps_ret (pv 2))))) pss_nil)
  (pss_cons (ps_asg (pe_op op_oAdd (pe_ix ix_seq (pv 0) pe_int (fun _ _ => rfl)) pe_int) (pg_sub (pv 0) pe_int set_list))
  (pss_cons (ps_set (i := 3) sc_Ldraw.nd rfl (Or.inl rfl) (pe_op op_oMod (pe_callTy call_int1 (by rfl) B.int (by decide +kernel) (pa_cons (pe_op op_oAdd (pe_op op_oAdd (pe_op op_oMul (pe_ix ix_seq (pv 0) pe_int (fun _ _ => rfl)) pe_int) (pe_op op_oMul pe_int (pe_ix ix_seq (pv 0) pe_int (fun _ _ => rfl)))) pe_int) pa_nil)) pe_int))
  (pss_cons (ps_set (i := 3) sc_Ldraw.nd rfl (Or.inl rfl) (pe_op op_oMod (pe_callTy call_int1 (by rfl) B.int (by decide +kernel) (pa_cons (pe_op op_oMul (pv 3) (pe_op op_oAdd (pe_op op_oDiv (pv 3) pe_int) pe_int)) pa_nil)) pe_int))
  (pss_cons (ps_set (i := 3) sc_Ldraw.nd rfl (Or.inl rfl) (pe_op op_oMod (pe_callTy call_int1 (by rfl) B.int (by decide +kernel) (pa_cons (pe_op op_oMul (pv 3) (pe_op op_oAdd (pe_op op_oAdd (pe_op op_oDiv (pv 3) pe_int) pe_int) (pe_ix ix_seq (pv 0) pe_int (fun _ _ => rfl)))) pa_nil)) pe_int))
  (pss_one (ps_ret (pe_op op_oMod (pe_callTy call_int1 (by rfl) B.int (by decide +kernel) (pa_cons (pe_op op_oDiv (pv 3) pe_int) pa_nil)) (pv 1))))))))), ?_⟩
    walk_at "go"
    refine g_ixL hw rfl ?_
    walk_at "go"
    refine g_ite (fun hx => ?_) fun hx => ?_
    · walk_at "go"
      refine g_ixL hw rfl ?_
      walk_at "go"
      refine g_modI (by omega) ?_
      walk_at "go"
      refine g_ixL hw rfl ?_
      walk_at "go"
      refine g_divI (by omega) (small_div m0 m1) ?_
      walk_at "go"
      refine g_setL hw rfl fun H1 h1 k1 => ?_
      walk_at "go"
      exact q _ H1 (fmod_lt m0).1 (fmod_lt m0).2 (fun b o n e => (k1 b n).trans e) ⟨_, _, _, h1, fdiv_nn x0 m0, y0, y1, z0⟩
    · walk_at "go"
      refine g_ixL hw rfl ?_
      walk_at "go"
      refine g_setL hw rfl fun H1 h1 k1 => ?_
      walk_at "go"
      refine g_ixL h1 rfl ?_
      walk_at "go"
      refine g_mulI (.of_right (by decide)) ?_
      walk_at "go"
      refine g_ixL h1 rfl ?_
      refine g_mulI (.of_left (by decide)) ?_
      walk_at "go"
      refine g_modI (by decide) ?_
      walk_at "go"
      have b1 := fmod_lt (x := y * 48271 + 30103 * (z + 1) + 11) (m := 2147483647) (by decide)
      refine g_divI (by decide) (by decide) ?_
      walk_at "go"
      refine g_mulI (sm31 b1.1 (by omega) _) ?_
      walk_at "go"
      refine g_modI (by decide) ?_
      walk_at "go"
      generalize (y * 48271 + 30103 * (z + 1) + 11).fmod 2147483647 = u1 at *
      have b2 := fmod_lt (x := u1 * (u1.fdiv 1009 + 69621)) (m := 2147483629) (by decide)
      refine g_divI (by decide) (by decide) ?_
      walk_at "go"
      refine g_ixL h1 rfl ?_
      walk_at "go"
      refine g_mulI (sm31 b2.1 (by omega) _) ?_
      walk_at "go"
      refine g_modI (by decide) ?_
      walk_at "go"
      refine g_divI (by decide) (by decide) ?_
      walk_at "go"
      refine g_modI (by omega) ?_
      exact q _ H1 (fmod_lt m0).1 (fmod_lt m0).2 (fun b o n e => (k1 b n).trans e) ⟨_, _, _, h1, x0, y0, y1, by omega⟩
/-! _law_one -/
abbrev s_Lone : Stmt := top 35
theorem sc_Lone : FnScope ["_law_well_here", "_law_some"] ["_law_well_here", "_law_some"] (defScope s_Lone) := ⟨rfl, rfl, rfl, by decide +kernel, rfl, by decide +kernel, by decide +kernel⟩
def sp_Lone : Sp := fun vs H Q _ => ∃ (a l : Addr) (xs : List V), vs = [.ref a, .ref l] ∧ Well H a ∧ H l = some (.lst xs) ∧ l ≠ a ∧ 0 < xs.length ∧ xs.length < 1000 ∧ ∀ v H', v ∈ xs → Stp a H H' → Well H' a → Q v H'
theorem ok_Lone {f : Addr} {fd : FuncData} (F : FunD K "_law_one" "_law_one" (defArgs s_Lone) (defBody s_Lone) (defScope s_Lone) [] [] f fd) (B : Blt mg) (c_Ldraw : Fn P w K mg base CX0 1 "_law_draw" ["_law_well_here", "_law_many"] [] sp_Ldraw) : FnOk P w K mg base CX0 2 f fd ["_law_well_here", "_law_some"] sp_Lone := by
  refine F.ok sc_Lone (fun vs H Q E h => ?_) (fun cdv A outer s H vs Q E hr h => ?_)
  · obtain ⟨a, l, xs, rfl, _⟩ := h; rfl
  · obtain ⟨a, l, xs, rfl, hw, hl, ne, x0, x1, q⟩ := h
    refine ⟨_, PSs.nox (pss_one (ps_ret (pe_ix ix_seq (pv 1) (pe_fn c_Ldraw (hr.mono (by decide)) pass0 (pa_cons (pv 0) (pa_cons (pe_callB call_len_seq (by rfl) B.len (by decide +kernel) (pa_cons (pv 1) pa_nil)) pa_nil))) (fun _ _ => rfl)))), ?_⟩
    walk_at "go"
    refine g_lenL hl ?_
    walk_at "go"
    refine ⟨a, _, rfl, by omega, by omega, hw, fun k H1 k0 k1 s1 hw1 => ?_⟩
    have hi : k.toNat < xs.length := by omega
    refine g_ixL (s1 _ _ ne hl) (v := xs[k.toNat]) ?_ (q _ _ (List.getElem_mem hi) s1 hw1)
    have e : ixN xs.length k = some k.toNat := by unfold ixN; rw [if_pos k0, if_pos k1]
    unfold atI
    rw [e]
    simp [hi]
/-! _law_great -/
abbrev s_Lgreat : Stmt := top 36
theorem sc_Lgreat : FnScope ["_law_well_here", "_law_bits", "_law_number", "_law_k"] ["_law_well_here", "_law_bits"] (defScope s_Lgreat) := ⟨rfl, rfl, rfl, by decide +kernel, rfl, by decide +kernel, by decide +kernel⟩
def sp_Lgreat : Sp := fun vs H Q _ => ∃ (a : Addr) (m : Int), vs = [.ref a, .int m] ∧ 0 ≤ m ∧ m ≤ 1000 ∧ Well H a ∧ ∀ k H', 0 ≤ k → k < 2 ^ m.toNat → Stp a H H' → Well H' a → Q (.int k) H'
theorem ok_Lgreat {f : Addr} {fd : FuncData} (F : FunD K "_law_great" "_law_great" (defArgs s_Lgreat) (defBody s_Lgreat) (defScope s_Lgreat) [] [] f fd) (B : Blt mg) (c_Ldraw : Fn P w K mg base CX0 1 "_law_draw" ["_law_well_here", "_law_many"] [] sp_Ldraw) : FnOk P w K mg base CX0 2 f fd ["_law_well_here", "_law_bits"] sp_Lgreat := by
  refine F.ok sc_Lgreat (fun vs H Q E h => ?_) (fun cdv A outer s H vs Q E hr h => ?_)
  · obtain ⟨a, m, rfl, _⟩ := h; rfl
  · obtain ⟨a, m, rfl, m0, m1, hw, q⟩ := h
    refine ⟨_, PSs.nox (pss_cons (ps_set (i := 2) sc_Lgreat.nd rfl (Or.inl rfl) pe_int)
  (pss_cons (ps_for PassesOwn.never rfl (pi_range1 (by rfl) B.range (pa_cons (pe_op op_oAdd pe_int (pe_op op_oDiv (pv 1) pe_int)) pa_nil)) (pg_name (i := 3) sc_Lgreat.nd rfl (Or.inl rfl))
    (pss_one (ps_set (i := 2) sc_Lgreat.nd rfl (Or.inl rfl) (pe_op op_oAdd (pe_op op_oMul (pv 2) pe_int) (pe_fn c_Ldraw (hr.mono (by decide)) pass0 (pa_cons (pv 0) (pa_cons pe_int pa_nil)))))))
  (pss_one (ps_ret (pe_op op_oMod (pe_callTy call_int1 (by rfl) B.int (by decide +kernel) (pa_cons (pv 2) pa_nil)) (pe_op op_oShl pe_int (pv 1))))))), ?_⟩
    walk_at "go"
    refine g_divI (by decide) (by decide) ?_
    walk_at "go"
    have e0 : m.fdiv 20 = m / 20 := Int.fdiv_eq_ediv_of_nonneg _ (by decide)
    refine ⟨by omega, by omega, ?_⟩
    refine for_range (fun i σ' H' => ∃ (n : Int) (v : Option V), σ' = [some (.ref a), some (.int m), some (.int n), v] ∧ Stp a H H' ∧ Well H' a) ⟨0, none, rfl, Stp.refl _ _, hw⟩ ?_ ?_
    · rintro i _ H1 hi ⟨n, v, rfl, s1, hw1⟩
      walk_at "go"
      refine g_mulI (.of_right (by decide)) ?_
      walk_at "go"
      refine ⟨a, _, rfl, by decide, by decide, hw1, fun k H2 k0 k1 s2 hw2 => ?_⟩
      walk_at "go"
      exact ⟨_, _, rfl, s1.trans s2, hw2⟩
    · rintro _ H1 ⟨n, v, rfl, s1, hw1⟩
      walk_at "go"
      refine g_II (shl_small m0 (by omega) (lt_pow_mono (a := 1) (by decide) (by decide))) ?_
      rw [Int.one_mul]
      have hp : (0 : Int) < 2 ^ m.toNat := Int.pow_pos (by decide)
      refine g_modI (by omega) ?_
      exact q _ H1 (fmod_lt hp).1 (fmod_lt hp).2 s1 hw1
end
end Up

set_option Elab.async false
set_option linter.all false
set_option maxRecDepth 100000
set_option maxHeartbeats 4000000
set_option exponentiation.threshold 200000
namespace Up
open PySem PySem.Spec PyProof.Rows L2
local macro_rules | `(tactic| walk_at "u") => `(tactic| first
  | with_reducible refine g_seq ?_
  | with_reducible refine g_asg ?_
  | with_reducible refine g_op ?_
  | ((with_reducible show tVar _ _ _ _); apply g_var; exact rfl)
  | with_reducible refine g_c ?_
  | with_reducible refine g_name ?_
  | with_reducible refine g_ifs ?_
  | with_reducible refine g_tt ?_
  | with_reducible refine g_tB ?_
  | with_reducible refine g_bl ?_
  | with_reducible refine g_ret ?_
  | with_reducible refine g_cb ?_
  | with_reducible refine g_cons ?_
  | with_reducible refine g_nil ?_
  | with_reducible refine g_call ?_
  | with_reducible refine g_and ?_
  | with_reducible refine g_or ?_
  | with_reducible refine g_not ?_
  | with_reducible refine g_andV ?_
  | with_reducible refine g_orV ?_
  | with_reducible refine g_notV ?_
  | with_reducible refine g_if ?_
  | with_reducible refine g_un ?_
  | with_reducible refine g_neg ?_
  | with_reducible refine g_addI ?_
  | with_reducible refine g_subI ?_
  | with_reducible refine g_subB ?_
  | with_reducible refine g_I0 ?_
  | with_reducible refine g_cmpI ?_
  | with_reducible refine g_eqI ?_
  | with_reducible refine g_neI ?_
  | with_reducible refine g_eqS ?_
  | with_reducible refine g_neS ?_
  | with_reducible refine g_eqB ?_
  | with_reducible refine g_neB ?_
  | with_reducible refine g_bits ?_
  | with_reducible refine g_bitsI ?_
  | with_reducible refine g_fld ?_
  | with_reducible refine g_tup ?_
  | with_reducible refine g_lst ?_
  | with_reducible refine g_gtup ?_
  | with_reducible refine g_make ?_
  | with_reducible refine g_lc ?_
  | with_reducible refine g_yesT ?_
  | with_reducible refine g_intI ?_
  | with_reducible refine g_intB ?_
  | with_reducible refine g_max2 ?_
  | with_reducible refine g_abs1 ?_
  | with_reducible refine g_for ?_
  | with_reducible refine g_iList ?_
  | with_reducible refine g_iTup ?_
  | with_reducible refine g_iRng1 ?_
  | with_reducible refine g_iEnum ?_
  | with_reducible refine g_slice ?_
  | with_reducible refine g_po0 ?_
  | with_reducible refine g_po1 ?_
  | with_reducible refine g_gsub ?_
  | with_reducible refine g_par ?_
  | with_reducible refine g_par2 ?_
  | with_reducible refine g_rfl ?_
  | with_reducible refine g_meth ?_
  | with_reducible refine g_gcons ?_
  | with_reducible refine g_gnil ?_
  | with_reducible refine g_gfld ?_
  | with_reducible refine g_sfld ?_
  | with_reducible refine g_drop ?_
  | with_reducible refine g_next ?_
  | with_reducible refine iteT ?_
  | with_reducible refine iteF ?_)
local macro_rules | `(tactic| walk_at "go") => `(tactic| (repeat walk_at "u"))

section
variable {P : Program} {w : World} {K : PySem.W.Frag} {mg : Str → Option Value} {base : Heap} {C : Addr}
/-! _law_finite -/
abbrev s_Lfinite : Stmt := top 37
theorem sc_Lfinite : FnScope ["_law_well_here", "_law_sign", "_law_way", "_law_some"] ["_law_well_here"] (defScope s_Lfinite) := ⟨rfl, rfl, rfl, by decide +kernel, rfl, by decide +kernel, by decide +kernel⟩
def FinD (s t p : Int) : Prop := (s = 1 ∨ s = -1) ∧ 0 ≤ t ∧ t < 2 ^ 53 ∧ -1074 ≤ p ∧ p ≤ 971
def sp_Lfinite : Sp := fun vs H Q _ => ∃ (a : Addr), vs = [.ref a] ∧ Well H a ∧ ∀ b H' s t p, H b = none → Stp a H H' → Well H' a → H' b = some (.tup [.int s, .int t, .int p]) → FinD s t p → Q (.ref b) H'
theorem pow53 {k : Int} {n : Nat} (h : k < 2 ^ n) (hn : n ≤ 53) : k < 2 ^ 53 := by
  have : (2 : Int) ^ n ≤ 2 ^ 53 := by exact_mod_cast Nat.pow_le_pow_right (show 0 < 2 by decide) hn
  omega
theorem ok_Lfinite {f : Addr} {fd : FuncData} (F : FunD K "_law_finite" "_law_finite" (defArgs s_Lfinite) (defBody s_Lfinite) (defScope s_Lfinite) [] [] f fd) (B : Blt mg) (c_Ldraw : Fn P w K mg base CX0 1 "_law_draw" ["_law_well_here", "_law_many"] [] sp_Ldraw) (c_Lone : Fn P w K mg base CX0 2 "_law_one" ["_law_well_here", "_law_some"] [] sp_Lone)
    (c_Lgreat : Fn P w K mg base CX0 2 "_law_great" ["_law_well_here", "_law_bits"] [] sp_Lgreat) : FnOk P w K mg base CX0 3 f fd ["_law_well_here"] sp_Lfinite := by
  refine F.ok sc_Lfinite (fun vs H Q E h => ?_) (fun cdv A outer s H vs Q E hr h => ?_)
  · obtain ⟨a, rfl, _⟩ := h; rfl
  · obtain ⟨a, rfl, hw, q⟩ := h
    refine ⟨_, PSs.nox (pss_cons (ps_par (i := 1) (j := 2) rfl sc_Lfinite.nd rfl rfl (by decide) rfl rfl (pa_cons (pe_fn c_Lone (hr.mono (by decide)) pass0 (pa_cons (pv 0) (pa_cons (pe_lstN (pa_cons pe_int (pa_cons (pe_un un_neg pe_int) pa_nil))) pa_nil))) (pa_cons (pe_fn c_Ldraw (hr.mono (by decide)) pass0 (pa_cons (pv 0) (pa_cons pe_int pa_nil))) pa_nil)) (by rfl))
  (pss_cons (ps_if (pt_cmpR (op_oEq hr.units) (pv 2) pe_int (nomark _)) (pss_one (ps_ret (pe_tupN (pa_cons (pv 1) (pa_cons pe_int (pa_cons pe_int pa_nil)))))) pss_nil)
  (pss_cons (ps_if (pt_cmpR op_oLt (pv 2) pe_int (nomark _)) (pss_one (ps_ret (pe_tupN (pa_cons (pv 1) (pa_cons (pe_fn c_Ldraw (hr.mono (by decide)) pass0 (pa_cons (pv 0) (pa_cons pe_int pa_nil))) (pa_cons (pe_fn c_Lone (hr.mono (by decide)) pass0 (pa_cons (pv 0) (pa_cons (pe_lstN (pa_cons pe_int (pa_cons pe_int (pa_cons (pe_un un_neg pe_int) (pa_cons (pe_un un_neg pe_int) pa_nil))))) pa_nil))) pa_nil)))))) pss_nil)
  (pss_cons (ps_set (i := 3) sc_Lfinite.nd rfl (Or.inl rfl) (pe_lstN (pa_cons (pe_op op_oSub (pe_fn c_Ldraw (hr.mono (by decide)) pass0 (pa_cons (pv 0) (pa_cons pe_int pa_nil))) pe_int) (pa_cons (pe_op op_oSub pe_int (pe_fn c_Ldraw (hr.mono (by decide)) pass0 (pa_cons (pv 0) (pa_cons pe_int pa_nil)))) (pa_cons (pe_fn c_Ldraw (hr.mono (by decide)) pass0 (pa_cons (pv 0) (pa_cons pe_int pa_nil))) (pa_cons (pe_op op_oSub pe_int (pe_fn c_Ldraw (hr.mono (by decide)) pass0 (pa_cons (pv 0) (pa_cons pe_int pa_nil)))) pa_nil))))))
  (pss_cons (ps_set (i := 3) sc_Lfinite.nd rfl (Or.inl rfl) (pe_op op_oAdd (pv 3) (pe_lstN (pa_cons (pe_op op_oSub (pe_un un_neg pe_int) (pe_fn c_Ldraw (hr.mono (by decide)) pass0 (pa_cons (pv 0) (pa_cons pe_int pa_nil)))) (pa_cons (pe_op op_oSub (pe_fn c_Ldraw (hr.mono (by decide)) pass0 (pa_cons (pv 0) (pa_cons pe_int pa_nil))) pe_int) pa_nil)))))
  (pss_one (ps_ret (pe_tupN (pa_cons (pv 1) (pa_cons (pe_fn c_Lgreat (hr.mono (by decide)) pass0 (pa_cons (pv 0) (pa_cons (pe_fn c_Lone (hr.mono (by decide)) pass0 (pa_cons (pv 0) (pa_cons (pe_lstN (pa_cons pe_int (pa_cons pe_int (pa_cons pe_int (pa_cons pe_int pa_nil))))) pa_nil))) pa_nil))) (pa_cons (pe_callB (call_min2 rfl) (by rfl) B.min (by decide +kernel) (pa_cons pe_int (pa_cons (pe_fn c_Lone (hr.mono (by decide)) pass0 (pa_cons (pv 0) (pa_cons (pv 3) pa_nil))) pa_nil))) pa_nil))))))))))), ?_⟩
    walk_at "go"
    refine g_new (sz rfl) fun l1 H1 n1 s1 h1 _ => ?_
    refine ⟨a, l1, _, rfl, hw.same s1, h1, hw.ne_none n1, by decide, by decide, fun v H2 hv s2 hw2 => ?_⟩
    have S2 := (Stp.of (w := a) s1).trans s2
    obtain ⟨sg, rfl, hs⟩ : ∃ sg, v = .int sg ∧ (sg = 1 ∨ sg = -1) := by
      simp only [List.mem_cons, List.not_mem_nil, or_false] at hv
      rcases hv with rfl | rfl
      · exact ⟨_, rfl, .inl rfl⟩
      · exact ⟨_, rfl, .inr rfl⟩
    walk_at "go"
    refine ⟨a, _, rfl, by decide, by decide, hw2, fun k H3 k0 k1 s3 hw3 => ?_⟩
    have S3 := S2.trans s3
    walk_at "go"
    refine g_ite (fun hk => ?_) fun hk => ?_
    · walk_at "go"
      refine g_new (sz rfl) fun b H4 n4 s4 h4 _ => ?_
      exact q b H4 _ _ _ (S3.free hw3 n4) (S3.trans (Stp.of s4)) (hw3.same s4) h4 ⟨hs, by decide, by decide, by decide, by decide⟩
    · walk_at "go"
      refine g_ite (fun hk4 => ?_) fun hk4 => ?_
      · walk_at "go"
        refine ⟨a, _, rfl, by decide, by decide, hw3, fun t H4 t0 t1 s4 hw4 => ?_⟩
        have S4 := S3.trans s4
        walk_at "go"
        refine g_new (sz rfl) fun l5 H5 n5 s5 h5 _ => ?_
        refine ⟨a, l5, _, rfl, hw4.same s5, h5, hw4.ne_none n5, by decide, by decide, fun v H6 hv s6 hw6 => ?_⟩
        have S6 := (S4.trans (Stp.of s5)).trans s6
        obtain ⟨p, rfl, hp⟩ : ∃ p, v = .int p ∧ -1074 ≤ p ∧ p ≤ 971 := by
          simp only [List.mem_cons, List.not_mem_nil, or_false] at hv
          rcases hv with rfl | rfl | rfl | rfl <;> exact ⟨_, rfl, by decide, by decide⟩
        walk_at "go"
        refine g_new (sz rfl) fun b H7 n7 s7 h7 _ => ?_
        exact q b H7 _ _ _ (S6.free hw6 n7) (S6.trans (Stp.of s7)) (hw6.same s7) h7 ⟨hs, t0, by omega, hp.1, hp.2⟩
      · walk_at "go"
        refine ⟨a, _, rfl, by decide, by decide, hw3, fun d1 H4 a1 b1 s4 hw4 => ?_⟩
        walk_at "go"
        refine ⟨a, _, rfl, by decide, by decide, hw4, fun d2 H5 a2 b2 s5 hw5 => ?_⟩
        walk_at "go"
        refine ⟨a, _, rfl, by decide, by decide, hw5, fun d3 H6 a3 b3 s6 hw6 => ?_⟩
        walk_at "go"
        refine ⟨a, _, rfl, by decide, by decide, hw6, fun d4 H7 a4 b4 s7 hw7 => ?_⟩
        have S7 := (((S3.trans s4).trans s5).trans s6).trans s7
        walk_at "go"
        refine g_new (sz rfl) fun l8 H8 n8 s8 h8 _ => ?_
        have S8 := S7.trans (Stp.of s8)
        have hw8 := hw7.same s8
        have l8a := hw7.ne_none n8
        walk_at "go"
        refine ⟨a, _, rfl, by decide, by decide, hw8, fun d5 H9 a5 b5 s9 hw9 => ?_⟩
        walk_at "go"
        refine ⟨a, _, rfl, by decide, by decide, hw9, fun d6 H10 a6 b6 s10 hw10 => ?_⟩
        have S10 := (S8.trans s9).trans s10
        have h8b := s10 _ _ l8a (s9 _ _ l8a h8)
        walk_at "go"
        refine g_new (sz rfl) fun l11 H11 n11 s11 h11 _ => ?_
        refine .inl ⟨l8, l11, _, _, rfl, rfl, SqL.of (s11 _ _ h8b), SqL.of h11, sz rfl, fun l12 H12 n12 s12 h12 _ => ?_⟩
        have S12 := (S10.trans (Stp.of s11)).trans (Stp.of s12)
        have hw12 := (hw10.same s11).same s12
        have l12a := (hw10.same s11).ne_none n12
        walk_at "go"
        refine g_new (sz rfl) fun l13 H13 n13 s13 h13 _ => ?_
        refine ⟨a, l13, _, rfl, hw12.same s13, h13, hw12.ne_none n13, by decide, by decide, fun v H14 hv s14 hw14 => ?_⟩
        have S14 := (S12.trans (Stp.of s13)).trans s14
        obtain ⟨p, rfl, hp⟩ : ∃ p, v = .int p ∧ 0 ≤ p ∧ p ≤ 53 := by
          simp only [List.mem_cons, List.not_mem_nil, or_false] at hv
          rcases hv with rfl | rfl | rfl | rfl <;> exact ⟨_, rfl, by decide, by decide⟩
        walk_at "go"
        refine ⟨a, p, rfl, hp.1, by omega, hw14, fun t H15 t0 t1 s15 hw15 => ?_⟩
        have S15 := S14.trans s15
        have h12b := s15 _ _ l12a (s14 _ _ l12a (s13 _ _ h12))
        walk_at "go"
        refine ⟨a, l12, _, rfl, hw15, h12b, l12a, Nat.lt_of_lt_of_le (by decide : 0 < 6) (Nat.le_refl _), Nat.lt_of_le_of_lt (Nat.le_refl 6) (by decide), fun v H16 hv s16 hw16 => ?_⟩
        have S16 := S15.trans s16
        obtain ⟨u, rfl, hu⟩ : ∃ u, v = .int u ∧ -1074 ≤ u ∧ u ≤ 971 := by
          simp only [List.mem_append, List.mem_cons, List.not_mem_nil, or_false] at hv
          rcases hv with (rfl | rfl | rfl | rfl) | (rfl | rfl) <;> exact ⟨_, rfl, by omega, by omega⟩
        walk_at "go"
        refine g_new (sz rfl) fun b H17 n17 s17 h17 _ => ?_
        refine q b H17 _ _ _ (S16.free hw16 n17) (S16.trans (Stp.of s17)) (hw16.same s17) h17 ⟨hs, t0, pow53 t1 (by omega), ?_, ?_⟩
        · split <;> omega
        · split <;> omega
/-! _law_float -/
abbrev s_Lfloat : Stmt := top 38
theorem sc_Lfloat : FnScope ["_law_well_here", "_law_sign", "_law_top", "_law_power"] ["_law_well_here"] (defScope s_Lfloat) := ⟨rfl, rfl, rfl, by decide +kernel, rfl, by decide +kernel, by decide +kernel⟩
theorem FlAt.stp {a b : Addr} {H H' : Hp} {s : Int} {t : V} {p : Int} (h : FlAt C H b s t p) (hw : Well H a) (e : Stp a H H') : FlAt C H' b s t p := by
  obtain ⟨dx, h⟩ := h
  exact ⟨dx, e.ins hw h⟩
theorem NumAt.stp {a : Addr} {H H' : Hp} {v : V} (hw : Well H a) (e : Stp a H H') : ∀ {n : Nm}, NumAt C H v n → NumAt C H' v n
  | .i _, h => h
  | .f _ _ _, ⟨b, z, h, k⟩ => ⟨b, z, h.stp hw e, k⟩
theorem mk_nan : MkOk 1 (.str "nan") 0 := ⟨.inl rfl, .inl ⟨rfl, rfl, rfl⟩⟩
theorem FinD.mk {s t p : Int} (h : FinD s t p) : MkOk s (.int t) p := by
  obtain ⟨hs, t0, t1, p0, p1⟩ := h
  obtain ⟨n, rfl⟩ := Int.eq_ofNat_of_zero_le t0
  have hb : bitsN n ≤ 53 := bits_le (by omega)
  exact mk_of_flok hs (by omega) p0 (by omega)
def sp_Lfloat (C : Addr) : Sp := fun vs H Q _ => ∃ (a : Addr), vs = [.ref a] ∧ Well H a ∧ ∀ v H' s t p, Stp a H H' → Well H' a → NumAt C H' v (.f s t p) → Q v H'
theorem ok_Lfloat {f : Addr} {fd : FuncData} (F : FunD K "_law_float" "_law_float" (defArgs s_Lfloat) (defBody s_Lfloat) (defScope s_Lfloat) [] [] f fd) (B : Blt mg) (c_Float : CnF P w K mg base C) (c_Ldraw : Fn P w K mg base CX0 1 "_law_draw" ["_law_well_here", "_law_many"] [] sp_Ldraw) (c_Lone : Fn P w K mg base CX0 2 "_law_one" ["_law_well_here", "_law_some"] [] sp_Lone)
    (c_Lfinite : Fn P w K mg base CX0 3 "_law_finite" ["_law_well_here"] [] sp_Lfinite) : FnOk P w K mg base CX0 4 f fd ["_law_well_here"] (sp_Lfloat C) := by
  refine F.ok sc_Lfloat (fun vs H Q E h => ?_) (fun cdv A outer s H vs Q E hr h => ?_)
  · obtain ⟨a, rfl, _⟩ := h; rfl
  · obtain ⟨a, rfl, hw, q⟩ := h
    refine ⟨_, PSs.nox (pss_cons (ps_if (pt_cmpR (op_oEq hr.units) (pe_fn c_Ldraw (hr.mono (by decide)) pass0 (pa_cons (pv 0) (pa_cons pe_int pa_nil))) pe_int (nomark _)) (pss_one (ps_ret (pe_fn c_Lone (hr.mono (by decide)) pass0 (pa_cons (pv 0) (pa_cons (pe_lstN (pa_cons (pe_cn c_Float (hr.mono (by decide)) pass0 (pa_cons pe_int (pa_cons pe_str (pa_cons pe_int pa_nil)))) (pa_cons (pe_cn c_Float (hr.mono (by decide)) pass0 (pa_cons (pe_un un_neg pe_int) (pa_cons pe_str (pa_cons pe_int pa_nil)))) (pa_cons (pe_cn c_Float (hr.mono (by decide)) pass0 (pa_cons pe_int (pa_cons pe_str (pa_cons pe_int pa_nil)))) pa_nil)))) pa_nil))))) pss_nil)
  (pss_cons (ps_asg (pe_fn c_Lfinite (hr.mono (by decide)) pass0 (pa_cons (pv 0) pa_nil)) (pg_tup rfl (pgs_cons (pg_name (i := 1) sc_Lfloat.nd rfl (Or.inl rfl)) (pgs_cons (pg_name (i := 2) sc_Lfloat.nd rfl (Or.inl rfl)) (pgs_cons (pg_name (i := 3) sc_Lfloat.nd rfl (Or.inl rfl)) pgs_nil)))))
  (pss_one (ps_ret (pe_cn c_Float (hr.mono (by decide)) pass0 (pa_cons (pv 1) (pa_cons (pv 2) (pa_cons (pv 3) pa_nil)))))))), ?_⟩
    walk_at "go"
    refine ⟨a, _, rfl, by decide, by decide, hw, fun k H1 k0 k1 s1 hw1 => ?_⟩
    walk_at "go"
    refine g_ite (fun hk => ?_) fun hk => ?_
    · walk_at "go"
      refine mkF (mk_inf (.inl rfl)) fun H2 x2 n2 s2 h2 => ?_
      walk_at "go"
      refine mkF (mk_inf (.inr rfl)) fun H3 x3 n3 s3 h3 => ?_
      walk_at "go"
      refine mkF mk_nan fun H4 x4 n4 s4 h4 => ?_
      walk_at "go"
      refine g_new (sz rfl) fun l5 H5 n5 s5 h5 _ => ?_
      have S5 := ((s2.trans s3).trans s4).trans s5
      have hw4 := hw1.same ((s2.trans s3).trans s4)
      refine ⟨a, l5, _, rfl, hw4.same s5, h5, hw4.ne_none n5, by simp, by simp, fun v H6 hv s6 hw6 => ?_⟩
      have g : ∀ x (sg : Int) (tp : V) (p : Int), MkOk sg tp p → FlAt C H5 x sg (redV tp p).1 (redV tp p).2 → NumAt C H6 (.ref x) (.f sg (redV tp p).1 (redV tp p).2) := fun x sg tp p hm h => ⟨x, rfl, h.stp (hw4.same s5) s6, mk_flok hm⟩
      have T6 := (s1.trans (Stp.of S5)).trans s6
      simp only [List.mem_cons, List.not_mem_nil, or_false] at hv
      rcases hv with rfl | rfl | rfl
      · exact q _ _ _ _ _ T6 hw6 (g _ _ _ _ (mk_inf (.inl rfl)) (h2.same ((s3.trans s4).trans s5)))
      · exact q _ _ _ _ _ T6 hw6 (g _ _ _ _ (mk_inf (.inr rfl)) (h3.same (s4.trans s5)))
      · exact q _ _ _ _ _ T6 hw6 (g _ _ _ _ mk_nan (h4.same s5))
    · walk_at "go"
      refine ⟨a, rfl, hw1, fun b H2 sg t p n2 s2 hw2 h2 hd => ?_⟩
      walk_at "go"
      refine ⟨b, _, rfl, SqT.of h2, rfl, ?_⟩
      walk_at "go"
      refine mkF hd.mk fun H3 x3 n3 s3 h3 => ?_
      exact q _ _ _ _ _ ((s1.trans s2).trans (Stp.of s3)) (hw2.same s3) ⟨x3, rfl, h3, mk_flok hd.mk⟩
end
end Up

set_option Elab.async false
set_option linter.all false
set_option maxRecDepth 100000
set_option maxHeartbeats 4000000
set_option exponentiation.threshold 200000
namespace Up
open PySem PySem.Spec PyProof.Rows L2
local macro_rules | `(tactic| walk_at "u") => `(tactic| first
  | with_reducible refine g_seq ?_
  | with_reducible refine g_asg ?_
  | with_reducible refine g_op ?_
  | ((with_reducible show tVar _ _ _ _); apply g_var; exact rfl)
  | with_reducible refine g_c ?_
  | with_reducible refine g_name ?_
  | with_reducible refine g_ifs ?_
  | with_reducible refine g_tt ?_
  | with_reducible refine g_tB ?_
  | with_reducible refine g_bl ?_
  | with_reducible refine g_ret ?_
  | with_reducible refine g_cb ?_
  | with_reducible refine g_cons ?_
  | with_reducible refine g_nil ?_
  | with_reducible refine g_call ?_
  | with_reducible refine g_and ?_
  | with_reducible refine g_or ?_
  | with_reducible refine g_not ?_
  | with_reducible refine g_andV ?_
  | with_reducible refine g_orV ?_
  | with_reducible refine g_notV ?_
  | with_reducible refine g_if ?_
  | with_reducible refine g_un ?_
  | with_reducible refine g_neg ?_
  | with_reducible refine g_addI ?_
  | with_reducible refine g_subI ?_
  | with_reducible refine g_subB ?_
  | with_reducible refine g_I0 ?_
  | with_reducible refine g_cmpI ?_
  | with_reducible refine g_eqI ?_
  | with_reducible refine g_neI ?_
  | with_reducible refine g_eqS ?_
  | with_reducible refine g_neS ?_
  | with_reducible refine g_eqB ?_
  | with_reducible refine g_neB ?_
  | with_reducible refine g_bits ?_
  | with_reducible refine g_bitsI ?_
  | with_reducible refine g_fld ?_
  | with_reducible refine g_tup ?_
  | with_reducible refine g_lst ?_
  | with_reducible refine g_gtup ?_
  | with_reducible refine g_make ?_
  | with_reducible refine g_lc ?_
  | with_reducible refine g_yesT ?_
  | with_reducible refine g_intI ?_
  | with_reducible refine g_intB ?_
  | with_reducible refine g_max2 ?_
  | with_reducible refine g_abs1 ?_
  | with_reducible refine g_for ?_
  | with_reducible refine g_iList ?_
  | with_reducible refine g_iTup ?_
  | with_reducible refine g_iRng1 ?_
  | with_reducible refine g_iEnum ?_
  | with_reducible refine g_slice ?_
  | with_reducible refine g_po0 ?_
  | with_reducible refine g_po1 ?_
  | with_reducible refine g_gsub ?_
  | with_reducible refine g_par ?_
  | with_reducible refine g_par2 ?_
  | with_reducible refine g_rfl ?_
  | with_reducible refine g_meth ?_
  | with_reducible refine g_gcons ?_
  | with_reducible refine g_gnil ?_
  | with_reducible refine g_gfld ?_
  | with_reducible refine g_sfld ?_
  | with_reducible refine g_drop ?_
  | with_reducible refine g_next ?_
  | with_reducible refine iteT ?_
  | with_reducible refine iteF ?_)
local macro_rules | `(tactic| walk_at "go") => `(tactic| (repeat walk_at "u"))
local macro_rules | `(tactic| walk_at "f") => `(tactic| (repeat (first
  | walk_at "u"
  | with_reducible refine g_chain ?_
  | with_reducible refine g_par3 ?_
  | with_reducible refine g_par3' ?_
  | ((with_reducible refine show_ex ?_); first
    | refine fT (by assumption) (by assumption) ?_
    | refine fS (by assumption) (by assumption) ?_
    | refine fP (by assumption) (by assumption) ?_))))

section
variable {P : Program} {w : World} {K : PySem.W.Frag} {mg : Str → Option Value} {base : Heap} {C : Addr}
/-! _law_ratio -/
abbrev s_Lratio : Stmt := top 39
theorem sc_Lratio : FnScope ["_law_number"] ["_law_number"] (defScope s_Lratio) := ⟨rfl, rfl, rfl, by decide +kernel, rfl, by decide +kernel, by decide +kernel⟩
def mg' (x : FL) : Int := if x.p < 0 then nI x.t else nI x.t * 2 ^ x.p.toNat
theorem nx_mg (x : FL) : nx x = x.s * mg' x := by
  unfold nx ratN mg'
  split <;> rfl
def sp_Lratio (C : Addr) : Sp := fun vs H Q _ => ∃ v x n, vs = [v] ∧ FA C H v x ∧ x.ok ∧ x.t = .int n ∧ RetT H [.int (mg' x), .int (dx x)] Q
theorem ok_Lratio {f : Addr} {fd : FuncData} (F : FunD K "_law_ratio" "_law_ratio" (defArgs s_Lratio) (defBody s_Lratio) (defScope s_Lratio) [] [] f fd) (B : Blt mg) (T : FlC K mg C) : FnOk P w K mg base CX0 1 f fd ["_law_number"] (sp_Lratio C) := by
  refine F.ok sc_Lratio (fun vs H Q E h => ?_) (fun cdv A outer s H vs Q E hr h => ?_)
  · obtain ⟨_, _, _, rfl, _⟩ := h; rfl
  · obtain ⟨_, x, n, rfl, ⟨a, rfl, ha⟩, ox, en, q⟩ := h
    have ox' : FlOk x.s (.int n) x.p := en ▸ ox
    have hf := fin_of ox'
    have hhi := hf.hi
    obtain ⟨f1, f2, f3, f4, f5⟩ := hf
    unfold mg' dx ratD at q
    rw [en] at q ha
    refine ⟨_, PSs.nox (pss_cons (ps_if (pt_cmpR op_oLt (pe_fld (pv 0) rfl) pe_int (nomark _)) (pss_one (ps_ret (pe_tupN (pa_cons (pe_fld (pv 0) rfl) (pa_cons (pe_op op_oShl pe_int (pe_op op_oSub pe_int (pe_fld (pv 0) rfl))) pa_nil))))) pss_nil)
  (pss_one (ps_ret (pe_tupN (pa_cons (pe_op op_oShl (pe_fld (pv 0) rfl) (pe_fld (pv 0) rfl)) (pa_cons pe_int pa_nil)))))), ?_⟩
    walk_at "f"
    refine g_ite (fun hp => ?_) fun hp => ?_
    · walk_at "f"
      refine g_II (shl_small (by omega) (by omega) (lt_pow_mono (a := 1) (by decide) (by decide))) ?_
      walk_at "f"
      refine g_new (sz rfl) fun b H2 nb s2 hb _ => ?_
      rw [if_pos hp, if_pos hp] at q
      rw [Int.one_mul] at hb
      exact q _ _ nb s2 hb
    · walk_at "f"
      refine g_II (shl_small (by omega) (by omega) (lt_pow_mono (a := 53) (by omega) (by decide))) ?_
      walk_at "f"
      refine g_new (sz rfl) fun b H2 nb s2 hb _ => ?_
      rw [if_neg hp, if_neg hp] at q
      exact q _ _ nb s2 hb
/-! _law_scaled -/
abbrev s_Lscaled : Stmt := top 41
theorem sc_Lscaled : FnScope ["_law_number", "_law_power"] ["_law_number", "_law_power"] (defScope s_Lscaled) := ⟨rfl, rfl, rfl, by decide +kernel, rfl, by decide +kernel, by decide +kernel⟩
def sp_Lscaled : Sp := fun vs H Q _ => ∃ k e, vs = [.int k, .int e] ∧ -2000 ≤ e ∧ e ≤ 2000 ∧ k.natAbs < 2 ^ 100 ∧ RetT H [.int (k * (scN e : Nat)), .int (scD e : Nat)] Q
theorem ok_Lscaled {f : Addr} {fd : FuncData} (F : FunD K "_law_scaled" "_law_scaled" (defArgs s_Lscaled) (defBody s_Lscaled) (defScope s_Lscaled) [] [] f fd) (B : Blt mg) : FnOk P w K mg base CX0 1 f fd ["_law_number", "_law_power"] sp_Lscaled := by
  refine F.ok sc_Lscaled (fun vs H Q E h => ?_) (fun cdv A outer s H vs Q E hr h => ?_)
  · obtain ⟨_, _, rfl, _⟩ := h; rfl
  · obtain ⟨k, e, rfl, e1, e2, hk, q⟩ := h
    unfold scN scD at q
    refine ⟨_, PSs.nox (pss_one (ps_ret (pe_ifExp (pt_cmpR op_oGe (pv 1) pe_int (nomark _)) (pe_tupN (pa_cons (pe_op op_oShl (pv 0) (pv 1)) (pa_cons pe_int pa_nil))) (pe_tupN (pa_cons (pv 0) (pa_cons (pe_op op_oShl pe_int (pe_op op_oSub pe_int (pv 1))) pa_nil)))))), ?_⟩
    walk_at "f"
    refine g_ite (fun hp => ?_) fun hp => ?_
    · rw [if_pos hp, if_pos hp] at q
      walk_at "f"
      refine g_II (shl_small (by omega) (by omega) (lt_pow_mono hk (by decide))) ?_
      walk_at "f"
      refine g_new (sz rfl) fun b H2 nb s2 hb _ => ?_
      rw [Int.natCast_pow] at q
      exact q _ _ nb s2 hb
    · rw [if_neg hp, if_neg hp] at q
      walk_at "f"
      refine g_II (shl_small (by omega) (by omega) (lt_pow_mono (a := 1) (by decide) (by decide))) ?_
      walk_at "f"
      refine g_new (sz rfl) fun b H2 nb s2 hb _ => ?_
      rw [Int.one_mul] at hb
      rw [Int.natCast_pow, show k * ((1 : Nat) : Int) = k by omega] at q
      exact q _ _ nb s2 hb
/-! _law_is_nearest -/
structure Nrm (t b M : Nat) (e : Int) : Prop where
  lt : M < 2 ^ 53
  lo : -1074 ≤ e
  hi : e ≤ 971
  up : 2 * TT t ≤ (2 * M + 1) * (scW e * b)
  upE : 2 * TT t = (2 * M + 1) * (scW e * b) → M % 2 = 0
  dn : M = 2 ^ 52 → -1074 < e → 4 * M * (scW e * b) ≤ 4 * TT t + scW e * b
  dn' : ¬ (M = 2 ^ 52 ∧ -1074 < e) → 2 * M * (scW e * b) ≤ 2 * TT t + scW e * b ∧ (2 * M * (scW e * b) = 2 * TT t + scW e * b → M % 2 = 0)
theorem Norm.nrm {t b n M v : Nat} {p e : Int} (h : Norm t b n p M e v) : Nrm t b M e := ⟨h.lt, h.lo, h.hi, h.up, h.upE, h.dn, h.dn'⟩
theorem nrm_zero {t b : Nat} (h : 2 * TT t ≤ scW (-1074) * b) : Nrm t b 0 (-1074) := ⟨by decide, by decide, by decide, by omega, fun _ => rfl, fun z => absurd z (by decide), fun _ => ⟨by omega, fun _ => rfl⟩⟩
/-- not above -/
theorem Nrm.above {t b M : Nat} {e : Int} (h : Nrm t b M e) : ¬ (0 : Int) < (t : Int) * scD (e - 1) - ((2 * M + 1 : Nat) : Int) * scN (e - 1) * b ∧ ((t : Int) * scD (e - 1) - ((2 * M + 1 : Nat) : Int) * scN (e - 1) * b = 0 → M % 2 = 0) := by
  have hl := h.lo
  have z := sc_lt (t := t) (b := b) (k := 2 * M + 1) (e := e - 1) (by omega)
  rw [Int.natCast_mul] at z
  have s1 : scW e = 2 * scW (e - 1) := by
    have := scW_succ (e := e - 1) (by omega)
    rw [show e - 1 + 1 = e by omega] at this
    exact this
  have u1 := h.up
  have u2 := h.upE
  have e1 : (2 * M + 1) * (scW e * b) = 2 * ((2 * M + 1) * (scW (e - 1) * b)) := by
    rw [s1]; simp only [Nat.mul_assoc, Nat.mul_comm, Nat.mul_left_comm]
  rw [e1] at u1 u2
  refine ⟨fun y => ?_, fun y => ?_⟩
  · have := z.1.mp y
    omega
  · exact u2 (by have := z.2.mp y; omega)
/-- what low is: below, or as far and even -/
def LowOk (t b M : Nat) (k D : Int) : Prop := (0 < (t : Int) * D - k * b ∨ ((t : Int) * D - k * b = 0 ∧ M % 2 = 0))
theorem Nrm.below {t b M : Nat} {e : Int} (h : Nrm t b M e) (hb : 0 < b) (hn : ¬ (M = 2 ^ 52 ∧ -1074 < e)) : LowOk t b M ((2 * (M : Int) - 1) * scN (e - 1)) (scD (e - 1)) := by
  have hl := h.lo
  have hpos : 0 < scN (e - 1) := by unfold scN; split; exact Nat.two_pow_pos _; decide
  have hposD : 0 < scD (e - 1) := by unfold scD; split; decide; exact Nat.two_pow_pos _
  by_cases h0 : M = 0
  · subst h0
    refine .inl ?_
    have i1 : (0 : Int) ≤ (t : Int) * scD (e - 1) := Int.mul_nonneg (by omega) (by omega)
    have i2 : (0 : Int) < (scN (e - 1) : Int) * b := Int.mul_pos (by omega) (by omega)
    have i3 : (2 * ((0 : Nat) : Int) - 1) * (scN (e - 1) : Int) * b = -((scN (e - 1) : Int) * b) := by
      rw [show (2 * ((0 : Nat) : Int) - 1) = -1 by decide, Int.neg_one_mul, Int.neg_mul]
    rw [i3]
    omega
  · have z := sc_lt (t := t) (b := b) (k := 2 * M - 1) (e := e - 1) (by omega)
    rw [Int.natCast_mul] at z
    have ek : ((2 * M - 1 : Nat) : Int) = 2 * (M : Int) - 1 := by omega
    rw [ek] at z
    have s1 : scW e = 2 * scW (e - 1) := by
      have := scW_succ (e := e - 1) (by omega)
      rw [show e - 1 + 1 = e by omega] at this
      exact this
    obtain ⟨u1, u2⟩ := h.dn' hn
    have e1 : 2 * M * (scW e * b) = 2 * ((2 * M - 1) * (scW (e - 1) * b)) + scW e * b := by
      have : 2 * M = (2 * M - 1) + 1 := by omega
      rw [this, Nat.add_mul, Nat.one_mul, s1, show (2 * M - 1 + 1 - 1) = 2 * M - 1 by omega]
      congr 1
      simp only [Nat.mul_assoc, Nat.mul_comm, Nat.mul_left_comm]
    rw [e1] at u1 u2
    unfold LowOk
    rcases Nat.lt_or_ge ((2 * M - 1) * (scW (e - 1) * b)) (TT t) with y | y
    · exact .inl (z.1.mpr y)
    · have y' : (2 * M - 1) * (scW (e - 1) * b) = TT t := by omega
      exact .inr ⟨z.2.mpr y', u2 (by omega)⟩
theorem Nrm.below' {t b M : Nat} {e : Int} (h : Nrm t b M e) (h1 : M = 2 ^ 52) (h2 : -1074 < e) : LowOk t b M ((4 * (M : Int) - 1) * scN (e - 2)) (scD (e - 2)) := by
  have z := sc_lt (t := t) (b := b) (k := 4 * M - 1) (e := e - 2) (by omega)
  rw [Int.natCast_mul] at z
  have ek : ((4 * M - 1 : Nat) : Int) = 4 * (M : Int) - 1 := by omega
  rw [ek] at z
  have s1 : scW e = 4 * scW (e - 2) := by
    have a := scW_succ (e := e - 2) (by omega)
    have c := scW_succ (e := e - 1) (by omega)
    rw [show e - 2 + 1 = e - 1 by omega] at a
    rw [show e - 1 + 1 = e by omega] at c
    omega
  have u1 := h.dn h1 h2
  have e1 : 4 * M * (scW e * b) = 4 * ((4 * M - 1) * (scW (e - 2) * b)) + scW e * b := by
    have : 4 * M = (4 * M - 1) + 1 := by omega
    rw [this, Nat.add_mul, Nat.one_mul, s1, show (4 * M - 1 + 1 - 1) = 4 * M - 1 by omega]
    congr 1
    simp only [Nat.mul_assoc, Nat.mul_comm, Nat.mul_left_comm]
  rw [e1] at u1
  unfold LowOk
  rcases Nat.lt_or_ge ((4 * M - 1) * (scW (e - 2) * b)) (TT t) with y | y
  · exact .inl (z.1.mpr y)
  · have y' : (4 * M - 1) * (scW (e - 2) * b) = TT t := by omega
    exact .inr ⟨z.2.mpr y', by rw [h1]⟩
end
end Up

set_option Elab.async false
set_option linter.all false
set_option maxRecDepth 100000
set_option maxHeartbeats 4000000
set_option exponentiation.threshold 200000
namespace Up
open PySem PySem.Spec PyProof.Rows L2
local macro_rules | `(tactic| walk_at "u") => `(tactic| first
  | with_reducible refine g_seq ?_
  | with_reducible refine g_asg ?_
  | with_reducible refine g_op ?_
  | ((with_reducible show tVar _ _ _ _); apply g_var; exact rfl)
  | with_reducible refine g_c ?_
  | with_reducible refine g_name ?_
  | with_reducible refine g_ifs ?_
  | with_reducible refine g_tt ?_
  | with_reducible refine g_tB ?_
  | with_reducible refine g_bl ?_
  | with_reducible refine g_ret ?_
  | with_reducible refine g_cb ?_
  | with_reducible refine g_cons ?_
  | with_reducible refine g_nil ?_
  | with_reducible refine g_call ?_
  | with_reducible refine g_and ?_
  | with_reducible refine g_or ?_
  | with_reducible refine g_not ?_
  | with_reducible refine g_andV ?_
  | with_reducible refine g_orV ?_
  | with_reducible refine g_notV ?_
  | with_reducible refine g_if ?_
  | with_reducible refine g_un ?_
  | with_reducible refine g_neg ?_
  | with_reducible refine g_addI ?_
  | with_reducible refine g_subI ?_
  | with_reducible refine g_subB ?_
  | with_reducible refine g_I0 ?_
  | with_reducible refine g_cmpI ?_
  | with_reducible refine g_eqI ?_
  | with_reducible refine g_neI ?_
  | with_reducible refine g_eqS ?_
  | with_reducible refine g_neS ?_
  | with_reducible refine g_eqB ?_
  | with_reducible refine g_neB ?_
  | with_reducible refine g_bits ?_
  | with_reducible refine g_bitsI ?_
  | with_reducible refine g_fld ?_
  | with_reducible refine g_tup ?_
  | with_reducible refine g_lst ?_
  | with_reducible refine g_gtup ?_
  | with_reducible refine g_make ?_
  | with_reducible refine g_lc ?_
  | with_reducible refine g_yesT ?_
  | with_reducible refine g_intI ?_
  | with_reducible refine g_intB ?_
  | with_reducible refine g_max2 ?_
  | with_reducible refine g_abs1 ?_
  | with_reducible refine g_for ?_
  | with_reducible refine g_iList ?_
  | with_reducible refine g_iTup ?_
  | with_reducible refine g_iRng1 ?_
  | with_reducible refine g_iEnum ?_
  | with_reducible refine g_slice ?_
  | with_reducible refine g_po0 ?_
  | with_reducible refine g_po1 ?_
  | with_reducible refine g_gsub ?_
  | with_reducible refine g_par ?_
  | with_reducible refine g_par2 ?_
  | with_reducible refine g_rfl ?_
  | with_reducible refine g_meth ?_
  | with_reducible refine g_gcons ?_
  | with_reducible refine g_gnil ?_
  | with_reducible refine g_gfld ?_
  | with_reducible refine g_sfld ?_
  | with_reducible refine g_drop ?_
  | with_reducible refine g_next ?_
  | with_reducible refine iteT ?_
  | with_reducible refine iteF ?_)
local macro_rules | `(tactic| walk_at "go") => `(tactic| (repeat walk_at "u"))
local macro_rules | `(tactic| walk_at "f") => `(tactic| (repeat (first
  | walk_at "u"
  | with_reducible refine g_chain ?_
  | with_reducible refine g_par3 ?_
  | with_reducible refine g_par3' ?_
  | ((with_reducible refine show_ex ?_); first
    | refine fT (by assumption) (by assumption) ?_
    | refine fS (by assumption) (by assumption) ?_
    | refine fP (by assumption) (by assumption) ?_))))

section
variable {P : Program} {w : World} {K : PySem.W.Frag} {mg : Str → Option Value} {base : Heap} {C : Addr}
abbrev s_Lisnearest : Stmt := top 40
theorem sc_Lisnearest : FnScope ["_law_found", "_law_sign", "_law_top", "_law_bottom", "_law_edge", "_law_many", "_law_power", "_law_over", "_law_under", "_law_high", "_law_low", "_law_above", "_law_below", "_law_is_even"] ["_law_found", "_law_sign", "_law_top", "_law_bottom"] (defScope s_Lisnearest) := ⟨rfl, rfl, rfl, by decide +kernel, rfl, by decide +kernel, by decide +kernel⟩
theorem edge_int : (1 : Int) * 2 ^ Int.toNat 1024 - 1 * 2 ^ Int.toNat 970 = ((edgeN : Nat) : Int) := by
  have e1 : (2 : Int) ^ Int.toNat 1024 = 2 ^ 970 * 2 ^ 54 := by
    rw [← Int.pow_add]; rfl
  have e2 : Int.toNat 970 = 970 := rfl
  have e3 : ((edgeN : Nat) : Int) = 2 ^ 970 * (2 ^ 54 - 1) := by
    unfold edgeN
    rw [Int.natCast_mul, Int.natCast_pow]
    rfl
  rw [e1, e2, e3, Int.one_mul, Int.one_mul, Int.mul_sub, Int.mul_one]
theorem edge_small : edgeN < 2 ^ 1100 := by
  unfold edgeN
  have : 2 ^ 970 * (2 ^ 54 - 1) < 2 ^ 970 * 2 ^ 54 := Nat.mul_lt_mul_of_pos_left (by decide) (Nat.two_pow_pos _)
  rw [← Nat.pow_add] at this
  exact Nat.lt_of_lt_of_le this (Nat.pow_le_pow_right (by decide) (by decide))
/-- the float that is near, looked at -/
theorem near_cases {s : Int} {t b : Nat} (ht : 0 < t) (hb : 0 < b) : (nearL s t b = infL s ∧ edgeN * b ≤ t) ∨
    (t < edgeN * b ∧ ((nearL s t b = zeroL s ∧ Nrm t b 0 (-1074)) ∨ ∃ n p M e v, nearL s t b = ⟨s, .int (n : Nat), p⟩ ∧ Norm t b n p M e v ∧ 0 < M)) := by
  unfold nearL nearV
  rw [if_neg (by omega)]
  by_cases h1 : (bitsN (nrW t b) : Int) + nrP2 t b > 1024
  · rw [if_pos h1]
    exact .inl ⟨rfl, edge_yes ht hb (by omega)⟩
  · rw [if_neg h1]
    refine .inr ⟨edge_no ht hb (by omega), ?_⟩
    by_cases h0 : nrW t b = 0
    · refine .inl ⟨?_, nrm_zero (norm_zero ht hb h0)⟩
      rw [h0]; rfl
    · obtain ⟨M, e, v, hN, hM⟩ := norm_of ht hb h0 (by omega)
      refine .inr ⟨_, _, M, e, v, ?_, hN, hM⟩
      unfold mkL
      rw [red_nat h0]
theorem pow52 : (1 : Int) * 2 ^ Int.toNat 52 = 4503599627370496 := by decide
def sp_Lisnearest (C : Addr) : Sp := fun vs H Q _ => ∃ v s t b, vs = [v, .int s, .int ((t : Nat) : Int), .int ((b : Nat) : Int)] ∧ 0 < t ∧ 0 < b ∧ t < 2 ^ 6000 ∧ b < 2 ^ 6000 ∧ (s = 1 ∨ s = -1) ∧ FA C H v (nearL s t b) ∧ ∀ H', Same H H' → Q (.bl true) H'
theorem ok_Lisnearest {f : Addr} {fd : FuncData} (F : FunD K "_law_is_nearest" "_law_is_nearest" (defArgs s_Lisnearest) (defBody s_Lisnearest) (defScope s_Lisnearest) [] [] f fd) (B : Blt mg) (T : FlC K mg C) (c_Lscaled : Fn P w K mg base CX0 1 "_law_scaled" ["_law_number", "_law_power"] [] sp_Lscaled) : FnOk P w K mg base CX0 2 f fd ["_law_found", "_law_sign", "_law_top", "_law_bottom"] (sp_Lisnearest C) := by
  refine F.ok sc_Lisnearest (fun vs H Q E h => ?_) (fun cdv A outer s H vs Q E hr h => ?_)
  · obtain ⟨_, _, _, _, rfl, _⟩ := h; rfl
  · obtain ⟨_, sg, t, b, rfl, ht, hb, ht6, hb6, hs, ⟨a, rfl, ha⟩, q⟩ := h
    have me : IntMulOk ((edgeN : Nat) : Int) ((b : Nat) : Int) := mul_small (by rw [Int.natAbs_natCast]; exact lt_pow_mono edge_small (by decide)) (by rw [Int.natAbs_natCast]; exact lt_pow_mono hb6 (by decide))
    refine ⟨_, PSs.nox (pss_cons (ps_if (pt_cmpR (op_oNe hr.units) (pe_fld (pv 0) rfl) (pv 1) (nomark _)) (pss_one (ps_ret pe_bl)) pss_nil)
  (pss_cons (ps_set (i := 4) sc_Lisnearest.nd rfl (Or.inl rfl) (pe_op op_oSub (pe_op op_oShl pe_int pe_int) (pe_op op_oShl pe_int pe_int)))
  (pss_cons (ps_if (pt_cmpR (op_oEq hr.units) (pe_fld (pv 0) rfl) pe_str (nomark _)) (pss_one (ps_ret (pe_cmpR op_oGe (pv 2) (pe_op op_oMul (pv 4) (pv 3)) (nomark _)))) pss_nil)
  (pss_cons (ps_if (PW.pt (pw_or (pt_cmpR (op_oEq hr.units) (pe_fld (pv 0) rfl) pe_str (nomark _)) (pw_or1 (pt_cmpR op_oGe (pv 2) (pe_op op_oMul (pv 4) (pv 3)) (nomark _))))) (pss_one (ps_ret pe_bl)) pss_nil)
  (pss_cons (ps_par (i := 5) (j := 6) rfl sc_Lisnearest.nd rfl rfl (by decide) rfl rfl (pa_cons (pe_fld (pv 0) rfl) (pa_cons (pe_fld (pv 0) rfl) pa_nil)) (by rfl))
  (C8.pss_cut (ps_while PassesOwn.never (PW.pt (pw_and (pt_cmpR op_oGt (pv 5) pe_int (nomark _)) (pw_and (pt_cmpR op_oLt (pv 5) (pe_op op_oShl pe_int pe_int) (nomark _)) (pw_and1 (pt_cmpR op_oGt (pv 6) (pe_un un_neg pe_int) (nomark _))))))
    (pss_one (ps_par (i := 5) (j := 6) rfl sc_Lisnearest.nd rfl rfl (by decide) rfl rfl (pa_cons (pe_op op_oMul (pv 5) pe_int) (pa_cons (pe_op op_oSub (pv 6) pe_int) pa_nil)) (by rfl))))
  (C8.pss_cut (ps_if (pt_cmpR (op_oEq hr.units) (pv 5) pe_int (nomark _)) (pss_one (ps_set (i := 6) sc_Lisnearest.nd rfl (Or.inl rfl) (pe_un un_neg pe_int))) pss_nil)
  (pss_cons (ps_par (i := 7) (j := 8) rfl sc_Lisnearest.nd rfl rfl (by decide) rfl rfl (pa_cons (pe_op op_oAdd (pe_op op_oMul pe_int (pv 5)) pe_int) (pa_cons (pe_op op_oSub (pe_op op_oMul pe_int (pv 5)) pe_int) pa_nil)) (by rfl))
  (pss_cons (ps_par (i := 9) (j := 10) rfl sc_Lisnearest.nd rfl rfl (by decide) rfl rfl (pa_cons (pe_fn c_Lscaled (hr.mono (by decide)) pass0 (pa_cons (pv 7) (pa_cons (pe_op op_oSub (pv 6) pe_int) pa_nil))) (pa_cons (pe_fn c_Lscaled (hr.mono (by decide)) pass0 (pa_cons (pv 8) (pa_cons (pe_op op_oSub (pv 6) pe_int) pa_nil))) pa_nil)) (by rfl))
  (C8.pss_cut (ps_if (PW.pt (pw_and (pt_cmpR (op_oEq hr.units) (pv 5) (pe_op op_oShl pe_int pe_int) (nomark _)) (pw_and1 (pt_cmpR op_oGt (pv 6) (pe_un un_neg pe_int) (nomark _))))) (pss_one (ps_set (i := 10) sc_Lisnearest.nd rfl (Or.inl rfl) (pe_fn c_Lscaled (hr.mono (by decide)) pass0 (pa_cons (pe_op op_oSub (pe_op op_oMul pe_int (pv 5)) pe_int) (pa_cons (pe_op op_oSub (pv 6) pe_int) pa_nil))))) pss_nil)
  (pss_cons (ps_set (i := 11) sc_Lisnearest.nd rfl (Or.inl rfl) (pe_op op_oSub (pe_op op_oMul (pv 2) (pe_ix ix_seq (pv 9) pe_int (fun _ _ => rfl))) (pe_op op_oMul (pe_ix ix_seq (pv 9) pe_int (fun _ _ => rfl)) (pv 3))))
  (pss_cons (ps_set (i := 12) sc_Lisnearest.nd rfl (Or.inl rfl) (pe_op op_oSub (pe_op op_oMul (pv 2) (pe_ix ix_seq (pv 10) pe_int (fun _ _ => rfl))) (pe_op op_oMul (pe_ix ix_seq (pv 10) pe_int (fun _ _ => rfl)) (pv 3))))
  (pss_cons (ps_set (i := 13) sc_Lisnearest.nd rfl (Or.inl rfl) (pe_cmpR (op_oEq hr.units) (pe_op op_oMod (pe_callTy call_int1 (by rfl) B.int (by decide +kernel) (pa_cons (pv 5) pa_nil)) pe_int) pe_int (nomark _)))
  (pss_cons (ps_if (pt_cut (PW.pt (pw_or (pt_cmpR op_oGt (pv 11) pe_int (nomark _)) (pw_or1 (PW.pt (pw_and (pt_cmpR (op_oEq hr.units) (pv 11) pe_int (nomark _)) (pw_and1 (pt_not (pt_val (pv 13)))))))))) (pss_one (ps_ret pe_bl)) pss_nil)
  (pss_one (ps_ret (pe_or (pe_cmpR op_oGt (pv 12) pe_int (nomark _)) (pe_or (pe_and (pe_cmpR (op_oEq hr.units) (pv 12) pe_int (nomark _)) (pe_one (pv 13))) (pe_one (pe_cmpR (op_oEq hr.units) (pv 5) pe_int (nomark _))))))))))))))))))))), ?_⟩
    rcases near_cases (s := sg) ht hb with ⟨en, he⟩ | ⟨he, hc⟩
    · rw [en] at ha
      have ha : FlAt C H a sg (.str "inf") 0 := ha
      walk_at "f"
      refine g_iten (fun z => absurd rfl z) fun _ => ?_
      walk_at "f"
      refine g_II (shl_small (by decide) (by decide) (lt_pow_mono (a := 1) (by decide) (by decide))) ?_
      walk_at "f"
      refine g_II (shl_small (by decide) (by decide) (lt_pow_mono (a := 1) (by decide) (by decide))) ?_
      walk_at "f"
      rw [edge_int]
      refine g_yes rfl ?_
      walk_at "f"
      refine g_mulI me ?_
      walk_at "f"
      have e : decide (((edgeN : Nat) : Int) * ((b : Nat) : Int) ≤ ((t : Nat) : Int)) = true := decide_eq_true (by rw [← Int.natCast_mul]; exact Int.ofNat_le.mpr he)
      rw [e]
      exact q _ (Same.refl _)
    · have he' : ¬ ((edgeN : Nat) : Int) * ((b : Nat) : Int) ≤ ((t : Nat) : Int) := by
        rw [← Int.natCast_mul]
        exact fun z => absurd (Int.ofNat_le.mp z) (Nat.not_le.mpr he)
      obtain ⟨n, p, en, hn, hloop⟩ : ∃ (n : Nat) (p : Int), nearL sg t b = ⟨sg, .int (n : Nat), p⟩ ∧ n < 2 ^ 53 ∧ ((n = 0 ∧ Nrm t b 0 (-1074)) ∨ ∃ M e v, Norm t b n p M e v ∧ 0 < M) := by
        rcases hc with ⟨e1, e2⟩ | ⟨n, p, M, e, v, e1, e2, e3⟩
        · exact ⟨0, 0, e1, by decide, .inl ⟨rfl, e2⟩⟩
        · refine ⟨n, p, e1, ?_, .inr ⟨M, e, v, e2, e3⟩⟩
          have h1 := e2.eq
          have h2 := e2.lt
          have h3 : n * 1 ≤ n * 2 ^ v := Nat.mul_le_mul_left _ (Nat.two_pow_pos _)
          omega
      rw [en] at ha
      have ha : FlAt C H a sg (.int (n : Nat)) p := ha
      walk_at "f"
      refine g_iten (fun z => absurd rfl z) fun _ => ?_
      walk_at "f"
      refine g_II (shl_small (by decide) (by decide) (lt_pow_mono (a := 1) (by decide) (by decide))) ?_
      walk_at "f"
      refine g_II (shl_small (by decide) (by decide) (lt_pow_mono (a := 1) (by decide) (by decide))) ?_
      walk_at "f"
      rw [edge_int]
      refine g_eqV rfl ?_
      walk_at "f"
      refine g_no (by simp) ?_
      walk_at "f"
      refine g_eqV rfl ?_
      walk_at "f"
      refine g_no (by simp) ?_
      walk_at "f"
      refine g_mulI me ?_
      walk_at "f"
      refine g_no he' ?_
      walk_at "f"
      refine g_cut (fun σ' H2 => ∃ (M : Nat) (e : Int), σ' = [some (.ref a), some (.int sg), some (.int t), some (.int b), some (.int (edgeN : Nat)), some (.int M), some (.int e), none, none, none, none, none, none, none] ∧ H = H2 ∧ ((M = 0 ∧ Nrm t b 0 (-1074)) ∨ (0 < M ∧ Nrm t b M e))) ?_ ?_
      · rcases hloop with ⟨rfl, hz⟩ | ⟨M, e, v, N, hM⟩
        · refine g_while (fun m σ' H' => σ' = [some (.ref a), some (.int sg), some (.int t), some (.int b), some (.int (edgeN : Nat)), some (.int (0 : Nat)), some (.int p), none, none, none, none, none, none, none] ∧ H = H') 0 ⟨rfl, rfl⟩ ?_
          rintro m _ _ ⟨rfl, rfl⟩
          walk_at "f"
          refine g_no (by decide) ?_
          walk_at "f"
          exact ⟨0, p, rfl, rfl, .inl ⟨rfl, hz⟩⟩
        · have hn0 : 0 < n := by
            have := N.eq
            rcases Nat.eq_zero_or_pos n with z | z
            · rw [z, Nat.zero_mul] at this; omega
            · exact z
          have N1 := N.eq
          have N2 := N.pe
          have N3 := N.lt
          have N4 := N.lo
          have N5 := N.big
          refine g_while (fun m σ' H' => ∃ (i z : Nat), i + m = v ∧ z = n * 2 ^ i ∧ σ' = [some (.ref a), some (.int sg), some (.int t), some (.int b), some (.int (edgeN : Nat)), some (.int z), some (.int (p - i)), none, none, none, none, none, none, none] ∧ H = H') v ⟨0, n, by omega, by simp, by simp [L2.start], rfl⟩ ?_
          rintro m _ _ ⟨i, y, him, hy, rfl, rfl⟩
          have hpos : 0 < y := by rw [hy]; exact Nat.mul_pos hn0 (Nat.two_pow_pos _)
          have full : i < v → 2 * y ≤ M := fun hlt => by
            rw [← N1, hy]
            have : 2 ^ (i + 1) ≤ 2 ^ v := Nat.pow_le_pow_right (by decide) hlt
            rw [Nat.pow_succ] at this
            have := Nat.mul_le_mul_left n this
            rw [← Nat.mul_assoc] at this
            omega
          have same : i = v → y = M := fun z => by rw [hy, z]; exact N1
          have fin : i = v → ∃ (M : Nat) (e : Int), [some (V.ref a), some (.int sg), some (.int t), some (.int b), some (.int (edgeN : Nat)), some (.int y), some (.int (p - i)), none, none, none, none, none, none, none] = [some (.ref a), some (.int sg), some (.int t), some (.int b), some (.int (edgeN : Nat)), some (.int M), some (.int e), none, none, none, none, none, none, none] ∧ H = H ∧ ((M = 0 ∧ Nrm t b 0 (-1074)) ∨ (0 < M ∧ Nrm t b M e)) := fun z => by
            refine ⟨_, _, rfl, rfl, .inr ⟨hpos, ?_⟩⟩
            rw [same z, show p - (i : Int) = e by omega]
            exact N.nrm
          walk_at "f"
          refine g_yes (by omega) ?_
          walk_at "f"
          refine g_II (shl_small (by decide) (by decide) (lt_pow_mono (a := 1) (by decide) (by decide))) ?_
          rw [pow52]
          walk_at "f"
          with_reducible refine g_ite (fun h1 => ?_) fun h1 => ?_
          · walk_at "f"
            refine g_ite (fun h2 => ?_) fun h2 => ?_
            · walk_at "f"
              refine g_wbody ?_
              have hlt : i < v := by
                rcases Nat.lt_or_ge i v with z | z
                · exact z
                · have := same (by omega)
                  omega
              walk_at "f"
              refine g_mulI (.of_right (by decide)) ?_
              walk_at "f"
              refine ⟨m - 1, by omega, i + 1, y * 2, by omega, by rw [hy, Nat.pow_succ, Nat.mul_assoc], ?_, rfl⟩
              have e1 : ((y : Nat) : Int) * 2 = ((y * 2 : Nat) : Int) := by omega
              rw [e1, show p - (i : Int) - 1 = p - ((i + 1 : Nat) : Int) by omega]
              rfl
            · walk_at "f"
              exact fin (by omega)
          · walk_at "f"
            refine fin ?_
            rcases Nat.lt_or_ge i v with z | z
            · have := full z
              omega
            · omega
      · rintro _ _ ⟨M, e, rfl, rfl, hM⟩
        walk_at "f"
        refine g_cut (fun σ' H2 => ∃ (M : Nat) (e : Int), σ' = [some (.ref a), some (.int sg), some (.int t), some (.int b), some (.int (edgeN : Nat)), some (.int M), some (.int e), none, none, none, none, none, none, none] ∧ H = H2 ∧ Nrm t b M e) ?_ ?_
        · walk_at "f"
          refine g_ite (fun h1 => ?_) fun h1 => ?_
          · walk_at "f"
            rcases hM with ⟨rfl, hz⟩ | ⟨h2, _⟩
            · exact ⟨0, -1074, rfl, rfl, hz⟩
            · omega
          · walk_at "f"
            rcases hM with ⟨rfl, hz⟩ | ⟨h2, hz⟩
            · exact absurd rfl h1
            · exact ⟨M, e, rfl, rfl, hz⟩
        · clear hM
          rintro _ _ ⟨M, e, rfl, rfl, N⟩
          have N1 := N.lt
          have N2 := N.lo
          have N3 := N.hi
          walk_at "f"
          refine g_mulI (.of_left (by decide)) ?_
          walk_at "f"
          refine g_mulI (.of_left (by decide)) ?_
          walk_at "f"
          refine ⟨_, _, rfl, by omega, by omega, lt_pow_mono (a := 60) (by omega) (by decide), fun H1 l1 n1 s1 h1 => ?_⟩
          walk_at "f"
          refine ⟨_, _, rfl, by omega, by omega, lt_pow_mono (a := 60) (by omega) (by decide), fun H2 l2 n2 s2 h2 => ?_⟩
          have h1 := s2 _ _ h1
          walk_at "f"
          have smN : ∀ f : Int, -2000 ≤ f → f ≤ 2000 → scN f < 2 ^ 2001 ∧ scD f < 2 ^ 2001 := fun f f1 f2 => by
            unfold scN scD
            split
            · exact ⟨Nat.pow_lt_pow_right (by decide) (by omega), lt_pow_mono (a := 1) (by decide) (by decide)⟩
            · exact ⟨lt_pow_mono (a := 1) (by decide) (by decide), Nat.pow_lt_pow_right (by decide) (by omega)⟩
          have smK : ∀ (k : Int) (f : Int), k.natAbs < 2 ^ 60 → -2000 ≤ f → f ≤ 2000 → (k * (scN f : Nat)).natAbs < 2 ^ 5000 ∧ ((scD f : Nat) : Int).natAbs < 2 ^ 5000 := fun k f hk f1 f2 => by
            obtain ⟨a1, a2⟩ := smN f f1 f2
            refine ⟨?_, by rw [Int.natAbs_natCast]; exact lt_pow_mono a2 (by decide)⟩
            have := natAbs_mul_lt (y := ((scN f : Nat) : Int)) hk (by rw [Int.natAbs_natCast]; exact a1)
            exact lt_pow_mono this (by decide)
          refine g_cut (fun σ' H3 => ∃ (l : Addr) (k D : Int), σ' = [some (.ref a), some (.int sg), some (.int t), some (.int b), some (.int (edgeN : Nat)), some (.int M), some (.int e), some (.int (2 * (M : Int) + 1)), some (.int (2 * (M : Int) - 1)), some (.ref l1), some (.ref l), none, none, none] ∧ Same H2 H3 ∧ H3 l = some (.tup [.int k, .int D]) ∧ k.natAbs < 2 ^ 5000 ∧ D.natAbs < 2 ^ 5000 ∧ LowOk t b M k D) ?_ ?_
          · walk_at "f"
            refine g_II (shl_small (by decide) (by decide) (lt_pow_mono (a := 1) (by decide) (by decide))) ?_
            rw [pow52]
            walk_at "f"
            with_reducible refine g_ite (fun h3 => ?_) fun h3 => ?_
            · walk_at "f"
              refine g_ite (fun h4 => ?_) fun h4 => ?_
              · walk_at "f"
                refine g_mulI (.of_left (by decide)) ?_
                walk_at "f"
                refine ⟨_, _, rfl, by omega, by omega, lt_pow_mono (a := 60) (by omega) (by decide), fun H3 l3 n3 s3 h3' => ?_⟩
                walk_at "f"
                obtain ⟨z1, z2⟩ := smK (4 * (M : Int) - 1) (e - 2) (by omega) (by omega) (by omega)
                exact ⟨l3, _, _, rfl, s3, h3', z1, z2, N.below' (by omega) h4⟩
              · walk_at "f"
                obtain ⟨z1, z2⟩ := smK (2 * (M : Int) - 1) (e - 1) (by omega) (by omega) (by omega)
                exact ⟨l2, _, _, rfl, Same.refl _, h2, z1, z2, N.below hb fun z => h4 z.2⟩
            · walk_at "f"
              obtain ⟨z1, z2⟩ := smK (2 * (M : Int) - 1) (e - 1) (by omega) (by omega) (by omega)
              exact ⟨l2, _, _, rfl, Same.refl _, h2, z1, z2, N.below hb fun z => h3 (by rw [z.1]; rfl)⟩
          · rintro _ H3 ⟨l, k, D, rfl, s3, h3, k1, k2, low⟩
            have h1 := s3 _ _ h1
            have tm : ((t : Nat) : Int).natAbs < 2 ^ 6000 := by rw [Int.natAbs_natCast]; exact ht6
            have bm : ((b : Nat) : Int).natAbs < 2 ^ 6000 := by rw [Int.natAbs_natCast]; exact hb6
            obtain ⟨ab1, ab2⟩ := N.above
            walk_at "f"
            refine g_ixT h1 rfl ?_
            obtain ⟨hi1, hi2⟩ := smK (2 * (M : Int) + 1) (e - 1) (by omega) (by omega) (by omega)
            refine g_mulI (mul_small (lt_pow_mono tm (by decide)) (lt_pow_mono hi2 (by decide))) ?_
            walk_at "f"
            refine g_ixT h1 rfl ?_
            walk_at "f"
            refine g_mulI (mul_small (lt_pow_mono hi1 (by decide)) (lt_pow_mono bm (by decide))) ?_
            walk_at "f"
            refine g_ixT h3 rfl ?_
            refine g_mulI (mul_small (lt_pow_mono tm (by decide)) (lt_pow_mono k2 (by decide))) ?_
            walk_at "f"
            refine g_ixT h3 rfl ?_
            walk_at "f"
            refine g_mulI (mul_small (lt_pow_mono k1 (by decide)) (lt_pow_mono bm (by decide))) ?_
            walk_at "f"
            refine g_modI (by decide) ?_
            walk_at "f"
            have em : (M : Int).fmod 2 = ((M % 2 : Nat) : Int) := by rw [Int.fmod_eq_emod_of_nonneg _ (by decide)]; rfl
            rw [em]
            have ek : ((2 * M + 1 : Nat) : Int) = 2 * (M : Int) + 1 := by omega
            rw [ek] at ab1 ab2
            have Sall : Same H H3 := (s1.trans s2).trans s3
            have ev : M % 2 = 0 → (((M % 2 : Nat) : Int) = 0) := fun z => by rw [z]; rfl
            generalize ((t : Int) * (scD (e - 1) : Nat) - (2 * (M : Int) + 1) * (scN (e - 1) : Nat) * (b : Int)) = ab at *
            unfold LowOk at low
            generalize ((t : Int) * D - k * (b : Int)) = be at *
            have last : Q (.bl true) H3 := q _ Sall
            refine g_cutT (fun c H' => c = false ∧ H3 = H') ?_ ?_
            · walk_at "f"
              refine g_no ab1 ?_
              walk_at "f"
              refine g_ite (fun h5 => ?_) fun h5 => ?_
              · walk_at "f"
                rw [decide_eq_true (ev (ab2 h5))]
                exact ⟨rfl, rfl⟩
              · exact ⟨rfl, rfl⟩
            · rintro _ _ ⟨rfl, rfl⟩
              walk_at "f"
              refine g_ite (fun h5 => ?_) fun h5 => ?_
              · exact last
              · rcases low with z | ⟨z1, z2⟩
                · exact absurd z h5
                · walk_at "f"
                  refine g_yes z1 ?_
                  walk_at "f"
                  rw [decide_eq_true (ev z2)]
                  exact last
end
end Up

set_option Elab.async false
set_option linter.all false
set_option pp.maxSteps 600
set_option maxRecDepth 100000
set_option maxHeartbeats 4000000
set_option exponentiation.threshold 200000
namespace Up
open PySem PySem.Spec PyProof.Rows L2
local macro_rules | `(tactic| walk_at "u") => `(tactic| first
  | with_reducible refine g_seq ?_
  | with_reducible refine g_asg ?_
  | with_reducible refine g_op ?_
  | ((with_reducible show tVar _ _ _ _); apply g_var; exact rfl)
  | with_reducible refine g_c ?_
  | with_reducible refine g_name ?_
  | with_reducible refine g_ifs ?_
  | with_reducible refine g_tt ?_
  | with_reducible refine g_tB ?_
  | with_reducible refine g_bl ?_
  | with_reducible refine g_ret ?_
  | with_reducible refine g_cb ?_
  | with_reducible refine g_cons ?_
  | with_reducible refine g_nil ?_
  | with_reducible refine g_call ?_
  | with_reducible refine g_and ?_
  | with_reducible refine g_or ?_
  | with_reducible refine g_not ?_
  | with_reducible refine g_andV ?_
  | with_reducible refine g_orV ?_
  | with_reducible refine g_notV ?_
  | with_reducible refine g_if ?_
  | with_reducible refine g_un ?_
  | with_reducible refine g_neg ?_
  | with_reducible refine g_addI ?_
  | with_reducible refine g_subI ?_
  | with_reducible refine g_subB ?_
  | with_reducible refine g_I0 ?_
  | with_reducible refine g_cmpI ?_
  | with_reducible refine g_eqI ?_
  | with_reducible refine g_neI ?_
  | with_reducible refine g_eqS ?_
  | with_reducible refine g_neS ?_
  | with_reducible refine g_eqB ?_
  | with_reducible refine g_neB ?_
  | with_reducible refine g_bits ?_
  | with_reducible refine g_bitsI ?_
  | with_reducible refine g_fld ?_
  | with_reducible refine g_tup ?_
  | with_reducible refine g_lst ?_
  | with_reducible refine g_gtup ?_
  | with_reducible refine g_make ?_
  | with_reducible refine g_lc ?_
  | with_reducible refine g_yesT ?_
  | with_reducible refine g_intI ?_
  | with_reducible refine g_intB ?_
  | with_reducible refine g_max2 ?_
  | with_reducible refine g_abs1 ?_
  | with_reducible refine g_for ?_
  | with_reducible refine g_iList ?_
  | with_reducible refine g_iTup ?_
  | with_reducible refine g_iRng1 ?_
  | with_reducible refine g_iEnum ?_
  | with_reducible refine g_slice ?_
  | with_reducible refine g_po0 ?_
  | with_reducible refine g_po1 ?_
  | with_reducible refine g_gsub ?_
  | with_reducible refine g_par ?_
  | with_reducible refine g_par2 ?_
  | with_reducible refine g_rfl ?_
  | with_reducible refine g_meth ?_
  | with_reducible refine g_gcons ?_
  | with_reducible refine g_gnil ?_
  | with_reducible refine g_gfld ?_
  | with_reducible refine g_sfld ?_
  | with_reducible refine g_drop ?_
  | with_reducible refine g_next ?_
  | with_reducible refine iteT ?_
  | with_reducible refine iteF ?_)
local macro_rules | `(tactic| walk_at "go") => `(tactic| (repeat walk_at "u"))
local macro_rules | `(tactic| walk_at "f") => `(tactic| (repeat (first
  | walk_at "u"
  | with_reducible refine g_chain ?_
  | with_reducible refine g_par3 ?_
  | with_reducible refine g_par3' ?_
  | ((with_reducible refine show_ex ?_); first
    | refine fT (by assumption) (by assumption) ?_
    | refine fS (by assumption) (by assumption) ?_
    | refine fP (by assumption) (by assumption) ?_))))

section
variable {P : Program} {w : World} {K : PySem.W.Frag} {mg : Str → Option Value} {base : Heap} {C CT : Addr}
abbrev CDraw (P : Program) (w : World) (K : PySem.W.Frag) (mg : Str → Option Value) (base : Heap) : Prop := Fn P w K mg base CX0 1 "_law_draw" ["_law_well_here", "_law_many"] [] sp_Ldraw
abbrev COne (P : Program) (w : World) (K : PySem.W.Frag) (mg : Str → Option Value) (base : Heap) : Prop := Fn P w K mg base CX0 2 "_law_one" ["_law_well_here", "_law_some"] [] sp_Lone
abbrev CGreat (P : Program) (w : World) (K : PySem.W.Frag) (mg : Str → Option Value) (base : Heap) : Prop := Fn P w K mg base CX0 2 "_law_great" ["_law_well_here", "_law_bits"] [] sp_Lgreat
abbrev CAr6 (P : Program) (w : World) (K : PySem.W.Frag) (mg : Str → Option Value) (base : Heap) (C CT : Addr) : Prop := Fn P w K mg base (L2.CX P w) 9 "arith" ["word", "one", "other"] [] (sp_arith6 C CT)
theorem pe_fnS {X : Cx} {CX : CXT} {k : Nat} {x : Str} {ps : List Str} {sp : Sp} {E : L2.St → XK} {p pos : Pos} {e : Expr} {es : List Expr} {t : TA} (F : Fn X.prog X.w X.K X.mg X.base CX k x ps [] sp) (hr : Room k X.A) (hx : ∀ σ, PassesAt CX X σ (E σ)) (ha : PA X (e :: es) t) (hg : Gl X x := by rfl)
    (hdb : (x == ("__debug__" : Str)) = false := by decide) (he : starEach (e :: es) X.env = (false, eval e X.env) :: starEach es X.env := by rfl) (hpl : (backTo pos (starEach es X.env)).any (·.1) = false := by rfl) :
    PE X (.Call (.Name x p) (e :: es) [] pos) (tCallS sp E t) := by
  obtain ⟨f, fd, ds, F, hm, hk, hb, hd⟩ := F
  cases hd
  exact pe_callS F hr hg hm hk hb hx ha hdb he hpl
theorem thr_value (v l : V) : (thrF v l).lookup ("value" : Str) = some v := by
  have h1 : (("value" : Str) == ("level" : Str)) = false := by decide +kernel
  have h2 : (("value" : Str) == ("value" : Str)) = true := by decide +kernel
  simp only [List.lookup, h1, h2]
/-! _law_said -/
abbrev s_Lsaid : Stmt := top 42
theorem sc_Lsaid : FnScope ["_law_word", "_law_one_here", "_law_other", "e"] ["_law_word", "_law_one_here", "_law_other"] (defScope s_Lsaid) := ⟨rfl, rfl, rfl, by decide +kernel, rfl, by decide +kernel, by decide +kernel⟩
def SaidR (c : Str) (k l : Int) (H : Hp) (Q : VK) : Prop := ((c = "floor" ∨ c = "mod") ∧ l = 0 ∧ RetL H [.str (thrT c)] Q) ∨ (((c = "floor" ∨ c = "mod") → l ≠ 0) ∧ ∀ H', Same H H' → Q (.int (arI c k l)) H')
def sp_Lsaid : Sp := fun vs H Q _ => ∃ c k l, vs = [.str c, .int k, .int l] ∧ Wd6 c ∧ c ≠ "div" ∧ bigOk k ∧ bigOk l ∧ SaidR c k l H Q
theorem ok_Lsaid {f : Addr} {fd : FuncData} (F : FunD K "_law_said" "_law_said" (defArgs s_Lsaid) (defBody s_Lsaid) (defScope s_Lsaid) [] [] f fd) (B : Blt mg) (T : ThK K mg CT) (c_arith : CAr6 P w K mg base C CT) : FnOk P w K mg base CX0 10 f fd ["_law_word", "_law_one_here", "_law_other"] sp_Lsaid := by
  refine F.ok sc_Lsaid (fun vs H Q E h => ?_) (fun cdv A outer s H vs Q E hr h => ?_)
  · obtain ⟨_, _, _, rfl, _⟩ := h; rfl
  · obtain ⟨c, k, l, rfl, hc, hd, bk, bl, q⟩ := h
    have hr9 : Room 9 _ := hr
    refine ⟨_, pss_one (ps_try_as (i := 3) (tb := fun W => tRet (tCallS (sp_arith6 C CT) (WE W) (tCons (tVar 0) (tCons (tVar 1) (tCons (tVar 2) tNil))))) (ts := fun a cls d => tRet (tLstN (tCons (tXf a cls d CT "value" (tVar 3)) tNil))) (Wout := fun _ _ _ _ => False) rfl rfl sc_Lsaid.nd rfl rfl ⟨rfl, by decide, Or.inl T.mg⟩ takes0
      (fun W pn xe tk _ => pss_one (ps_ret (by exact (pe_fnS c_arith hr9 (fun σ => passAt tk σ) (by exact (pa_cons (pv 0) (pa_cons (pv 1) (pa_cons (pv 2) pa_nil))))))))
      (fun a oe cls d pn hz hf => pss_one (ps_ret (by exact (pe_lstN (pa_cons (pe_xf T.xf T.nV hz hf (pv 3)) pa_nil)))))), ?_⟩
    refine ⟨_, rfl, _, rfl, _, rfl, c, _, _, .i k, .i l, rfl, hc, rfl, rfl, bk, bl, .inr ⟨k, l, rfl, rfl, hd, ?_⟩⟩
    rcases q with ⟨h1, h2, q⟩ | ⟨h1, q⟩
    · refine .inl ⟨h1, h2, fun d H' s h => ?_⟩
      refine ⟨true, T.te, fun _ a na => ?_, fun z => by cases z⟩
      refine ⟨_, rfl, rfl, rfl, d, _, _, rfl, h, thr_value _ _, ?_⟩
      refine g_new (sz rfl) fun p H2 n2 s2 h2 _ => ?_
      exact q _ _ (s.free n2) (s.trans s2) h2
    · exact .inr ⟨h1, q⟩
/-! _law_wrapped -/
abbrev s_Lwrapped : Stmt := top 43
theorem sc_Lwrapped : FnScope ["_law_number"] ["_law_number"] (defScope s_Lwrapped) := ⟨rfl, rfl, rfl, by decide +kernel, rfl, by decide +kernel, by decide +kernel⟩
def sp_Lwrapped : Sp := fun vs H Q _ => ∃ n, vs = [.int n] ∧ n.natAbs < 2 ^ 200 ∧ Q (.int (wrapI n)) H
theorem wrap_eq {m n : Int} (h : (m - n) % 18446744073709551616 = 0) : wrapI m = wrapI n := by
  unfold wrapI
  rw [Int.fmod_eq_emod_of_nonneg _ (by decide), Int.fmod_eq_emod_of_nonneg _ (by decide)]
  omega
theorem wrap_id {m : Int} (h1 : -9223372036854775808 ≤ m) (h2 : m < 9223372036854775808) : wrapI m = m := by
  unfold wrapI
  rw [Int.fmod_eq_emod_of_nonneg _ (by decide)]
  omega
theorem e63 : (1 : Int) * 2 ^ Int.toNat 63 = 9223372036854775808 := by decide
theorem e64 : (1 : Int) * 2 ^ Int.toNat 64 = 18446744073709551616 := by decide
theorem shl1 {j : Int} (h0 : 0 ≤ j) (h : j ≤ 100000) : CShl 1 j := shl_small h0 h (lt_pow_mono (a := 1) (by decide) (by decide))
theorem ok_Lwrapped {f : Addr} {fd : FuncData} (F : FunD K "_law_wrapped" "_law_wrapped" (defArgs s_Lwrapped) (defBody s_Lwrapped) (defScope s_Lwrapped) [] [] f fd) (B : Blt mg) : FnOk P w K mg base CX0 1 f fd ["_law_number"] sp_Lwrapped := by
  refine F.ok sc_Lwrapped (fun vs H Q E h => ?_) (fun cdv A outer s H vs Q E hr h => ?_)
  · obtain ⟨_, rfl, _⟩ := h; rfl
  · obtain ⟨n, rfl, hn, q⟩ := h
    refine ⟨_, PSs.nox (C8.pss_cut (ps_while PassesOwn.never (pt_cmpR op_oGt (pv 0) (pe_op op_oSub (pe_op op_oShl pe_int pe_int) pe_int) (nomark _))
    (pss_one (ps_set (i := 0) sc_Lwrapped.nd rfl (Or.inl rfl) (pe_op op_oSub (pv 0) (pe_op op_oMul (pe_op op_oShl pe_int pe_int) (pe_op op_oAdd pe_int (pe_op op_oDiv (pe_op op_oSub (pv 0) (pe_op op_oShl pe_int pe_int)) (pe_op op_oShl pe_int pe_int))))))))
  (pss_cons (ps_while PassesOwn.never (pt_cmpR op_oLt (pv 0) (pe_un un_neg (pe_op op_oShl pe_int pe_int)) (nomark _))
    (pss_one (ps_set (i := 0) sc_Lwrapped.nd rfl (Or.inl rfl) (pe_op op_oAdd (pv 0) (pe_op op_oMul (pe_op op_oShl pe_int pe_int) (pe_op op_oAdd pe_int (pe_op op_oDiv (pe_op op_oSub (pe_op op_oSub (pe_un un_neg (pe_op op_oShl pe_int pe_int)) (pv 0)) pe_int) (pe_op op_oShl pe_int pe_int))))))))
  (pss_one (ps_ret (pv 0))))), ?_⟩
    have sm : ∀ m : Int, m.natAbs < 2 ^ 201 → IntMulOk 18446744073709551616 (1 + m.fdiv 18446744073709551616) := fun m hm => by
      have hm : m.natAbs < 3213876088517980551083924184682325205044405987565585670602752 := hm
      refine mul_small (lt_pow_mono (a := 65) (by decide) (by decide)) (lt_pow_mono (a := 202) ?_ (by decide))
      rw [Int.fdiv_eq_ediv_of_nonneg _ (by decide)]
      show _ < 6427752177035961102167848369364650410088811975131171341205504
      omega
    have hn : n.natAbs < 1606938044258990275541962092341162602522202993782792835301376 := hn
    refine g_cut (fun σ' H' => ∃ m : Int, σ' = [some (.int m)] ∧ H = H' ∧ wrapI m = wrapI n ∧ m < 9223372036854775808 ∧ m.natAbs < 1606938044258990275541962092341162602522202993782792835301376) ?_ ?_
    · refine g_while (fun j σ' H' => ∃ m : Int, m.toNat = j ∧ σ' = [some (.int m)] ∧ H = H' ∧ wrapI m = wrapI n ∧ m.natAbs < 1606938044258990275541962092341162602522202993782792835301376) _ ⟨n, rfl, rfl, rfl, rfl, hn⟩ ?_
      rintro j _ _ ⟨m, hj, rfl, rfl, hw, hm⟩
      walk_at "f"
      refine g_II (shl1 (by decide) (by decide)) ?_
      rw [e63]
      walk_at "f"
      with_reducible refine g_ite (fun h1 => ?_) fun h1 => ?_
      · refine g_wbody ?_
        walk_at "f"
        refine g_II (shl1 (by decide) (by decide)) ?_
        rw [e64]
        walk_at "f"
        refine g_II (shl1 (by decide) (by decide)) ?_
        rw [e63]
        walk_at "f"
        refine g_II (shl1 (by decide) (by decide)) ?_
        rw [e64]
        refine g_divI (by decide) (by decide) ?_
        walk_at "f"
        refine g_mulI (sm _ (by show _ < 3213876088517980551083924184682325205044405987565585670602752; omega)) ?_
        walk_at "f"
        have ed : (m - 9223372036854775808).fdiv 18446744073709551616 = (m - 9223372036854775808) / 18446744073709551616 := Int.fdiv_eq_ediv_of_nonneg _ (by decide)
        rw [ed]
        refine ⟨_, ?_, _, rfl, rfl, rfl, ?_, ?_⟩
        · omega
        · rw [← hw]
          exact wrap_eq (by omega)
        · omega
      · walk_at "f"
        exact ⟨m, rfl, rfl, hw, by omega, hm⟩
    · rintro _ _ ⟨m, rfl, rfl, hw, h1, hm⟩
      refine g_seq ?_
      refine g_while (fun j σ' H' => ∃ m : Int, (-m).toNat = j ∧ σ' = [some (.int m)] ∧ H = H' ∧ wrapI m = wrapI n ∧ m < 9223372036854775808 ∧ m.natAbs < 1606938044258990275541962092341162602522202993782792835301376) _ ⟨m, rfl, rfl, rfl, hw, h1, hm⟩ ?_
      rintro j _ _ ⟨m, hj, rfl, rfl, hw, h1, hm⟩
      walk_at "f"
      refine g_II (shl1 (by decide) (by decide)) ?_
      rw [e63]
      walk_at "f"
      with_reducible refine g_ite (fun h2 => ?_) fun h2 => ?_
      · refine g_wbody ?_
        walk_at "f"
        refine g_II (shl1 (by decide) (by decide)) ?_
        rw [e64]
        walk_at "f"
        refine g_II (shl1 (by decide) (by decide)) ?_
        rw [e63]
        walk_at "f"
        refine g_II (shl1 (by decide) (by decide)) ?_
        rw [e64]
        refine g_divI (by decide) (by decide) ?_
        walk_at "f"
        refine g_mulI (sm _ (by show _ < 3213876088517980551083924184682325205044405987565585670602752; omega)) ?_
        walk_at "f"
        have ed : (-9223372036854775808 - m - 1).fdiv 18446744073709551616 = (-9223372036854775808 - m - 1) / 18446744073709551616 := Int.fdiv_eq_ediv_of_nonneg _ (by decide)
        rw [ed]
        refine ⟨_, ?_, _, rfl, rfl, rfl, ?_, ?_, ?_⟩
        · omega
        · rw [← hw]
          exact wrap_eq (by omega)
        · omega
        · omega
      · walk_at "f"
        rw [← hw, wrap_id (by omega) h1] at q
        exact q
/-! _law_int -/
abbrev s_Lint : Stmt := top 44
theorem sc_Lint : FnScope ["_law_well_here", "_law_some"] ["_law_well_here"] (defScope s_Lint) := ⟨rfl, rfl, rfl, by decide +kernel, rfl, by decide +kernel, by decide +kernel⟩
def sp_Lint : Sp := fun vs H Q _ => ∃ (a : Addr), vs = [.ref a] ∧ Well H a ∧ ∀ k H', -9223372036854775808 ≤ k → k < 9223372036854775808 → Stp a H H' → Well H' a → Q (.int k) H'
theorem ok_Lint {f : Addr} {fd : FuncData} (F : FunD K "_law_int" "_law_int" (defArgs s_Lint) (defBody s_Lint) (defScope s_Lint) [] [] f fd) (B : Blt mg) (c_Ldraw : CDraw P w K mg base) (c_Lone : COne P w K mg base) (c_Lgreat : CGreat P w K mg base) : FnOk P w K mg base CX0 3 f fd ["_law_well_here"] sp_Lint := by
  refine F.ok sc_Lint (fun vs H Q E h => ?_) (fun cdv A outer s H vs Q E hr h => ?_)
  · obtain ⟨a, rfl, _⟩ := h; rfl
  · obtain ⟨a, rfl, hw, q⟩ := h
    refine ⟨_, PSs.nox (pss_cons (ps_set (i := 1) sc_Lint.nd rfl (Or.inl rfl) (pe_lstN (pa_cons (pe_op op_oSub (pe_fn c_Ldraw (hr.mono (by decide)) pass0 (pa_cons (pv 0) (pa_cons pe_int pa_nil))) pe_int) (pa_cons (pe_op op_oSub (pe_fn c_Lgreat (hr.mono (by decide)) pass0 (pa_cons (pv 0) (pa_cons pe_int pa_nil))) (pe_op op_oShl pe_int pe_int)) (pa_cons (pe_un un_neg (pe_op op_oShl pe_int pe_int)) (pa_cons (pe_op op_oSub (pe_op op_oSub (pe_op op_oShl pe_int pe_int) pe_int) (pe_fn c_Ldraw (hr.mono (by decide)) pass0 (pa_cons (pv 0) (pa_cons pe_int pa_nil)))) pa_nil))))))
  (pss_one (ps_ret (pe_fn c_Lone (hr.mono (by decide)) pass0 (pa_cons (pv 0) (pa_cons (pe_op op_oAdd (pv 1) (pe_lstN (pa_cons (pe_op op_oSub (pe_fn c_Lgreat (hr.mono (by decide)) pass0 (pa_cons (pv 0) (pa_cons pe_int pa_nil))) (pe_op op_oShl pe_int pe_int)) pa_nil))) pa_nil)))))), ?_⟩
    walk_at "go"
    refine ⟨a, _, rfl, by decide, by decide, hw, fun d1 H1 a1 b1 s1 hw1 => ?_⟩
    walk_at "go"
    refine ⟨a, _, rfl, by decide, by decide, hw1, fun d2 H2 a2 b2 s2 hw2 => ?_⟩
    walk_at "go"
    refine g_II (shl1 (by decide) (by decide)) ?_
    rw [e63]
    walk_at "go"
    refine g_II (shl1 (by decide) (by decide)) ?_
    rw [e63]
    walk_at "go"
    refine g_II (shl1 (by decide) (by decide)) ?_
    rw [e63]
    walk_at "go"
    refine ⟨a, _, rfl, by decide, by decide, hw2, fun d3 H3 a3 b3 s3 hw3 => ?_⟩
    walk_at "go"
    refine g_new (sz rfl) fun l4 H4 n4 s4 h4 _ => ?_
    have S4 := ((s1.trans s2).trans s3).trans (Stp.of s4)
    have hw4 := hw3.same s4
    have l4a := hw3.ne_none n4
    walk_at "go"
    refine ⟨a, _, rfl, by decide, by decide, hw4, fun d5 H5 a5 b5 s5 hw5 => ?_⟩
    have h4 := s5 _ _ l4a h4
    walk_at "go"
    refine g_II (shl1 (by decide) (by decide)) ?_
    walk_at "go"
    refine g_new (sz rfl) fun l6 H6 n6 s6 h6 _ => ?_
    refine .inl ⟨l4, l6, _, _, rfl, rfl, SqL.of (s6 _ _ h4), SqL.of h6, sz rfl, fun l7 H7 n7 s7 h7 _ => ?_⟩
    have S7 := ((S4.trans s5).trans (Stp.of s6)).trans (Stp.of s7)
    have hw6 := hw5.same s6
    have hw7 := hw6.same s7
    walk_at "go"
    refine ⟨a, l7, _, rfl, hw7, h7, hw6.ne_none n7, Nat.lt_of_lt_of_le (by decide : 0 < 5) (Nat.le_refl _), Nat.lt_of_le_of_lt (Nat.le_refl 5) (by decide), fun v H8 hv s8 hw8 => ?_⟩
    have e32 : (1 : Int) * 2 ^ Int.toNat 32 = 4294967296 := by decide
    rw [e32] at hv
    have g2 : d2 < 18446744073709551616 := b2
    have g5 : d5 < 8589934592 := b5
    obtain ⟨u, rfl, hu1, hu2⟩ : ∃ u, v = .int u ∧ -9223372036854775808 ≤ u ∧ u < 9223372036854775808 := by
      simp only [List.mem_append, List.mem_cons, List.not_mem_nil, or_false] at hv
      rcases hv with (rfl | rfl | rfl | rfl) | rfl <;> exact ⟨_, rfl, by omega, by omega⟩
    exact q _ _ hu1 hu2 (S7.trans s8) hw8
end
end Up

set_option Elab.async false
set_option linter.all false
set_option pp.maxSteps 600
set_option maxRecDepth 100000
set_option maxHeartbeats 4000000
set_option exponentiation.threshold 200000
namespace Up
open PySem PySem.Spec PyProof.Rows L2
local macro_rules | `(tactic| walk_at "u") => `(tactic| first
  | with_reducible refine g_seq ?_
  | with_reducible refine g_asg ?_
  | with_reducible refine g_op ?_
  | ((with_reducible show tVar _ _ _ _); apply g_var; exact rfl)
  | with_reducible refine g_c ?_
  | with_reducible refine g_name ?_
  | with_reducible refine g_ifs ?_
  | with_reducible refine g_tt ?_
  | with_reducible refine g_tB ?_
  | with_reducible refine g_bl ?_
  | with_reducible refine g_ret ?_
  | with_reducible refine g_cb ?_
  | with_reducible refine g_cons ?_
  | with_reducible refine g_nil ?_
  | with_reducible refine g_call ?_
  | with_reducible refine g_and ?_
  | with_reducible refine g_or ?_
  | with_reducible refine g_not ?_
  | with_reducible refine g_andV ?_
  | with_reducible refine g_orV ?_
  | with_reducible refine g_notV ?_
  | with_reducible refine g_if ?_
  | with_reducible refine g_un ?_
  | with_reducible refine g_neg ?_
  | with_reducible refine g_addI ?_
  | with_reducible refine g_subI ?_
  | with_reducible refine g_subB ?_
  | with_reducible refine g_I0 ?_
  | with_reducible refine g_cmpI ?_
  | with_reducible refine g_eqI ?_
  | with_reducible refine g_neI ?_
  | with_reducible refine g_eqS ?_
  | with_reducible refine g_neS ?_
  | with_reducible refine g_eqB ?_
  | with_reducible refine g_neB ?_
  | with_reducible refine g_bits ?_
  | with_reducible refine g_bitsI ?_
  | with_reducible refine g_fld ?_
  | with_reducible refine g_tup ?_
  | with_reducible refine g_lst ?_
  | with_reducible refine g_gtup ?_
  | with_reducible refine g_make ?_
  | with_reducible refine g_lc ?_
  | with_reducible refine g_yesT ?_
  | with_reducible refine g_intI ?_
  | with_reducible refine g_intB ?_
  | with_reducible refine g_max2 ?_
  | with_reducible refine g_abs1 ?_
  | with_reducible refine g_for ?_
  | with_reducible refine g_iList ?_
  | with_reducible refine g_iTup ?_
  | with_reducible refine g_iRng1 ?_
  | with_reducible refine g_iEnum ?_
  | with_reducible refine g_slice ?_
  | with_reducible refine g_po0 ?_
  | with_reducible refine g_po1 ?_
  | with_reducible refine g_gsub ?_
  | with_reducible refine g_par ?_
  | with_reducible refine g_par2 ?_
  | with_reducible refine g_rfl ?_
  | with_reducible refine g_meth ?_
  | with_reducible refine g_gcons ?_
  | with_reducible refine g_gnil ?_
  | with_reducible refine g_gfld ?_
  | with_reducible refine g_sfld ?_
  | with_reducible refine g_drop ?_
  | with_reducible refine g_next ?_
  | with_reducible refine iteT ?_
  | with_reducible refine iteF ?_)
local macro_rules | `(tactic| walk_at "go") => `(tactic| (repeat walk_at "u"))
local macro_rules | `(tactic| walk_at "f") => `(tactic| (repeat (first
  | walk_at "u"
  | with_reducible refine g_chain ?_
  | with_reducible refine g_par3 ?_
  | with_reducible refine g_par3' ?_
  | ((with_reducible refine show_ex ?_); first
    | refine fT (by assumption) (by assumption) ?_
    | refine fS (by assumption) (by assumption) ?_
    | refine fP (by assumption) (by assumption) ?_))))

/-! ### quotients of ints of 64 bits -/
theorem fmod_rng {k l : Int} (hl : l ≠ 0) : (0 < l → 0 ≤ k.fmod l ∧ k.fmod l < l) ∧ (l < 0 → l < k.fmod l ∧ k.fmod l ≤ 0) := by
  refine ⟨fun h => ⟨Int.fmod_nonneg_of_pos _ h, Int.fmod_lt_of_pos _ h⟩, fun h => ?_⟩
  have e := Int.neg_fmod_neg k l
  have a := Int.fmod_nonneg_of_pos (-k) (show 0 < -l by omega)
  have b := Int.fmod_lt_of_pos (-k) (show 0 < -l by omega)
  omega
theorem fdiv_rng {k l : Int} (h1 : -9223372036854775808 ≤ k) (h2 : k < 9223372036854775808) (hl : l ≠ 0) :
    -9223372036854775808 ≤ k.fdiv l ∧ (k.fdiv l < 9223372036854775808 ∨ (k.fdiv l = 9223372036854775808 ∧ k = -9223372036854775808 ∧ l = -1)) := by
  have e := Int.mul_fdiv_add_fmod k l
  obtain ⟨p, n⟩ := fmod_rng (k := k) hl
  generalize k.fdiv l = d at *
  generalize k.fmod l = r at *
  rcases Int.lt_or_gt_of_ne hl with h | h
  · obtain ⟨n1, n2⟩ := n h
    refine ⟨?_, ?_⟩
    · rcases Int.lt_or_le d (-9223372036854775808) with z | z
      · exfalso
        have m : (-1) * (d + 1) ≤ l * (d + 1) := Int.mul_le_mul_of_nonpos_right (by omega) (by omega)
        have m2 : l * (d + 1) = l * d + l := by rw [Int.mul_add, Int.mul_one]
        rw [m2] at m
        omega
      · exact z
    · rcases Int.lt_or_le d 9223372036854775808 with z | z
      · exact .inl z
      · have m : l * d ≤ (-1) * d := Int.mul_le_mul_of_nonneg_right (by omega) (by omega)
        have hd : d = 9223372036854775808 := by omega
        subst hd
        exact .inr ⟨rfl, by omega, by omega⟩
  · obtain ⟨n1, n2⟩ := p h
    refine ⟨?_, .inl ?_⟩
    · rcases Int.lt_or_le d (-9223372036854775808) with z | z
      · exfalso
        have m : l * (d + 1) ≤ 1 * (d + 1) := Int.mul_le_mul_of_nonpos_right (by omega) (by omega)
        have m2 : l * (d + 1) = l * d + l := by rw [Int.mul_add, Int.mul_one]
        rw [m2] at m
        omega
      · exact z
    · rcases Int.lt_or_le d 9223372036854775808 with z | z
      · exact z
      · exfalso
        have m : 1 * d ≤ l * d := Int.mul_le_mul_of_nonneg_right (by omega) (by omega)
        omega
section
variable {P : Program} {w : World} {K : PySem.W.Frag} {mg : Str → Option Value} {base : Heap} {C CT : Addr}
abbrev s_Lintsright : Stmt := top 45
theorem sc_Lintsright : FnScope ["_law_one_here", "_law_other", "_law_dues", "_law_word", "_law_due", "_law_whole", "_law_rest"] ["_law_one_here", "_law_other"] (defScope s_Lintsright) := ⟨rfl, rfl, rfl, by decide +kernel, rfl, by decide +kernel, by decide +kernel⟩
theorem ne_ad : ¬ ("add" : Str) = "div" := by decide +kernel
theorem ne_sd : ¬ ("sub" : Str) = "div" := by decide +kernel
theorem ne_md : ¬ ("mul" : Str) = "div" := by decide +kernel
theorem ne_fd : ¬ ("floor" : Str) = "div" := by decide +kernel
theorem ne_od : ¬ ("mod" : Str) = "div" := by decide +kernel
theorem nfm_a : ¬ (("add" : Str) = "floor" ∨ ("add" : Str) = "mod") := by decide +kernel
theorem nfm_s : ¬ (("sub" : Str) = "floor" ∨ ("sub" : Str) = "mod") := by decide +kernel
theorem nfm_m : ¬ (("mul" : Str) = "floor" ∨ ("mul" : Str) = "mod") := by decide +kernel
theorem ar_add (k l : Int) : arI "add" k l = wrapI (k + l) := by
  unfold arI
  rw [if_neg (by decide +kernel), if_neg (by decide +kernel), if_neg (by decide +kernel), if_pos rfl]
theorem ar_sub (k l : Int) : arI "sub" k l = wrapI (k - l) := by
  unfold arI
  rw [if_neg (by decide +kernel), if_neg (by decide +kernel), if_neg (by decide +kernel), if_neg (by decide +kernel)]
theorem ar_mul (k l : Int) : arI "mul" k l = wrapI (k * l) := by
  unfold arI
  rw [if_neg (by decide +kernel), if_neg (by decide +kernel), if_pos rfl]
theorem ar_floor (k l : Int) : arI "floor" k l = wrapI (k.fdiv l) := by
  unfold arI
  rw [if_pos rfl]
theorem ar_mod (k l : Int) : arI "mod" k l = k.fmod l := by
  unfold arI
  rw [if_neg (by decide +kernel), if_pos rfl]
theorem thr_floor : thrT "floor" = "attempt to perform 'n//0'" := by unfold thrT; rw [if_pos rfl]
theorem thr_mod : thrT "mod" = "attempt to perform 'n mod 0'" := by unfold thrT; rw [if_neg (by decide +kernel)]
def sp_Lintsright : Sp := fun vs H Q _ => ∃ k l : Int, vs = [.int k, .int l] ∧ -9223372036854775808 ≤ k ∧ k < 9223372036854775808 ∧ -9223372036854775808 ≤ l ∧ l < 9223372036854775808 ∧ ∀ H', Same H H' → Q (.bl true) H'
theorem g_arI {H : Hp} {Q : VK} {c : Str} {k l : Int} (hc : Wd6 c) (hd : c ≠ "div") (bk : bigOk k) (bl : bigOk l) (h0 : (c = "floor" ∨ c = "mod") → l ≠ 0) (q : ∀ H', Same H H' → Q (.int (arI c k l)) H') : sp_arith6 C CT ([.str c, .int k, .int l] ++ []) H Q E0 :=
  ⟨c, _, _, .i k, .i l, rfl, hc, rfl, rfl, bk, bl, .inr ⟨k, l, rfl, rfl, hd, .inr ⟨h0, q⟩⟩⟩
theorem shp2 : SeqAt.shaped (.list [.list [.str "attempt to perform 'n//0'"], .list [.str "attempt to perform 'n mod 0'"]]) = true := by decide +kernel
theorem ok_Lintsright {f : Addr} {fd : FuncData} (F : FunD K "_law_ints_right" "_law_ints_right" (defArgs s_Lintsright) (defBody s_Lintsright) (defScope s_Lintsright) [] [] f fd) (B : Blt mg) (c_arith : CAr6 P w K mg base C CT) (c_Lsaid : Fn P w K mg base CX0 10 "_law_said" ["_law_word", "_law_one_here", "_law_other"] [] sp_Lsaid) (c_Lwrapped : Fn P w K mg base CX0 1 "_law_wrapped" ["_law_number"] [] sp_Lwrapped) : FnOk P w K mg base CX0 11 f fd ["_law_one_here", "_law_other"] sp_Lintsright := by
  refine F.ok sc_Lintsright (fun vs H Q E h => ?_) (fun cdv A outer s H vs Q E hr h => ?_)
  · obtain ⟨_, _, rfl, _⟩ := h; rfl
  · obtain ⟨k, l, rfl, k1, k2, l1, l2, q⟩ := h
    have bk : bigOk k := big64 (by omega) (by omega)
    have bl : bigOk l := big64 (by omega) (by omega)
    have sk : k.natAbs < 2 ^ 64 := by show _ < 18446744073709551616; omega
    have sl : l.natAbs < 2 ^ 64 := by show _ < 18446744073709551616; omega
    refine ⟨_, PSs.nox (pss_cons (ps_set (i := 2) sc_Lintsright.nd rfl (Or.inl rfl) (pe_lstN (pa_cons (pe_tupN (pa_cons pe_str (pa_cons (pe_op op_oAdd (pv 0) (pv 1)) pa_nil))) (pa_cons (pe_tupN (pa_cons pe_str (pa_cons (pe_op op_oSub (pv 0) (pv 1)) pa_nil))) (pa_cons (pe_tupN (pa_cons pe_str (pa_cons (pe_op op_oMul (pv 0) (pv 1)) pa_nil))) pa_nil)))))
  (pss_cons (ps_for PassesOwn.never rfl (pi_list (pv 2)) (pg_tup rfl (pgs_cons (pg_name (i := 3) sc_Lintsright.nd rfl (Or.inl rfl)) (pgs_cons (pg_name (i := 4) sc_Lintsright.nd rfl (Or.inl rfl)) pgs_nil)))
    (pss_one (ps_if (pt_cmpR (op_oNe hr.units) (pe_fn c_Lsaid (hr.mono (by decide)) pass0 (pa_cons (pv 3) (pa_cons (pv 0) (pa_cons (pv 1) pa_nil)))) (pe_fn c_Lwrapped (hr.mono (by decide)) pass0 (pa_cons (pv 4) pa_nil)) (nomark _)) (pss_one (ps_ret pe_bl)) pss_nil)))
  (C8.pss_cut (ps_if (pt_cmpR (op_oEq hr.units) (pv 1) pe_int (nomark _)) (pss_one (ps_ret (pe_cmpR (op_oEq hr.units) (pe_lstN (pa_cons (pe_fn c_Lsaid (hr.mono (by decide)) pass0 (pa_cons pe_str (pa_cons (pv 0) (pa_cons pe_int pa_nil)))) (pa_cons (pe_fn c_Lsaid (hr.mono (by decide)) pass0 (pa_cons pe_str (pa_cons (pv 0) (pa_cons pe_int pa_nil)))) pa_nil))) (pe_lstN (pa_cons (pe_lstN (pa_cons pe_str pa_nil)) (pa_cons (pe_lstN (pa_cons pe_str pa_nil)) pa_nil))) (nomark _)))) pss_nil)
  (pss_cons (ps_par (i := 5) (j := 6) rfl sc_Lintsright.nd rfl rfl (by decide) rfl rfl (pa_cons (pe_fn c_arith (hr.mono (by decide)) passL (pa_cons pe_str (pa_cons (pv 0) (pa_cons (pv 1) pa_nil)))) (pa_cons (pe_fn c_arith (hr.mono (by decide)) passL (pa_cons pe_str (pa_cons (pv 0) (pa_cons (pv 1) pa_nil)))) pa_nil)) (by rfl))
  (pss_cons (ps_if (pt_cut (PW.pt (pw_and (pt_cmpR (op_oEq hr.units) (pv 5) (pe_un un_neg (pe_op op_oShl pe_int pe_int)) (nomark _)) (pw_and1 (pt_cmpR (op_oEq hr.units) (pv 1) (pe_un un_neg pe_int) (nomark _)))))) (pss_one (ps_ret (pe_and (pe_cmpR (op_oEq hr.units) (pv 6) pe_int (nomark _)) (pe_one (pe_cmpR (op_oEq hr.units) (pv 0) (pe_un un_neg (pe_op op_oShl pe_int pe_int)) (nomark _)))))) pss_nil)
  (pss_cons (ps_if (pt_cut (PW.pt (pw_or (pt_cmpR (op_oNe hr.units) (pv 0) (pe_op op_oAdd (pe_op op_oMul (pv 1) (pv 5)) (pv 6)) (nomark _)) (pw_or1 (pt_cmpR op_oGe (pe_callB call_abs (by rfl) B.abs (by decide +kernel) (pa_cons (pv 6) pa_nil)) (pe_callB call_abs (by rfl) B.abs (by decide +kernel) (pa_cons (pv 1) pa_nil)) (nomark _)))))) (pss_one (ps_ret pe_bl)) pss_nil)
  (pss_one (ps_ret (pe_or (pe_cmpR (op_oEq hr.units) (pv 6) pe_int (nomark _)) (pe_one (pe_cmpR (op_oEq hr.units) (pe_cmpR op_oLt (pv 6) pe_int (nomark _)) (pe_cmpR op_oLt (pv 1) pe_int (nomark _)) (nomark _)))))))))))), ?_⟩
    walk_at "f"
    refine g_new (sz rfl) fun p1 H1 n1 s1 h1 _ => ?_
    walk_at "f"
    refine g_new (sz rfl) fun p2 H2 n2 s2 h2 _ => ?_
    walk_at "f"
    refine g_mulI (mul_small (lt_pow_mono sk (by decide)) (lt_pow_mono sl (by decide))) ?_
    walk_at "f"
    refine g_new (sz rfl) fun p3 H3 n3 s3 h3 _ => ?_
    walk_at "f"
    refine g_new (sz rfl) fun p4 H4 n4 s4 h4 _ => ?_
    have h1 := s4 _ _ (s3 _ _ (s2 _ _ h1))
    have h2 := s4 _ _ (s3 _ _ h2)
    have h3 := s4 _ _ h3
    have S4 := ((s1.trans s2).trans s3).trans s4
    walk_at "f"
    refine ⟨p4, rfl, ⟨_, SqL.of h4⟩, ?_⟩
    refine for_list (K := K) (a := p4) (xs := [V.ref p1, .ref p2, .ref p3]) (fun i σ' H' => ∃ e3 e4, σ' = [some (.int k), some (.int l), some (.ref p4), e3, e4, none, none] ∧ Same H4 H') ⟨_, _, rfl, Same.refl _⟩ ?_ ?_ ?_
    · rintro i _ H' _ ⟨_, _, _, sH⟩
      exact SqL.of (sH _ _ h4)
    · rintro i z _ H5 hz ⟨e3, e4, rfl, s5⟩
      obtain ⟨c, due, p, rfl, hp, hc, hd, hfm, hdue, har⟩ : ∃ (c : Str) (due : Int) (p : Addr), z = .ref p ∧ H5 p = some (.tup [.str c, .int due]) ∧ Wd6 c ∧ c ≠ "div" ∧ ¬ (c = "floor" ∨ c = "mod") ∧ due.natAbs < 2 ^ 200 ∧ arI c k l = wrapI due := by
        have := List.mem_of_getElem? hz
        simp only [List.mem_cons, List.not_mem_nil, or_false] at this
        rcases this with rfl | rfl | rfl
        · exact ⟨_, _, p1, rfl, s5 _ _ h1, .inl rfl, ne_ad, nfm_a, lt_pow_mono (a := 65) (by show _ < 36893488147419103232; omega) (by decide), ar_add k l⟩
        · exact ⟨_, _, p2, rfl, s5 _ _ h2, .inr (.inl rfl), ne_sd, nfm_s, lt_pow_mono (a := 65) (by show _ < 36893488147419103232; omega) (by decide), ar_sub k l⟩
        · exact ⟨_, _, p3, rfl, s5 _ _ h3, .inr (.inr (.inl rfl)), ne_md, nfm_m, lt_pow_mono (natAbs_mul_lt sk sl) (by decide), ar_mul k l⟩
      walk_at "f"
      refine ⟨p, _, rfl, SqT.of hp, rfl, ?_⟩
      walk_at "f"
      refine ⟨c, k, l, rfl, hc, hd, bk, bl, .inr ⟨fun z => absurd z hfm, fun H6 s6 => ?_⟩⟩
      walk_at "f"
      refine ⟨due, rfl, hdue, ?_⟩
      rw [har]
      walk_at "f"
      refine g_iten (fun z => absurd rfl z) fun _ => ?_
      walk_at "f"
      exact ⟨_, _, rfl, s5.trans s6⟩
    · rintro _ H5 ⟨e3, e4, rfl, s5⟩
      have S5 := S4.trans s5
      walk_at "f"
      refine g_cut (fun σ' H' => σ' = [some (.int k), some (.int l), some (.ref p4), e3, e4, none, none] ∧ H5 = H' ∧ l ≠ 0) ?_ ?_
      · walk_at "f"
        refine g_ite (fun hl => ?_) fun hl => ?_
        · walk_at "f"
          refine ⟨_, k, 0, rfl, .inr (.inr (.inr (.inr (.inl rfl)))), ne_fd, bk, big64 (by decide) (by decide), .inl ⟨.inl rfl, rfl, fun H6 p6 n6 s6 h6 => ?_⟩⟩
          walk_at "f"
          refine ⟨_, k, 0, rfl, .inr (.inr (.inr (.inr (.inr rfl)))), ne_od, bk, big64 (by decide) (by decide), .inl ⟨.inr rfl, rfl, fun H7 p7 n7 s7 h7 => ?_⟩⟩
          rw [thr_floor] at h6
          rw [thr_mod] at h7
          walk_at "f"
          refine g_new (sz rfl) fun p8 H8 n8 s8 h8 _ => ?_
          walk_at "f"
          refine g_new (sz rfl) fun q9 H9 n9 s9 h9 _ => ?_
          walk_at "f"
          refine g_new (sz rfl) fun q10 H10 n10 s10 h10 _ => ?_
          walk_at "f"
          refine g_new (sz rfl) fun q11 H11 n11 s11 h11 _ => ?_
          have h6 := s11 _ _ (s10 _ _ (s9 _ _ (s8 _ _ (s7 _ _ h6))))
          have h7 := s11 _ _ (s10 _ _ (s9 _ _ (s8 _ _ h7)))
          have h8 := s11 _ _ (s10 _ _ (s9 _ _ h8))
          have h9 := s11 _ _ (s10 _ _ h9)
          have h10 := s11 _ _ h10
          refine .inr ⟨_, _, .lst (SqL.of h8) (.cons (.lst (SqL.of h6) (.cons (.str _) .nil)) (.cons (.lst (SqL.of h7) (.cons (.str _) .nil)) .nil)), .lst (SqL.of h11) (.cons (.lst (SqL.of h9) (.cons (.str _) .nil)) (.cons (.lst (SqL.of h10) (.cons (.str _) .nil)) .nil)), shp2, shp2, ?_⟩
          rw [SeqAt.eqv_refl _ (SeqAt.canLay_of_shaped shp2)]
          exact q _ (S5.trans ((((((s6.trans s7).trans s8).trans s9).trans s10).trans s11)))
        · walk_at "f"
          exact ⟨rfl, rfl, hl⟩
      · rintro _ _ ⟨rfl, rfl, hl⟩
        obtain ⟨d1, d2⟩ := fdiv_rng k1 k2 hl
        obtain ⟨fp, fn⟩ := fmod_rng (k := k) hl
        have eq := Int.mul_fdiv_add_fmod k l
        walk_at "f"
        refine g_arI (.inr (.inr (.inr (.inr (.inl rfl))))) ne_fd bk bl (fun _ => hl) fun H6 s6 => ?_
        rw [ar_floor]
        walk_at "f"
        refine g_arI (.inr (.inr (.inr (.inr (.inr rfl))))) ne_od bk bl (fun _ => hl) fun H7 s7 => ?_
        rw [ar_mod]
        have S7 := (S5.trans s6).trans s7
        have last := q _ S7
        walk_at "f"
        refine g_cutT (fun c H' => c = decide (k = -9223372036854775808 ∧ l = -1) ∧ H7 = H') ?_ ?_
        · walk_at "f"
          refine g_II (shl1 (by decide) (by decide)) ?_
          rw [e63]
          walk_at "f"
          with_reducible refine g_ite (fun h8 => ?_) fun h8 => ?_
          · walk_at "f"
            refine ⟨?_, rfl⟩
            rcases d2 with d2 | ⟨d2, e1, e2⟩
            · rw [wrap_id d1 d2] at h8
              have : ¬ l = -1 := fun z => by
                have t := fn (by omega)
                rw [h8, z] at eq
                rw [z] at t
                omega
              rw [decide_eq_false this, decide_eq_false (fun z => this z.2)]
            · rw [decide_eq_true e2, decide_eq_true ⟨e1, e2⟩]
          · refine ⟨(decide_eq_false (fun z => h8 ?_)).symm, rfl⟩
            obtain ⟨rfl, rfl⟩ := z
            decide +kernel
        · rintro _ _ ⟨rfl, rfl⟩
          refine g_ite (fun h8 => ?_) fun h8 => ?_
          · obtain ⟨rfl, rfl⟩ := h8
            walk_at "f"
            refine g_yes (by decide +kernel) ?_
            walk_at "f"
            refine g_II (shl1 (by decide) (by decide)) ?_
            rw [e63]
            walk_at "f"
            exact last
          · have d2 : k.fdiv l < 9223372036854775808 := d2.elim id fun z => absurd ⟨z.2.1, z.2.2⟩ h8
            rw [wrap_id d1 d2]
            walk_at "f"
            refine g_cutT (fun c H' => c = false ∧ H7 = H') ?_ ?_
            · walk_at "f"
              refine g_mulI (mul_small (lt_pow_mono sl (by decide)) (lt_pow_mono (a := 64) (by show _ < 18446744073709551616; omega) (by decide))) ?_
              walk_at "f"
              refine g_iten (fun z => absurd eq.symm z) fun _ => ?_
              walk_at "f"
              rw [abs_if, abs_if]
              refine ⟨decide_eq_false ?_, rfl⟩
              omega
            · rintro _ _ ⟨rfl, rfl⟩
              walk_at "f"
              refine g_ite (fun h9 => ?_) fun h9 => ?_
              · exact last
              · walk_at "f"
                have e : decide (decide (k.fmod l < 0) = decide (l < 0)) = true := by
                  refine decide_eq_true ?_
                  rw [decide_eq_decide]
                  omega
                rw [e]
                exact last
end
end Up

set_option Elab.async false
set_option linter.all false
set_option pp.maxSteps 600
set_option maxRecDepth 100000
set_option maxHeartbeats 4000000
set_option exponentiation.threshold 200000
namespace Up
open PySem PySem.Spec PyProof.Rows L2
local macro_rules | `(tactic| walk_at "u") => `(tactic| first
  | with_reducible refine g_seq ?_
  | with_reducible refine g_asg ?_
  | with_reducible refine g_op ?_
  | ((with_reducible show tVar _ _ _ _); apply g_var; exact rfl)
  | with_reducible refine g_c ?_
  | with_reducible refine g_name ?_
  | with_reducible refine g_ifs ?_
  | with_reducible refine g_tt ?_
  | with_reducible refine g_tB ?_
  | with_reducible refine g_bl ?_
  | with_reducible refine g_ret ?_
  | with_reducible refine g_cb ?_
  | with_reducible refine g_cons ?_
  | with_reducible refine g_nil ?_
  | with_reducible refine g_call ?_
  | with_reducible refine g_and ?_
  | with_reducible refine g_or ?_
  | with_reducible refine g_not ?_
  | with_reducible refine g_andV ?_
  | with_reducible refine g_orV ?_
  | with_reducible refine g_notV ?_
  | with_reducible refine g_if ?_
  | with_reducible refine g_un ?_
  | with_reducible refine g_neg ?_
  | with_reducible refine g_addI ?_
  | with_reducible refine g_subI ?_
  | with_reducible refine g_subB ?_
  | with_reducible refine g_I0 ?_
  | with_reducible refine g_cmpI ?_
  | with_reducible refine g_eqI ?_
  | with_reducible refine g_neI ?_
  | with_reducible refine g_eqS ?_
  | with_reducible refine g_neS ?_
  | with_reducible refine g_eqB ?_
  | with_reducible refine g_neB ?_
  | with_reducible refine g_bits ?_
  | with_reducible refine g_bitsI ?_
  | with_reducible refine g_fld ?_
  | with_reducible refine g_tup ?_
  | with_reducible refine g_lst ?_
  | with_reducible refine g_gtup ?_
  | with_reducible refine g_make ?_
  | with_reducible refine g_lc ?_
  | with_reducible refine g_yesT ?_
  | with_reducible refine g_intI ?_
  | with_reducible refine g_intB ?_
  | with_reducible refine g_max2 ?_
  | with_reducible refine g_abs1 ?_
  | with_reducible refine g_for ?_
  | with_reducible refine g_iList ?_
  | with_reducible refine g_iTup ?_
  | with_reducible refine g_iRng1 ?_
  | with_reducible refine g_iEnum ?_
  | with_reducible refine g_slice ?_
  | with_reducible refine g_po0 ?_
  | with_reducible refine g_po1 ?_
  | with_reducible refine g_gsub ?_
  | with_reducible refine g_par ?_
  | with_reducible refine g_par2 ?_
  | with_reducible refine g_rfl ?_
  | with_reducible refine g_meth ?_
  | with_reducible refine g_gcons ?_
  | with_reducible refine g_gnil ?_
  | with_reducible refine g_gfld ?_
  | with_reducible refine g_sfld ?_
  | with_reducible refine g_drop ?_
  | with_reducible refine g_next ?_
  | with_reducible refine iteT ?_
  | with_reducible refine iteF ?_)
local macro_rules | `(tactic| walk_at "go") => `(tactic| (repeat walk_at "u"))
local macro_rules | `(tactic| walk_at "f") => `(tactic| (repeat (first
  | walk_at "u"
  | with_reducible refine g_chain ?_
  | with_reducible refine g_par3 ?_
  | with_reducible refine g_par3' ?_
  | ((with_reducible refine show_ex ?_); first
    | refine fT (by assumption) (by assumption) ?_
    | refine fS (by assumption) (by assumption) ?_
    | refine fP (by assumption) (by assumption) ?_))))

/-! ### floors and rests of floats, by their parts -/
theorem mg_nat {x : FL} {a : Nat} (e : x.t = .int (a : Nat)) : mg' x = ((mgn a x.p : Nat) : Int) := by
  unfold mg' mgn
  rw [e]
  by_cases h : x.p < 0
  · rw [if_pos h, if_pos h]; rfl
  · rw [if_neg h, if_neg h, Int.natCast_mul, Int.natCast_pow]; rfl
theorem dx_nat (x : FL) : dx x = ((dn x.p : Nat) : Int) := by
  unfold dx ratD dn
  by_cases h : x.p < 0
  · rw [if_pos h, if_pos h, Int.natCast_pow]; rfl
  · rw [if_neg h, if_neg h]; rfl
theorem fdiv_abs {x d : Int} (hd : 1 ≤ d) : (x.fdiv d).natAbs ≤ x.natAbs := by
  rw [Int.fdiv_eq_ediv_of_nonneg _ (by omega)]
  rcases Int.lt_or_le x 0 with h | h
  · have h1 : x ≤ x / d := by
      rw [Int.le_ediv_iff_mul_le (by omega)]
      have : x * d ≤ x * 1 := Int.mul_le_mul_of_nonpos_left (by omega) (by omega)
      omega
    have h2 : x / d < 0 := Int.ediv_neg_of_neg_of_pos h (by omega)
    omega
  · have h1 : x / d ≤ x := Int.ediv_le_self _ h
    have h2 : 0 ≤ x / d := Int.ediv_nonneg h (by omega)
    omega
theorem FL.ok.nat {x : FL} (h : x.ok) {n : Int} (e : x.t = .int n) : ∃ a : Nat, n = a ∧ a < 2 ^ 53 ∧ -1074 ≤ x.p ∧ (bitsN a : Int) + x.p ≤ 1024 := by
  have h' : FlOk x.s (.int n) x.p := e ▸ h
  obtain ⟨f1, f2, f3, f4, _⟩ := fin_of h'
  obtain ⟨a, rfl⟩ := Int.eq_ofNat_of_zero_le f1
  rw [intBits_nat] at f4
  exact ⟨a, rfl, by omega, f3, f4⟩
theorem tfS_abs (z : Int) : tfS z * (z.natAbs : Int) = z := by
  unfold tfS
  split <;> omega
theorem floor_val {x : FL} (ox : x.ok) {n : Int} (e : x.t = .int n) (h0 : n ≠ 0) : (flrI x = 0 → floorL x = zeroL 1) ∧ (flrI x ≠ 0 → (∃ m, (floorL x).t = .int m) ∧ (floorL x).s * mg' (floorL x) = flrI x * dx (floorL x)) := by
  obtain ⟨a, rfl, a1, p1, _⟩ := ox.nat e
  have nn : ¬ (x.t = .str "inf" ∨ x.t = .str "nan") := by
    rw [e]
    rintro (z | z) <;> cases z
  have hs := ox.1
  have en : nx x = x.s * ((mgn a x.p : Nat) : Int) := by rw [nx_mg, mg_nat e]
  by_cases hp : 0 ≤ x.p
  · have ed : dx x = 1 := by unfold dx ratD; rw [if_neg (by omega)]
    have ef : floorL x = x := by unfold floorL; rw [if_pos (.inr hp)]
    have ei : flrI x = nx x := by unfold flrI; rw [ed, Int.fdiv_one]
    refine ⟨fun z => ?_, fun _ => ?_⟩
    · exfalso
      rw [ei, en] at z
      have m0 : mgn a x.p ≠ 0 := by
        unfold mgn
        rw [if_neg (by omega)]
        exact Nat.ne_of_gt (Nat.mul_pos (by omega) (Nat.two_pow_pos _))
      rcases hs with hs | hs <;> rw [hs] at z <;> omega
    · rw [ef, ed, ei, Int.mul_one]
      exact ⟨⟨_, e⟩, (nx_mg x).symm⟩
  · have ef : floorL x = nearL (tfS (flrI x)) (flrI x).natAbs 1 := by unfold floorL; rw [if_neg (fun z => z.elim nn hp)]
    have lt : (flrI x).natAbs < 2 ^ 53 := by
      refine Nat.lt_of_le_of_lt (fdiv_abs ?_) ?_
      · have := dn_pos x.p
        rw [dx_nat]
        omega
      · rw [en, sgn_abs hs]
        unfold mgn
        rw [if_pos (by omega)]
        omega
    refine ⟨fun z => ?_, fun z => ?_⟩
    · rw [ef, z]; rfl
    · have eT : TT (flrI x).natAbs = (flrI x).natAbs * (scW 0 * 1) := by
        unfold TT scW
        rw [show ((0 : Int) + 2000).toNat = 2000 by decide, Nat.mul_one]
      have hb := bits_le lt
      obtain ⟨m, p, h1, h2, h3, h4⟩ := near_exact (s := tfS (flrI x)) (by omega) (by decide) lt (by decide) (by omega) eT
      rw [ef, h1]
      refine ⟨⟨_, rfl⟩, ?_⟩
      rw [mg_nat (x := ⟨tfS (flrI x), .int (m : Nat), p⟩) rfl, dx_nat]
      show tfS (flrI x) * ((mgn m p : Nat) : Int) = flrI x * ((dn p : Nat) : Int)
      rw [Nat.mul_one] at h4
      rw [h4, Int.natCast_mul, ← Int.mul_assoc, tfS_abs]
def hiN (x y : FL) (a : Nat) : Nat := mgn a x.p * dn y.p
theorem rest_eq {x y : FL} (ox : x.ok) (oy : y.ok) {a c : Nat} (ex : x.t = .int (a : Nat)) (ey : y.t = .int (c : Nat)) : restN x y = mgn a x.p * dn y.p % (mgn c y.p * dn x.p) := by
  unfold restN
  rw [nx_mg, nx_mg, mg_nat ex, mg_nat ey, dx_nat, dx_nat, Int.mul_assoc, Int.mul_assoc, sgn_abs ox.1, sgn_abs oy.1, ← Int.natCast_mul, ← Int.natCast_mul, Int.natAbs_natCast, Int.natAbs_natCast]
theorem den_eq (x y : FL) : (dx x * dx y).natAbs = dn x.p * dn y.p := by
  rw [dx_nat, dx_nat, ← Int.natCast_mul, Int.natAbs_natCast]
theorem near_s (s : Int) (t b : Nat) : (nearL s t b).s = s := rfl
theorem mod_near {x y : FL} (ox : x.ok) (oy : y.ok) {a c R : Nat} (ex : x.t = .int (a : Nat)) (ey : y.t = .int (c : Nat)) (c0 : c ≠ 0) (hR : R = mgn a x.p * dn y.p % (mgn c y.p * dn x.p)) :
    modL x y = if R = 0 then zeroL x.s else nearL y.s (if x.s = y.s then R else mgn c y.p * dn x.p - R) (dn x.p * dn y.p) := by
  obtain ⟨a', z1, a1, px1, a2⟩ := ox.nat ex
  have z1 : a = a' := by omega
  subst z1
  obtain ⟨c', z2, c1, py1, c2⟩ := oy.nat ey
  have z2 : c = c' := by omega
  subst z2
  have xi : ¬ (x.t = .str "inf" ∨ y.t = .int 0) := by
    rw [ex, ey]
    rintro (z | z)
    · cases z
    · injection z with z
      omega
  have yi : ¬ y.t = .str "inf" := by rw [ey]; exact fun z => by cases z
  have el : leftL x y = nearL x.s R (dn x.p * dn y.p) := by
    unfold leftL
    rw [if_neg yi, rest_eq ox oy ex ey, den_eq, hR]
  unfold modL
  rw [if_neg xi, el]
  by_cases h0 : R = 0
  · rw [if_pos h0, h0, near_zero, if_neg (fun z => z.1 rfl)]
  · rw [if_neg h0]
    by_cases hs : x.s = y.s
    · rw [if_pos hs, near_s, if_neg (fun z => z.2 hs), hs]
    · rw [if_neg hs]
      have dxp := dn_pos x.p
      have dyp := dn_pos y.p
      obtain ⟨k, e, k1, e1, kb, hT⟩ := rest_exact (a := a) (c := c) (px := x.p) (py := y.p) a1 c1 (by omega) px1 py1 a2
      rw [← hR] at hT
      have TR : 0 < TT R := Nat.mul_pos (by omega) (Nat.two_pow_pos _)
      have k0 : k ≠ 0 := by
        intro z
        rw [z, Nat.zero_mul] at hT
        omega
      obtain ⟨n, p, h1, h2, h3, h4⟩ := near_exact (s := x.s) (by omega) (Nat.mul_pos dxp dyp) k1 e1 (kb k0) hT
      rw [h1]
      have dp := dn_pos p
      have cnd : (V.int (n : Nat) ≠ .int 0 ∧ x.s ≠ y.s) := ⟨fun z => by injection z with z; omega, hs⟩
      rw [if_pos (show (⟨x.s, .int (n : Nat), p⟩ : FL).t ≠ .int 0 ∧ (⟨x.s, .int (n : Nat), p⟩ : FL).s ≠ y.s from cnd)]
      have lR : R < mgn c y.p * dn x.p := by
        rw [hR]
        refine Nat.mod_lt _ (Nat.mul_pos ?_ dxp)
        unfold mgn
        split
        · omega
        · exact Nat.mul_pos (by omega) (Nat.two_pow_pos _)
      have hlt : mgn n p * dn y.p < mgn c y.p * dn p := by
        have q1 : mgn n p * dn y.p * dn x.p < mgn c y.p * dn p * dn x.p := by
          have q2 : R * dn p < mgn c y.p * dn x.p * dn p := Nat.mul_lt_mul_of_pos_right lR dp
          rw [← h4] at q2
          have q3 : mgn n p * dn y.p * dn x.p = mgn n p * (dn x.p * dn y.p) := by rw [Nat.mul_assoc, Nat.mul_comm (dn y.p)]
          have q4 : mgn c y.p * dn p * dn x.p = mgn c y.p * dn x.p * dn p := Nat.mul_right_comm _ _ _
          rw [q3, q4]
          exact q2
        exact Nat.lt_of_mul_lt_mul_right q1
      have li : ¬ ((⟨x.s, .int (n : Nat), p⟩ : FL).t = .str "inf" ∨ y.t = .str "inf") := by
        rintro (z | z)
        · cases z
        · exact yi z
      have lz : ¬ ((⟨x.s, .int (n : Nat), p⟩ : FL).t = .int 0 ∧ y.t = .int 0) := fun z => cnd.1 z.1
      unfold addL
      rw [if_neg li, if_neg lz]
      have eZ : nx (⟨x.s, .int (n : Nat), p⟩ : FL) * dx y + nx y * dx (⟨x.s, .int (n : Nat), p⟩ : FL) = y.s * ((mgn c y.p * dn p - mgn n p * dn y.p : Nat) : Int) := by
        rw [nx_mg, nx_mg, mg_nat ey, mg_nat (x := ⟨x.s, .int (n : Nat), p⟩) rfl, dx_nat, dx_nat]
        show x.s * ((mgn n p : Nat) : Int) * ((dn y.p : Nat) : Int) + y.s * ((mgn c y.p : Nat) : Int) * ((dn p : Nat) : Int) = _
        have q1 : ((mgn c y.p * dn p - mgn n p * dn y.p : Nat) : Int) = ((mgn c y.p : Nat) : Int) * ((dn p : Nat) : Int) - ((mgn n p : Nat) : Int) * ((dn y.p : Nat) : Int) := by
          rw [← Int.natCast_mul, ← Int.natCast_mul]
          omega
        rw [q1, Int.mul_assoc, Int.mul_assoc]
        generalize ((mgn n p : Nat) : Int) * ((dn y.p : Nat) : Int) = A
        generalize ((mgn c y.p : Nat) : Int) * ((dn p : Nat) : Int) = B
        rcases ox.1 with q2 | q2 <;> rcases oy.1 with q3 | q3 <;> first | exact absurd (q2.trans q3.symm) hs | (rw [q2, q3]; omega)
      rw [eZ]
      have eS : tfS (y.s * ((mgn c y.p * dn p - mgn n p * dn y.p : Nat) : Int)) = y.s := by
        unfold tfS
        rcases oy.1 with q3 | q3 <;> rw [q3]
        · rw [if_neg (by omega)]
        · rw [if_pos (by omega)]
      rw [eS, sgn_abs oy.1, Int.natAbs_natCast, den_eq]
      obtain ⟨i1, j1⟩ := dn_pow x.p
      obtain ⟨i2, j2⟩ := dn_pow y.p
      obtain ⟨i3, j3⟩ := dn_pow p
      refine near_ratio (i := i3 + i2) (j := i1 + i2) ?_ ?_ ?_
      · show dn p * dn y.p = _
        rw [j3, j2, Nat.pow_add]
      · rw [j1, j2, Nat.pow_add]
      · show (mgn c y.p * dn p - mgn n p * dn y.p) * (dn x.p * dn y.p) = (mgn c y.p * dn x.p - R) * (dn p * dn y.p)
        rw [Nat.sub_mul, Nat.sub_mul]
        congr 1
        · simp only [Nat.mul_assoc, Nat.mul_comm, Nat.mul_left_comm]
        · rw [Nat.mul_right_comm, h4, Nat.mul_assoc]
section
variable {P : Program} {w : World} {K : PySem.W.Frag} {mg : Str → Option Value} {base : Heap} {C CT : Addr}
abbrev CEq (P : Program) (w : World) (K : PySem.W.Frag) (mg : Str → Option Value) (base : Heap) (C : Addr) : Prop := EqC P w K mg base 1 C (sp_Feq C)
section
variable {H : Hp} {Q : VK} {v u : V} {x y : FL}
theorem FA.num (h : FA C H v x) (o : x.ok) : NumAt C H v (.f x.s x.t x.p) := by
  obtain ⟨a, e, h⟩ := h
  exact ⟨a, e, h, o⟩
theorem g_eqF (h1 : FA C H v x) (h2 : FA C H u y) (ox : x.ok) (oy : y.ok) (q : ∀ H', Same H H' → Q (.bl (eqL x y)) H') : rEqO C (sp_Feq C) v u H Q := by
  obtain ⟨a, rfl, dx, ha⟩ := h1
  obtain ⟨b, rfl, dy, hb⟩ := h2
  exact ⟨a, b, dx, dy, _, _, rfl, rfl, ha, hb, _, _, x, y, rfl, ⟨a, rfl, dx, ha⟩, ⟨b, rfl, dy, hb⟩, ox, oy, fun H' s => ⟨_, rfl, q H' s⟩⟩
theorem g_neF (h1 : FA C H v x) (h2 : FA C H u y) (ox : x.ok) (oy : y.ok) (q : ∀ H', Same H H' → Q (.bl (!eqL x y)) H') : rNeO C (sp_Feq C) v u H Q := by
  obtain ⟨a, rfl, dx, ha⟩ := h1
  obtain ⟨b, rfl, dy, hb⟩ := h2
  exact ⟨a, b, dx, dy, _, _, rfl, rfl, ha, hb, _, _, x, y, rfl, ⟨a, rfl, dx, ha⟩, ⟨b, rfl, dy, hb⟩, ox, oy, fun H' s => ⟨_, rfl, q H' s⟩⟩
theorem g_eqF1 (h1 : FA C H v x) (h2 : FA C H u y) (ox : x.ok) (oy : y.ok) (e : x = y) (q : ∀ H', Same H H' → Q (.bl true) H') : rEqO C (sp_Feq C) v u H Q :=
  g_eqF h1 h2 ox oy fun H' s => by
    rw [e, eqL_refl]
    exact q H' s
theorem g_arN {c : Str} {n m : Nm} (hc : Wd6 c) (hv : NumAt C H v n) (hu : NumAt C H u m) (bn : nBig n) (bm : nBig m) (hf : c = "div" ∨ isF n = true ∨ isF m = true) (q : RetN C H (by6L c (toL n) (toL m)) Q) : sp_arith6 C CT ([.str c, v, u] ++ []) H Q E0 :=
  ⟨c, v, u, n, m, rfl, hc, hv, hu, bn, bm, .inl ⟨hf, q⟩⟩
theorem g_arF (c : Str) (hc : Wd6 c) (hv : FA C H v x) (hu : FA C H u y) (ox : x.ok) (oy : y.ok) (q : RetN C H (by6L c x y) Q) : sp_arith6 C CT ([.str c, v, u] ++ []) H Q E0 :=
  g_arN hc (hv.num ox) (hu.num oy) trivial trivial (.inr (.inl rfl)) q
end
theorem w6D : Wd6 "div" := .inr (.inr (.inr (.inl rfl)))
theorem w6F : Wd6 "floor" := .inr (.inr (.inr (.inr (.inl rfl))))
theorem w6M : Wd6 "mod" := .inr (.inr (.inr (.inr (.inr rfl))))
theorem by_floor (x y : FL) : by6L "floor" x y = floorL (by6L "div" x y) := by
  unfold by6L
  by_cases h : x.t = .str "nan" ∨ y.t = .str "nan"
  · rw [if_pos h, if_pos h]
    unfold floorL
    rw [if_pos (.inl (.inr rfl))]
  · rw [if_neg h, if_neg h, if_neg (by decide +kernel), if_neg (by decide +kernel), if_neg (by decide +kernel), if_neg (by decide +kernel), if_pos rfl, if_neg (by decide +kernel), if_neg (by decide +kernel), if_neg (by decide +kernel), if_neg (by decide +kernel), if_neg (by decide +kernel)]
theorem by_mod (x y : FL) : by6L "mod" x y = if x.t = .str "nan" ∨ y.t = .str "nan" then nanL else modL x y := by
  unfold by6L
  rw [if_neg (by decide +kernel : ¬ ("mod" : Str) = "add"), if_neg (by decide +kernel : ¬ ("mod" : Str) = "sub"), if_neg (by decide +kernel : ¬ ("mod" : Str) = "mul"), if_pos (rfl : ("mod" : Str) = "mod")]
/-! _law_floor_right -/
abbrev s_Lfloorright : Stmt := top 46
theorem sc_Lfloorright : FnScope ["_law_one_here", "_law_other", "_law_found", "_law_whole", "_law_top", "_law_bottom", "_law_due", "_law_many"] ["_law_one_here", "_law_other"] (defScope s_Lfloorright) := ⟨rfl, rfl, rfl, by decide +kernel, rfl, by decide +kernel, by decide +kernel⟩
def sp_Lfloorright (C : Addr) : Sp := fun vs H Q _ => ∃ v u x y, vs = [v, u] ∧ FA C H v x ∧ FA C H u y ∧ x.ok ∧ y.ok ∧ ∀ H', Same H H' → Q (.bl true) H'
abbrev CLrat (P : Program) (w : World) (K : PySem.W.Frag) (mg : Str → Option Value) (base : Heap) (C : Addr) : Prop := Fn P w K mg base CX0 1 "_law_ratio" ["_law_number"] [] (sp_Lratio C)
theorem ok_Lfloorright {f : Addr} {fd : FuncData} (F : FunD K "_law_floor_right" "_law_floor_right" (defArgs s_Lfloorright) (defBody s_Lfloorright) (defScope s_Lfloorright) [] [] f fd) (B : Blt mg) (T : FlC K mg C) (c_Float : CnF P w K mg base C) (c_Feq : CEq P w K mg base C) (c_arith : CAr6 P w K mg base C CT) (c_Lratio : CLrat P w K mg base C) : FnOk P w K mg base CX0 10 f fd ["_law_one_here", "_law_other"] (sp_Lfloorright C) := by
  refine F.ok sc_Lfloorright (fun vs H Q E h => ?_) (fun cdv A outer s H vs Q E hr h => ?_)
  · obtain ⟨_, _, _, _, rfl, _⟩ := h; rfl
  · obtain ⟨v, u, x, y, rfl, hv, hu, ox, oy, q⟩ := h
    refine ⟨_, PSs.nox (pss_cons (ps_par (i := 2) (j := 3) rfl sc_Lfloorright.nd rfl rfl (by decide) rfl rfl (pa_cons (pe_fn c_arith (hr.mono (by decide)) passL (pa_cons pe_str (pa_cons (pv 0) (pa_cons (pv 1) pa_nil)))) (pa_cons (pe_fn c_arith (hr.mono (by decide)) passL (pa_cons pe_str (pa_cons (pv 0) (pa_cons (pv 1) pa_nil)))) pa_nil)) (by rfl))
  (pss_cons (ps_if (PW.pt (pw_or (pt_val (pe_callB call_isi (by rfl) B.isinstance (by decide +kernel) (pa_cons (pe_fld (pv 2) rfl) (pa_cons (pe_tyStr B) pa_nil)))) (pw_or1 (pt_cmpR (op_oEq hr.units) (pe_fld (pv 2) rfl) pe_int (nomark _))))) (pss_one (ps_ret (pe_cmpR (op_eqO c_Feq (hr.mono (by decide))) (pv 3) (pv 2) (nomark _)))) pss_nil)
  (pss_cons (ps_asg (pe_fn c_Lratio (hr.mono (by decide)) pass0 (pa_cons (pv 2) pa_nil)) (pg_tup rfl (pgs_cons (pg_name (i := 4) sc_Lfloorright.nd rfl (Or.inl rfl)) (pgs_cons (pg_name (i := 5) sc_Lfloorright.nd rfl (Or.inl rfl)) pgs_nil))))
  (pss_cons (ps_set (i := 4) sc_Lfloorright.nd rfl (Or.inl rfl) (pe_op op_oMul (pv 4) (pe_fld (pv 2) rfl)))
  (pss_cons (ps_set (i := 6) sc_Lfloorright.nd rfl (Or.inl rfl) (pe_op op_oDiv (pv 4) (pv 5)))
  (pss_cons (ps_if (pt_cmpR (op_oEq hr.units) (pv 6) pe_int (nomark _)) (pss_one (ps_ret (pe_cmpR (op_eqO c_Feq (hr.mono (by decide))) (pv 3) (pe_cn c_Float (hr.mono (by decide)) pass0 (pa_cons pe_int (pa_cons pe_int (pa_cons pe_int pa_nil)))) (nomark _)))) pss_nil)
  (pss_cons (ps_set (i := 7) sc_Lfloorright.nd rfl (Or.inl rfl) (pe_fn c_Lratio (hr.mono (by decide)) pass0 (pa_cons (pv 3) pa_nil)))
  (pss_one (ps_ret (pe_cmpR (op_oEq hr.units) (pe_op op_oMul (pe_fld (pv 3) rfl) (pe_ix ix_seq (pv 7) pe_int (fun _ _ => rfl))) (pe_op op_oMul (pv 6) (pe_ix ix_seq (pv 7) pe_int (fun _ _ => rfl))) (nomark _))))))))))), ?_⟩
    walk_at "f"
    refine g_arF _ w6D hv hu ox oy fun H1 v1 s1 f1 => ?_
    walk_at "f"
    refine g_arF _ w6F (hv.same s1) (hu.same s1) ox oy fun H2 v2 s2 f2 => ?_
    have f1 := f1.same s2
    rw [by_floor] at f2
    have oD := by6L_ok (c := "div") ox oy
    generalize by6L "div" x y = D at f1 f2 oD
    have S := s1.trans s2
    obtain ⟨a1, rfl, g1⟩ := id f1
    obtain ⟨a2, rfl, g2⟩ := id f2
    obtain ⟨tx, kx, _⟩ := FlOk.kn (K := K) (H := H2) oD
    walk_at "f"
    refine g_isiStr kx ?_
    walk_at "f"
    refine g_iteb (fun h5 => ?_) fun h5 => ?_
    · have eD : floorL D = D := by
        unfold floorL
        have oD' : FlOk D.s D.t D.p := oD
        rcases oD'.2 with ⟨e, _⟩ | ⟨e, _⟩ | ⟨m, e, _⟩
        · rw [if_pos (.inl (.inr e))]
        · rw [if_pos (.inl (.inl e))]
        · rw [e] at h5; cases h5
      walk_at "f"
      exact g_eqF1 f2 f1 (floorL_ok oD) oD eD fun H' s => q _ (S.trans s)
    · obtain ⟨n, en⟩ : ∃ n, D.t = .int n := by
        rcases oD.is with z | ⟨c, z⟩
        · exact z
        · rw [z] at h5; cases h5
      walk_at "f"
      refine g_eqV (oD.is.scal (.int _)) ?_
      walk_at "f"
      refine g_ite (fun h6 => ?_) fun h6 => ?_
      · have eD : floorL D = D := by
          have oD' : FlOk D.s (.int 0) D.p := h6 ▸ oD
          unfold floorL
          rw [if_pos (.inr (by rw [(fin_of oD').2.2.2.2.1 rfl]; decide))]
        walk_at "f"
        exact g_eqF1 f2 f1 (floorL_ok oD) oD eD fun H' s => q _ (S.trans s)
      · have n0 : n ≠ 0 := fun z => h6 (by rw [en, z])
        obtain ⟨x1, x2, x3⟩ := oD.small en
        obtain ⟨v0, v1⟩ := floor_val oD en n0
        walk_at "f"
        refine ⟨_, D, n, rfl, f1, oD, en, fun H3 p3 n3 s3 h3 => ?_⟩
        have g1 := g1.same s3
        walk_at "f"
        refine ⟨p3, _, rfl, SqT.of h3, rfl, ?_⟩
        walk_at "f"
        refine g_mulI (.of_right (by rcases oD.1 with z | z <;> rw [z] <;> decide)) ?_
        walk_at "f"
        refine g_divI (Int.ne_of_gt x3) (Nat.lt_trans (log2_lt x2 (by decide)) (by decide)) ?_
        have ei : (mg' D * D.s).fdiv (dx D) = flrI D := by
          unfold flrI
          rw [Int.mul_comm, ← nx_mg]
        rw [ei]
        walk_at "f"
        refine g_ite (fun h7 => ?_) fun h7 => ?_
        · walk_at "f"
          refine mkN (zero_mk (.inl rfl)) fun H4 v4 s4 h4 => ?_
          exact g_eqF1 ((f2.same s3).same s4) h4 (floorL_ok oD) (zero_ok (.inl rfl)) (v0 h7) fun H' s => q _ (((S.trans s3).trans s4).trans s)
        · obtain ⟨⟨m, em⟩, ev⟩ := v1 h7
          have oF := floorL_ok oD
          obtain ⟨y1, y2, y3⟩ := oF.small em
          walk_at "f"
          refine ⟨_, floorL D, m, rfl, f2.same s3, oF, em, fun H4 p4 n4 s4 h4 => ?_⟩
          have g2 := (g2.same s3).same s4
          walk_at "f"
          refine g_ixT h4 rfl ?_
          refine g_mulI (sgn_mul oF.1) ?_
          walk_at "f"
          refine g_ixT h4 rfl ?_
          refine g_mulI (mul_small (lt_pow_mono (fdiv_small x1 x3) (by decide)) (lt_pow_mono y2 (by decide))) ?_
          walk_at "f"
          rw [decide_eq_true ev]
          exact q _ ((S.trans s3).trans s4)
/-! _law_mod_right -/
abbrev s_Lmodright : Stmt := top 47
theorem sc_Lmodright : FnScope ["_law_one_here", "_law_other", "_law_found", "_law_first", "_law_second", "_law_high", "_law_low", "_law_gap"] ["_law_one_here", "_law_other"] (defScope s_Lmodright) := ⟨rfl, rfl, rfl, by decide +kernel, rfl, by decide +kernel, by decide +kernel⟩
theorem gap_eq (a b : Nat) : ((a : Nat) : Int) - ((a : Nat) : Int).fdiv ((b : Nat) : Int) * ((b : Nat) : Int) = ((a % b : Nat) : Int) := by
  rw [← fmod_nat, Int.fmod_def, Int.mul_comm]
theorem ok_Lmodright {f : Addr} {fd : FuncData} (F : FunD K "_law_mod_right" "_law_mod_right" (defArgs s_Lmodright) (defBody s_Lmodright) (defScope s_Lmodright) [] [] f fd) (B : Blt mg) (T : FlC K mg C) (c_Float : CnF P w K mg base C) (c_Feq : CEq P w K mg base C) (c_arith : CAr6 P w K mg base C CT) (c_Lratio : CLrat P w K mg base C) (c_Lisnearest : Fn P w K mg base CX0 2 "_law_is_nearest" ["_law_found", "_law_sign", "_law_top", "_law_bottom"] [] (sp_Lisnearest C)) : FnOk P w K mg base CX0 10 f fd ["_law_one_here", "_law_other"] (sp_Lfloorright C) := by
  refine F.ok sc_Lmodright (fun vs H Q E h => ?_) (fun cdv A outer s H vs Q E hr h => ?_)
  · obtain ⟨_, _, _, _, rfl, _⟩ := h; rfl
  · obtain ⟨v, u, x, y, rfl, hv, hu, ox, oy, q⟩ := h
    refine ⟨_, PSs.nox (pss_cons (ps_set (i := 2) sc_Lmodright.nd rfl (Or.inl rfl) (pe_fn c_arith (hr.mono (by decide)) passL (pa_cons pe_str (pa_cons (pv 0) (pa_cons (pv 1) pa_nil)))))
  (pss_cons (ps_if (pt_cut (PW.pt (pw_or (pt_cmpR op_in_seq pe_str (pe_tupN (pa_cons (pe_fld (pv 0) rfl) (pa_cons (pe_fld (pv 1) rfl) pa_nil))) (by rfl)) (pw_or (pt_cmpR (op_oEq hr.units) (pe_fld (pv 0) rfl) pe_str (nomark _)) (pw_or1 (pt_cmpR (op_oEq hr.units) (pe_fld (pv 1) rfl) pe_int (nomark _))))))) (pss_one (ps_ret (pe_cmpR (op_eqO c_Feq (hr.mono (by decide))) (pv 2) (pe_cn c_Float (hr.mono (by decide)) pass0 (pa_cons pe_int (pa_cons pe_str (pa_cons pe_int pa_nil)))) (nomark _)))) pss_nil)
  (pss_cons (ps_if (pt_cmpR (op_oEq hr.units) (pe_fld (pv 1) rfl) pe_str (nomark _)) (pss_one (ps_ret (pe_cmpR (op_eqO c_Feq (hr.mono (by decide))) (pv 2) (pe_ifExp (PW.pt (pw_or (pt_cmpR (op_oEq hr.units) (pe_fld (pv 0) rfl) pe_int (nomark _)) (pw_or1 (pt_cmpR (op_oEq hr.units) (pe_fld (pv 0) rfl) (pe_fld (pv 1) rfl) (nomark _))))) (pv 0) (pv 1)) (nomark _)))) pss_nil)
  (pss_cons (ps_par (i := 3) (j := 4) rfl sc_Lmodright.nd rfl rfl (by decide) rfl rfl (pa_cons (pe_fn c_Lratio (hr.mono (by decide)) pass0 (pa_cons (pv 0) pa_nil)) (pa_cons (pe_fn c_Lratio (hr.mono (by decide)) pass0 (pa_cons (pv 1) pa_nil)) pa_nil)) (by rfl))
  (pss_cons (ps_par (i := 5) (j := 6) rfl sc_Lmodright.nd rfl rfl (by decide) rfl rfl (pa_cons (pe_op op_oMul (pe_ix ix_seq (pv 3) pe_int (fun _ _ => rfl)) (pe_ix ix_seq (pv 4) pe_int (fun _ _ => rfl))) (pa_cons (pe_op op_oMul (pe_ix ix_seq (pv 4) pe_int (fun _ _ => rfl)) (pe_ix ix_seq (pv 3) pe_int (fun _ _ => rfl))) pa_nil)) (by rfl))
  (pss_cons (ps_set (i := 7) sc_Lmodright.nd rfl (Or.inl rfl) (pe_op op_oSub (pv 5) (pe_op op_oMul (pe_op op_oDiv (pv 5) (pv 6)) (pv 6))))
  (pss_cons (ps_if (pt_cmpR (op_oEq hr.units) (pv 7) pe_int (nomark _)) (pss_one (ps_ret (pe_cmpR (op_eqO c_Feq (hr.mono (by decide))) (pv 2) (pe_cn c_Float (hr.mono (by decide)) pass0 (pa_cons (pe_fld (pv 0) rfl) (pa_cons pe_int (pa_cons pe_int pa_nil)))) (nomark _)))) pss_nil)
  (C8.pss_cut (ps_if (pt_cmpR (op_oNe hr.units) (pe_fld (pv 0) rfl) (pe_fld (pv 1) rfl) (nomark _)) (pss_one (ps_set (i := 7) sc_Lmodright.nd rfl (Or.inl rfl) (pe_op op_oSub (pv 6) (pv 7)))) pss_nil)
  (pss_one (ps_ret (pe_fn c_Lisnearest (hr.mono (by decide)) pass0 (pa_cons (pv 2) (pa_cons (pe_fld (pv 1) rfl) (pa_cons (pv 7) (pa_cons (pe_op op_oMul (pe_ix ix_seq (pv 3) pe_int (fun _ _ => rfl)) (pe_ix ix_seq (pv 4) pe_int (fun _ _ => rfl))) pa_nil))))))))))))))), ?_⟩
    walk_at "f"
    refine g_arF _ w6M hv hu ox oy fun H1 v1 s1 f1 => ?_
    rw [by_mod] at f1
    have hv := hv.same s1
    have hu := hu.same s1
    obtain ⟨a, rfl, ha⟩ := id hv
    obtain ⟨b, rfl, hb⟩ := id hu
    walk_at "f"
    refine g_cutT (fun c H' => c = decide ((x.t = .str "nan" ∨ y.t = .str "nan") ∨ x.t = .str "inf" ∨ y.t = .int 0) ∧ Same H1 H') ?_ ?_
    · walk_at "f"
      refine g_new (sz rfl) fun k H2 n2 s2 h2 _ => ?_
      have ha := ha.same s2
      have hb := hb.same s2
      refine g_in2 h2 (.str _) ox.is oy.is ?_
      walk_at "f"
      refine g_ite (fun h3 => ?_) fun h3 => ?_
      · exact ⟨(decide_eq_true (.inl h3)).symm, s2⟩
      · walk_at "f"
        refine g_eqV (ox.is.scal (.str _)) ?_
        walk_at "f"
        refine g_ite (fun h4 => ?_) fun h4 => ?_
        · exact ⟨(decide_eq_true (.inr (.inl h4))).symm, s2⟩
        · walk_at "f"
          refine g_eqV (oy.is.scal (.int _)) ?_
          walk_at "f"
          refine ⟨?_, s2⟩
          by_cases h5 : y.t = .int 0
          · rw [decide_eq_true h5, decide_eq_true (.inr (.inr h5))]
          · rw [decide_eq_false h5, decide_eq_false (fun z => z.elim h3 fun z => z.elim h4 h5)]
    · rintro _ H2 ⟨rfl, s2⟩
      have hv := hv.same s2
      have hu := hu.same s2
      have ha := ha.same s2
      have hb := hb.same s2
      have f1 := f1.same s2
      have S := s1.trans s2
      refine g_ite (fun h3 => ?_) fun h3 => ?_
      · have e1 : (if x.t = .str "nan" ∨ y.t = .str "nan" then nanL else modL x y) = nanL := by
          by_cases h4 : x.t = .str "nan" ∨ y.t = .str "nan"
          · rw [if_pos h4]
          · rw [if_neg h4]
            unfold modL
            rw [if_pos (h3.resolve_left h4)]
        rw [e1] at f1
        walk_at "f"
        refine mkN mk_nan fun H4 v4 s4 h4 => ?_
        exact g_eqF1 (f1.same s4) h4 nan_ok nan_ok rfl fun H' s => q _ ((S.trans s4).trans s)
      · have nn : ¬ (x.t = .str "nan" ∨ y.t = .str "nan") := fun z => h3 (.inl z)
        rw [if_neg nn] at f1
        have x1 : x.t ≠ .str "nan" := fun z => nn (.inl z)
        have y1 : y.t ≠ .str "nan" := fun z => nn (.inr z)
        have x2 : x.t ≠ .str "inf" := fun z => h3 (.inr (.inl z))
        have y2 : y.t ≠ .int 0 := fun z => h3 (.inr (.inr z))
        have oM := modL_ok ox oy x1 y1
        have hni : ¬ (x.t = .str "inf" ∨ y.t = .int 0) := fun z => h3 (.inr z)
        walk_at "f"
        refine g_eqV (oy.is.scal (.str _)) ?_
        walk_at "f"
        refine g_ite (fun h4 => ?_) fun h4 => ?_
        · have el : leftL x y = x := by unfold leftL; rw [if_pos h4]
          have em : modL x y = if x.t ≠ .int 0 ∧ x.s ≠ y.s then y else x := by
            unfold modL
            rw [if_neg hni, el]
            by_cases h5 : x.t ≠ .int 0 ∧ x.s ≠ y.s
            · rw [if_pos h5, if_pos h5]
              unfold addL
              rw [if_pos (.inr h4), if_neg (fun z => x2 (z.1.trans h4)), if_neg x2]
            · rw [if_neg h5, if_neg h5]
          walk_at "f"
          refine g_eqV (ox.is.scal (.int _)) ?_
          walk_at "f"
          refine g_ite (fun h5 => ?_) fun h5 => ?_
          · walk_at "f"
            rw [if_neg (fun z => z.1 h5)] at em
            exact g_eqF1 f1 hv oM ox em fun H' s => q _ (S.trans s)
          · walk_at "f"
            refine g_ite (fun h6 => ?_) fun h6 => ?_
            · walk_at "f"
              rw [if_neg (fun z => z.2 h6)] at em
              exact g_eqF1 f1 hv oM ox em fun H' s => q _ (S.trans s)
            · walk_at "f"
              rw [if_pos ⟨h5, h6⟩] at em
              exact g_eqF1 f1 hu oM oy em fun H' s => q _ (S.trans s)
        · obtain ⟨n, en, _⟩ := ox.fin x1 x2
          obtain ⟨m, em, _⟩ := oy.fin y1 h4
          obtain ⟨n, rfl, _, px1, _⟩ := ox.nat en
          obtain ⟨m, rfl, _, py1, _⟩ := oy.nat em
          have m0 : m ≠ 0 := fun z => y2 (by rw [em, z]; rfl)
          have mn := mod_near ox oy en em m0 rfl
          obtain ⟨sx1, sx2, sx3⟩ := ox.small en
          obtain ⟨sy1, sy2, sy3⟩ := oy.small em
          rw [nx_mg, sgn_abs ox.1] at sx1
          rw [nx_mg, sgn_abs oy.1] at sy1
          walk_at "f"
          refine ⟨_, x, _, rfl, hv, ox, en, fun H3 p3 n3 s3 h3 => ?_⟩
          walk_at "f"
          refine ⟨_, y, _, rfl, hu.same s3, oy, em, fun H4 p4 n4 s4 h4 => ?_⟩
          have h3 := s4 _ _ h3
          have S := (S.trans s3).trans s4
          have ha := (ha.same s3).same s4
          have hb := (hb.same s3).same s4
          have f1 := (f1.same s3).same s4
          walk_at "f"
          refine g_ixT h3 rfl ?_
          walk_at "f"
          refine g_ixT h4 rfl ?_
          refine g_mulI (mul_small (lt_pow_mono sx1 (by decide)) (lt_pow_mono sy2 (by decide))) ?_
          walk_at "f"
          refine g_ixT h4 rfl ?_
          walk_at "f"
          refine g_ixT h3 rfl ?_
          refine g_mulI (mul_small (lt_pow_mono sy1 (by decide)) (lt_pow_mono sx2 (by decide))) ?_
          walk_at "f"
          have e1 : mg' x * dx y = ((mgn n x.p * dn y.p : Nat) : Int) := by rw [mg_nat en, dx_nat, Int.natCast_mul]
          have e2 : mg' y * dx x = ((mgn m y.p * dn x.p : Nat) : Int) := by rw [mg_nat em, dx_nat, Int.natCast_mul]
          have b1 : mgn n x.p * dn y.p < 2 ^ 2200 := by
            have := natAbs_mul_lt sx1 sy2
            rw [e1, Int.natAbs_natCast] at this
            exact this
          have b2 : mgn m y.p * dn x.p < 2 ^ 2200 := by
            have := natAbs_mul_lt sy1 sx2
            rw [e2, Int.natAbs_natCast] at this
            exact this
          have b3 : dn x.p * dn y.p < 2 ^ 2200 := by
            have := natAbs_mul_lt sx2 sy2
            rw [dx_nat, dx_nat, ← Int.natCast_mul, Int.natAbs_natCast] at this
            exact this
          have l0 : 0 < mgn m y.p * dn x.p := by
            refine Nat.mul_pos ?_ (dn_pos _)
            unfold mgn
            split
            · omega
            · exact Nat.mul_pos (by omega) (Nat.two_pow_pos _)
          have d0 : 0 < dn x.p * dn y.p := Nat.mul_pos (dn_pos _) (dn_pos _)
          rw [e1, e2]
          generalize mgn n x.p * dn y.p = HI at *
          generalize mgn m y.p * dn x.p = LO at *
          refine g_divI (by omega) (Nat.lt_trans (log2_lt (by rw [Int.natAbs_natCast]; exact b2) (by decide)) (by decide)) ?_
          walk_at "f"
          refine g_mulI (mul_small (lt_pow_mono (a := 2201) (fdiv_small (by rw [Int.natAbs_natCast]; exact b1) (by omega)) (by decide)) (by rw [Int.natAbs_natCast]; exact lt_pow_mono b2 (by decide))) ?_
          walk_at "f"
          rw [gap_eq]
          have lR : HI % LO < LO := Nat.mod_lt _ l0
          generalize HI % LO = R at *
          refine g_ite (fun h5 => ?_) fun h5 => ?_
          · have h5 : R = 0 := by omega
            rw [mn, if_pos h5] at f1
            walk_at "f"
            refine mkN (zero_mk ox.1) fun H5 v5 s5 h6 => ?_
            exact g_eqF1 (f1.same s5) h6 (zero_ok ox.1) (zero_ok ox.1) rfl fun H' s => q _ ((S.trans s5).trans s)
          · have h5 : R ≠ 0 := by omega
            rw [mn, if_neg h5] at f1
            walk_at "f"
            refine g_cut (fun σ' H' => σ' = [some (.ref a), some (.ref b), some v1, some (.ref p3), some (.ref p4), some (.int (HI : Nat)), some (.int (LO : Nat)), some (.int ((if x.s = y.s then R else LO - R : Nat) : Int))] ∧ H4 = H') ?_ ?_
            · walk_at "f"
              refine g_iten (fun h6 => ?_) fun h6 => ?_
              · walk_at "f"
                refine ⟨?_, rfl⟩
                rw [if_neg h6, show ((LO : Nat) : Int) - ((R : Nat) : Int) = ((LO - R : Nat) : Int) by omega]
                rfl
              · walk_at "f"
                refine ⟨?_, rfl⟩
                rw [if_pos h6]
                rfl
            · rintro _ _ ⟨rfl, rfl⟩
              obtain ⟨g, hg, g0, g1⟩ : ∃ g : Nat, (if x.s = y.s then R else LO - R) = g ∧ 0 < g ∧ g ≤ LO := by
                refine ⟨_, rfl, ?_, ?_⟩ <;> split <;> omega
              rw [hg] at f1 ⊢
              walk_at "f"
              refine g_ixT h3 rfl ?_
              walk_at "f"
              refine g_ixT h4 rfl ?_
              refine g_mulI (mul_small (lt_pow_mono sx2 (by decide)) (lt_pow_mono sy2 (by decide))) ?_
              walk_at "f"
              rw [dx_nat, dx_nat, ← Int.natCast_mul]
              exact ⟨_, _, g, dn x.p * dn y.p, rfl, g0, d0, lt_pow_mono (Nat.lt_of_le_of_lt g1 b2) (by decide), lt_pow_mono b3 (by decide), oy.1, f1, fun H' s => q _ (S.trans s)⟩
end
end Up

set_option Elab.async false
set_option linter.all false
set_option pp.maxSteps 600
set_option maxRecDepth 100000
set_option maxHeartbeats 4000000
set_option exponentiation.threshold 200000
namespace Up
open PySem PySem.Spec PyProof.Rows L2
local macro_rules | `(tactic| walk_at "u") => `(tactic| first
  | with_reducible refine g_seq ?_
  | with_reducible refine g_asg ?_
  | with_reducible refine g_op ?_
  | ((with_reducible show tVar _ _ _ _); apply g_var; exact rfl)
  | with_reducible refine g_c ?_
  | with_reducible refine g_name ?_
  | with_reducible refine g_ifs ?_
  | with_reducible refine g_tt ?_
  | with_reducible refine g_tB ?_
  | with_reducible refine g_bl ?_
  | with_reducible refine g_ret ?_
  | with_reducible refine g_cb ?_
  | with_reducible refine g_cons ?_
  | with_reducible refine g_nil ?_
  | with_reducible refine g_call ?_
  | with_reducible refine g_and ?_
  | with_reducible refine g_or ?_
  | with_reducible refine g_not ?_
  | with_reducible refine g_andV ?_
  | with_reducible refine g_orV ?_
  | with_reducible refine g_notV ?_
  | with_reducible refine g_if ?_
  | with_reducible refine g_un ?_
  | with_reducible refine g_neg ?_
  | with_reducible refine g_addI ?_
  | with_reducible refine g_subI ?_
  | with_reducible refine g_subB ?_
  | with_reducible refine g_I0 ?_
  | with_reducible refine g_cmpI ?_
  | with_reducible refine g_eqI ?_
  | with_reducible refine g_neI ?_
  | with_reducible refine g_eqS ?_
  | with_reducible refine g_neS ?_
  | with_reducible refine g_eqB ?_
  | with_reducible refine g_neB ?_
  | with_reducible refine g_bits ?_
  | with_reducible refine g_bitsI ?_
  | with_reducible refine g_fld ?_
  | with_reducible refine g_tup ?_
  | with_reducible refine g_lst ?_
  | with_reducible refine g_gtup ?_
  | with_reducible refine g_make ?_
  | with_reducible refine g_lc ?_
  | with_reducible refine g_yesT ?_
  | with_reducible refine g_intI ?_
  | with_reducible refine g_intB ?_
  | with_reducible refine g_max2 ?_
  | with_reducible refine g_abs1 ?_
  | with_reducible refine g_for ?_
  | with_reducible refine g_iList ?_
  | with_reducible refine g_iTup ?_
  | with_reducible refine g_iRng1 ?_
  | with_reducible refine g_iEnum ?_
  | with_reducible refine g_slice ?_
  | with_reducible refine g_po0 ?_
  | with_reducible refine g_po1 ?_
  | with_reducible refine g_gsub ?_
  | with_reducible refine g_par ?_
  | with_reducible refine g_par2 ?_
  | with_reducible refine g_rfl ?_
  | with_reducible refine g_meth ?_
  | with_reducible refine g_gcons ?_
  | with_reducible refine g_gnil ?_
  | with_reducible refine g_gfld ?_
  | with_reducible refine g_sfld ?_
  | with_reducible refine g_drop ?_
  | with_reducible refine g_next ?_
  | with_reducible refine iteT ?_
  | with_reducible refine iteF ?_)
local macro_rules | `(tactic| walk_at "go") => `(tactic| (repeat walk_at "u"))
local macro_rules | `(tactic| walk_at "f") => `(tactic| (repeat (first
  | walk_at "u"
  | with_reducible refine g_chain ?_
  | with_reducible refine g_par3 ?_
  | with_reducible refine g_par3' ?_
  | ((with_reducible refine show_ex ?_); first
    | refine fT (by assumption) (by assumption) ?_
    | refine fS (by assumption) (by assumption) ?_
    | refine fP (by assumption) (by assumption) ?_))))

section
variable {P : Program} {w : World} {K : PySem.W.Frag} {mg : Str → Option Value} {base : Heap} {C CT : Addr}
theorem FA.stp {a : Addr} {H H' : Hp} {v : V} {x : FL} (h : FA C H v x) (hw : Well H a) (e : Stp a H H') : FA C H' v x := by
  obtain ⟨b, z, h⟩ := h
  exact ⟨b, z, h.stp hw e⟩
theorem toL_ok (k : Int) : (toL (.i k)).ok := near_ok (tfS_sgn k) (by decide)
theorem NumAt.fa {H : Hp} {v : V} {s : Int} {t : V} {p : Int} (h : NumAt C H v (.f s t p)) : FA C H v ⟨s, t, p⟩ ∧ (⟨s, t, p⟩ : FL).ok := by
  obtain ⟨a, e, h, o⟩ := h
  exact ⟨⟨a, e, h⟩, o⟩
theorem ne_no {x y : FL} (e : x = y) : (!eqL x y) = false := by rw [e, eqL_refl]; rfl
abbrev s_law : Stmt := top 48
theorem sc_law : FnScope ["_law_script", "_law_cell", "_law_well_here", "_law_turn", "_law_one_here", "_law_other", "_law_small", "_law_number", "_law_word"] ["_law_script"] (defScope s_law) := ⟨rfl, rfl, rfl, by decide +kernel, rfl, by decide +kernel, by decide +kernel⟩
def spLaw (K : PySem.W.Frag) : Sp := fun vs H Q _ => ∃ (a : Addr) (ns : List Int), vs = [.ref a] ∧ SqL K H a (ns.map V.int) ∧ ns.length ≤ 63 ∧ ∀ H', Q (.bl true) H'
theorem cells_int {ns : List Int} {lo hi : Option Int} : ∀ v ∈ cutV (ns.map V.int ++ [V.int 0]) lo hi, ∃ n, v = .int n := fun v hv => by
  have h := List.mem_of_mem_drop (List.mem_of_mem_take hv)
  rcases List.mem_append.mp h with h | h
  · obtain ⟨n, _, rfl⟩ := List.mem_map.mp h
    exact ⟨n, rfl⟩
  · simp only [List.mem_cons, List.not_mem_nil, or_false] at h
    exact ⟨0, h⟩
theorem ok_law {f : Addr} {fd : FuncData} (F : FunD K "law" "law" (defArgs s_law) (defBody s_law) (defScope s_law) [] [] f fd) (B : Blt mg) (T : FlC K mg C) (c_Float : CnF P w K mg base C) (c_Feq : CEq P w K mg base C) (c_arith : CAr6 P w K mg base C CT) (c_tofloat : Fn P w K mg base CX0 6 "to_float" ["number"] [] (sp_tofloat C)) (c_Lwell : Fn P w K mg base CX0 1 "_law_well" ["_law_cell"] [] sp_Lwell) (c_Ldraw : CDraw P w K mg base) (c_Lone : COne P w K mg base) (c_Lfloat : Fn P w K mg base CX0 4 "_law_float" ["_law_well_here"] [] (sp_Lfloat C))
    (c_Lint : Fn P w K mg base CX0 3 "_law_int" ["_law_well_here"] [] sp_Lint) (c_Lintsright : Fn P w K mg base CX0 11 "_law_ints_right" ["_law_one_here", "_law_other"] [] sp_Lintsright) (c_Lfloorright : Fn P w K mg base CX0 10 "_law_floor_right" ["_law_one_here", "_law_other"] [] (sp_Lfloorright C)) (c_Lmodright : Fn P w K mg base CX0 10 "_law_mod_right" ["_law_one_here", "_law_other"] [] (sp_Lfloorright C)) : FnOk P w K mg base CX0 12 f fd ["_law_script"] (spLaw K) := by
  refine F.ok sc_law (fun vs H Q E h => ?_) (fun cdv A outer s H vs Q E hr h => ?_)
  · obtain ⟨a, ns, rfl, _⟩ := h; rfl
  · obtain ⟨a, ns, rfl, hS, hlen, q⟩ := h
    refine ⟨_, PSs.nox (pss_cons (ps_for PassesOwn.never rfl (pi_list (pe_slice sl_lstN (pe_op op_oAdd (pv 0) (pe_lstN (pa_cons pe_int pa_nil))) po_none (po_some pe_int))) (pg_name (i := 1) sc_law.nd rfl (Or.inl rfl))
    (pss_cons (ps_set (i := 2) sc_law.nd rfl (Or.inl rfl) (pe_fn c_Lwell (hr.mono (by decide)) pass0 (pa_cons (pv 1) pa_nil)))
  (pss_one (ps_for PassesOwn.never rfl (pi_range1 (by rfl) B.range (pa_cons pe_int pa_nil)) (pg_name (i := 3) sc_law.nd rfl (Or.inl rfl))
    (pss_cons (ps_if (pt_not (pt_val (pe_fn c_Lintsright (hr.mono (by decide)) pass0 (pa_cons (pe_fn c_Lint (hr.mono (by decide)) pass0 (pa_cons (pv 2) pa_nil)) (pa_cons (pe_fn c_Lint (hr.mono (by decide)) pass0 (pa_cons (pv 2) pa_nil)) pa_nil))))) (pss_one (ps_ret pe_bl)) pss_nil)
  (pss_cons (ps_par (i := 4) (j := 5) rfl sc_law.nd rfl rfl (by decide) rfl rfl (pa_cons (pe_fn c_Lfloat (hr.mono (by decide)) pass0 (pa_cons (pv 2) pa_nil)) (pa_cons (pe_fn c_Lfloat (hr.mono (by decide)) pass0 (pa_cons (pv 2) pa_nil)) pa_nil)) (by rfl))
  (pss_cons (ps_if (pt_cut (PW.pt (pw_or (pt_not (pt_val (pe_fn c_Lfloorright (hr.mono (by decide)) pass0 (pa_cons (pv 4) (pa_cons (pv 5) pa_nil))))) (pw_or1 (pt_not (pt_val (pe_fn c_Lmodright (hr.mono (by decide)) pass0 (pa_cons (pv 4) (pa_cons (pv 5) pa_nil))))))))) (pss_one (ps_ret pe_bl)) pss_nil)
  (pss_cons (ps_set (i := 6) sc_law.nd rfl (Or.inl rfl) (pe_cn c_Float (hr.mono (by decide)) pass0 (pa_cons (pe_fn c_Lone (hr.mono (by decide)) pass0 (pa_cons (pv 2) (pa_cons (pe_lstN (pa_cons pe_int (pa_cons (pe_un un_neg pe_int) pa_nil))) pa_nil))) (pa_cons (pe_fn c_Ldraw (hr.mono (by decide)) pass0 (pa_cons (pv 2) (pa_cons pe_int pa_nil))) (pa_cons (pe_fn c_Lone (hr.mono (by decide)) pass0 (pa_cons (pv 2) (pa_cons (pe_lstN (pa_cons pe_int (pa_cons (pe_un un_neg pe_int) pa_nil))) pa_nil))) pa_nil)))))
  (pss_cons (ps_if (pt_cut (PW.pt (pw_or (pt_not (pt_val (pe_fn c_Lmodright (hr.mono (by decide)) pass0 (pa_cons (pv 4) (pa_cons (pv 6) pa_nil))))) (pw_or1 (pt_not (pt_val (pe_fn c_Lfloorright (hr.mono (by decide)) pass0 (pa_cons (pv 4) (pa_cons (pv 6) pa_nil))))))))) (pss_one (ps_ret pe_bl)) pss_nil)
  (pss_cons (ps_set (i := 7) sc_law.nd rfl (Or.inl rfl) (pe_fn c_Lint (hr.mono (by decide)) pass0 (pa_cons (pv 2) pa_nil)))
  (pss_one (ps_for PassesOwn.never rfl (pi_list (pe_lstN (pa_cons pe_str (pa_cons pe_str pa_nil)))) (pg_name (i := 8) sc_law.nd rfl (Or.inl rfl))
    (pss_cons (ps_if (pt_cmpR (op_neO c_Feq (hr.mono (by decide))) (pe_fn c_arith (hr.mono (by decide)) passL (pa_cons (pv 8) (pa_cons (pv 7) (pa_cons (pv 5) pa_nil)))) (pe_fn c_arith (hr.mono (by decide)) passL (pa_cons (pv 8) (pa_cons (pe_fn c_tofloat (hr.mono (by decide)) pass0 (pa_cons (pv 7) pa_nil)) (pa_cons (pv 5) pa_nil)))) (nomark _)) (pss_one (ps_ret pe_bl)) pss_nil)
  (pss_one (ps_if (pt_cmpR (op_neO c_Feq (hr.mono (by decide))) (pe_fn c_arith (hr.mono (by decide)) passL (pa_cons (pv 8) (pa_cons (pv 5) (pa_cons (pv 7) pa_nil)))) (pe_fn c_arith (hr.mono (by decide)) passL (pa_cons (pv 8) (pa_cons (pv 5) (pa_cons (pe_fn c_tofloat (hr.mono (by decide)) pass0 (pa_cons (pv 7) pa_nil)) pa_nil)))) (nomark _)) (pss_one (ps_ret pe_bl)) pss_nil)))))))))))))))
  (pss_one (ps_ret pe_bl))), ?_⟩
    walk_at "f"
    refine g_new (sz rfl) fun l1 H1 n1 s1 h1 _ => ?_
    refine .inl ⟨a, l1, _, _, rfl, rfl, s1.seq hS, SqL.of h1, ?_, fun l2 H2 n2 s2 h2 _ => ?_⟩
    · rw [List.length_map]
      exact Nat.le_trans (Nat.add_le_add hlen (Nat.le_refl 1)) (by decide)
    walk_at "f"
    refine ⟨l2, _, rfl, SqL.of h2, fun l3 H3 n3 s3 h3 _ => ?_⟩
    refine ⟨l3, rfl, ⟨_, SqL.of h3⟩, ?_⟩
    refine for_list (K := K) (a := l3) (xs := cutV (ns.map V.int ++ [V.int 0]) none (some 8)) (fun i σ' H' => ∃ e1 e2 e3 e4 e5 e6 e7 e8, σ' = [some (.ref a), e1, e2, e3, e4, e5, e6, e7, e8] ∧ Same H3 H') ⟨_, _, _, _, _, _, _, _, rfl, Same.refl _⟩ ?_ ?_ ?_
    · rintro i _ H' _ ⟨_, _, _, _, _, _, _, _, _, sH⟩
      exact SqL.of (sH _ _ h3)
    · rintro i z _ H4 hz ⟨e1, e2, e3, e4, e5, e6, e7, e8, rfl, s4⟩
      obtain ⟨c, rfl⟩ := cells_int z (List.mem_of_getElem? hz)
      walk_at "f"
      refine ⟨c, rfl, fun wl H5 n5 s5 hw5 => ?_⟩
      have tot : ∀ H', Stp wl H5 H' → Same H4 H' := fun H' st b o e => st b o (ne_of_none e n5) (s5 _ _ e)
      walk_at "f"
      refine ⟨by decide, by decide, ?_⟩
      refine for_range (fun i σ' H' => ∃ e3 e4 e5 e6 e7 e8, σ' = [some (.ref a), some (.int c), some (.ref wl), e3, e4, e5, e6, e7, e8] ∧ Stp wl H5 H' ∧ Well H' wl) ⟨_, _, _, _, _, _, rfl, Stp.refl _ _, hw5⟩ ?_ ?_
      · rintro i _ H6 hi ⟨e3, e4, e5, e6, e7, e8, rfl, s6, hw6⟩
        walk_at "f"
        refine ⟨wl, rfl, hw6, fun k1 H7 k1a k1b s7 hw7 => ?_⟩
        walk_at "f"
        refine ⟨wl, rfl, hw7, fun k2 H8 k2a k2b s8 hw8 => ?_⟩
        walk_at "f"
        refine ⟨k1, k2, rfl, k1a, k1b, k2a, k2b, fun H9 s9 => ?_⟩
        have S9 := ((s6.trans s7).trans s8).trans (Stp.of s9)
        have hw9 := hw8.same s9
        walk_at "f"
        refine iteF ?_
        walk_at "f"
        refine ⟨wl, rfl, hw9, fun v1 H10 sg1 t1 p1 s10 hw10 m1 => ?_⟩
        walk_at "f"
        refine ⟨wl, rfl, hw10, fun v2 H11 sg2 t2 p2 s11 hw11 m2 => ?_⟩
        obtain ⟨f1, o1⟩ := m1.fa
        obtain ⟨f2, o2⟩ := m2.fa
        have f1 := f1.stp hw10 s11
        have S11 := (S9.trans s10).trans s11
        walk_at "f"
        refine g_cutT (fun b H' => b = false ∧ Same H11 H') ?_ ?_
        · walk_at "f"
          refine ⟨v1, v2, _, _, rfl, f1, f2, o1, o2, fun H12 s12 => ?_⟩
          walk_at "f"
          refine iteF ?_
          walk_at "f"
          refine ⟨v1, v2, _, _, rfl, f1.same s12, f2.same s12, o1, o2, fun H13 s13 => ?_⟩
          walk_at "f"
          exact ⟨rfl, s12.trans s13⟩
        · rintro _ H12 ⟨rfl, s12⟩
          have f1 := f1.same s12
          have f2 := f2.same s12
          have hw12 := hw11.same s12
          have S12 := S11.trans (Stp.of s12)
          walk_at "f"
          refine g_new (sz rfl) fun l13 H13 n13 s13 h13 _ => ?_
          refine ⟨wl, l13, _, rfl, hw12.same s13, h13, hw12.ne_none n13, by decide, by decide, fun w1 H14 hv s14 hw14 => ?_⟩
          have S14 := (S12.trans (Stp.of s13)).trans s14
          have f1 := (f1.same s13).stp (hw12.same s13) s14
          have f2 := (f2.same s13).stp (hw12.same s13) s14
          obtain ⟨sg, rfl, hs⟩ : ∃ sg, w1 = .int sg ∧ (sg = 1 ∨ sg = -1) := by
            simp only [List.mem_cons, List.not_mem_nil, or_false] at hv
            rcases hv with rfl | rfl
            · exact ⟨_, rfl, .inl rfl⟩
            · exact ⟨_, rfl, .inr rfl⟩
          walk_at "f"
          refine ⟨wl, _, rfl, by decide, by decide, hw14, fun d H15 d0 d1 s15 hw15 => ?_⟩
          have f1 := f1.stp hw14 s15
          have f2 := f2.stp hw14 s15
          have S15 := S14.trans s15
          walk_at "f"
          refine g_new (sz rfl) fun l16 H16 n16 s16 h16 _ => ?_
          refine ⟨wl, l16, _, rfl, hw15.same s16, h16, hw15.ne_none n16, by decide, by decide, fun w2 H17 hv s17 hw17 => ?_⟩
          have S17 := (S15.trans (Stp.of s16)).trans s17
          have f1 := (f1.same s16).stp (hw15.same s16) s17
          have f2 := (f2.same s16).stp (hw15.same s16) s17
          obtain ⟨p, rfl, hp1, hp2⟩ : ∃ p, w2 = .int p ∧ -2 ≤ p ∧ p ≤ 0 := by
            simp only [List.mem_cons, List.not_mem_nil, or_false] at hv
            rcases hv with rfl | rfl
            · exact ⟨_, rfl, by decide, by decide⟩
            · exact ⟨_, rfl, by decide, by decide⟩
          obtain ⟨z, rfl⟩ := Int.eq_ofNat_of_zero_le d0
          have bz : bitsN z ≤ 6 := bits_le (show z < 64 by omega)
          have mk : MkOk sg (.int (z : Nat)) p := mk_of_flok hs (by omega) (by omega) (by omega)
          walk_at "f"
          refine mkN mk fun H18 v18 s18 f18 => ?_
          have o18 := mkL_ok (v := (.int (z : Nat), p)) mk
          have f1 := f1.same s18
          have f2 := f2.same s18
          have hw18 := hw17.same s18
          have S18 := S17.trans (Stp.of s18)
          walk_at "f"
          refine g_cutT (fun b H' => b = false ∧ Same H18 H') ?_ ?_
          · walk_at "f"
            refine ⟨v1, v18, _, _, rfl, f1, f18, o1, o18, fun H19 s19 => ?_⟩
            walk_at "f"
            refine iteF ?_
            walk_at "f"
            refine ⟨v1, v18, _, _, rfl, f1.same s19, f18.same s19, o1, o18, fun H20 s20 => ?_⟩
            walk_at "f"
            exact ⟨rfl, s19.trans s20⟩
          · rintro _ H19 ⟨rfl, s19⟩
            have f2 := f2.same s19
            have hw19 := hw18.same s19
            have S19 := S18.trans (Stp.of s19)
            walk_at "f"
            refine ⟨wl, rfl, hw19, fun j H20 j0 j1 s20 hw20 => ?_⟩
            have f2 := f2.stp hw19 s20
            have S20 := S19.trans s20
            have bj : bigOk j := big64 (by omega) (by omega)
            walk_at "f"
            refine g_new (sz rfl) fun l21 H21 n21 s21 h21 _ => ?_
            have f2 := f2.same s21
            have hw21 := hw20.same s21
            have S21 := S20.trans (Stp.of s21)
            refine ⟨l21, rfl, ⟨_, SqL.of h21⟩, ?_⟩
            refine for_list (K := K) (a := l21) (xs := [V.str "floor", V.str "mod"]) (fun i' σ' H' => ∃ e8, σ' = [some (.ref a), some (.int c), some (.ref wl), some (.int (0 + (i : Int))), some v1, some v2, some v18, some (.int j), e8] ∧ Same H21 H') ⟨_, rfl, Same.refl _⟩ ?_ ?_ ?_
            · rintro i _ H' _ ⟨_, _, sH⟩
              exact SqL.of (sH _ _ h21)
            · rintro i' z _ H22 hz ⟨e8, rfl, s22⟩
              obtain ⟨c', rfl, hc⟩ : ∃ c', z = .str c' ∧ Wd6 c' := by
                have := List.mem_of_getElem? hz
                simp only [List.mem_cons, List.not_mem_nil, or_false] at this
                rcases this with rfl | rfl
                · exact ⟨_, rfl, w6F⟩
                · exact ⟨_, rfl, w6M⟩
              have f2 := f2.same s22
              walk_at "f"
              refine g_arN (n := .i j) hc rfl (f2.num o2) bj trivial (.inr (.inr rfl)) fun H23 v23 s23 h23 => ?_
              have f2 := f2.same s23
              walk_at "f"
              refine g_tofl (n := .i j) rfl bj fun H24 v24 s24 h24 => ?_
              have f2 := f2.same s24
              walk_at "f"
              refine g_arF _ hc h24 f2 (toL_ok j) o2 fun H25 v25 s25 h25 => ?_
              have f2 := f2.same s25
              refine g_neF ((h23.same s24).same s25) h25 (by6L_ok (toL_ok j) o2) (by6L_ok (toL_ok j) o2) fun H26 s26 => ?_
              rw [ne_no (show by6L c' (toL (.i j)) (toL (.f sg2 t2 p2)) = by6L c' (toL (.i j)) ⟨sg2, t2, p2⟩ from rfl)]
              have f2 := f2.same s26
              walk_at "f"
              refine g_arN (m := .i j) hc (f2.num o2) rfl trivial bj (.inr (.inl rfl)) fun H27 v27 s27 h27 => ?_
              have f2 := f2.same s27
              walk_at "f"
              refine g_tofl (n := .i j) rfl bj fun H28 v28 s28 h28 => ?_
              have f2 := f2.same s28
              walk_at "f"
              refine g_arF _ hc f2 h28 o2 (toL_ok j) fun H29 v29 s29 h29 => ?_
              refine g_neF ((h27.same s28).same s29) h29 (by6L_ok o2 (toL_ok j)) (by6L_ok o2 (toL_ok j)) fun H30 s30 => ?_
              rw [ne_no (show by6L c' (toL (.f sg2 t2 p2)) (toL (.i j)) = by6L c' ⟨sg2, t2, p2⟩ (toL (.i j)) from rfl)]
              walk_at "f"
              exact ⟨_, rfl, ((((((((s22.trans s23).trans s24).trans s25).trans s26).trans s27).trans s28).trans s29).trans s30)⟩
            · rintro _ H22 ⟨e8, rfl, s22⟩
              walk_at "f"
              exact ⟨_, _, _, _, _, _, rfl, S21.trans (Stp.of s22), hw21.same s22⟩
      · rintro _ H6 ⟨e3, e4, e5, e6, e7, e8, rfl, s6, hw6⟩
        walk_at "f"
        exact ⟨_, _, _, _, _, _, _, _, rfl, s4.trans (tot _ s6)⟩
    · rintro _ H4 ⟨e1, e2, e3, e4, e5, e6, e7, e8, rfl, s4⟩
      walk_at "f"
      exact q _
end
end Up

set_option Elab.async false
set_option linter.all false
set_option maxRecDepth 100000
set_option maxHeartbeats 0
namespace Up
open PySem PySem.Spec PyProof.Rows L2
def d_isplain : He.DefD := ⟨("is_plain", none), "is_plain", "is_plain", defArgs s_isplain, defBody s_isplain, defScope s_isplain, [], []⟩
def d_reduced : He.DefD := ⟨("reduced", none), "reduced", "reduced", defArgs s_reduced, defBody s_reduced, defScope s_reduced, [], []⟩
def d_fits : He.DefD := ⟨("fits", none), "fits", "fits", defArgs s_fits, defBody s_fits, defScope s_fits, [], []⟩
def d_signof : He.DefD := ⟨("sign_of", none), "sign_of", "sign_of", defArgs s_signof, defBody s_signof, defScope s_signof, [], []⟩
def d_Float_init : He.DefD := ⟨("Float", some "__init__"), "__init__", "Float.__init__", defArgs s_Float_init, defBody s_Float_init, defScope s_Float_init, [], []⟩
def d_Float_ratio : He.DefD := ⟨("Float", some "ratio"), "ratio", "Float.ratio", defArgs s_Float_ratio, defBody s_Float_ratio, defScope s_Float_ratio, [], []⟩
def d_Float_eq : He.DefD := ⟨("Float", some "__eq__"), "__eq__", "Float.__eq__", defArgs s_Float_eq, defBody s_Float_eq, defScope s_Float_eq, [], []⟩
def d_Thrown_init : He.DefD := ⟨("Thrown", some "__init__"), "__init__", "Thrown.__init__", defArgs s_Thrown_init, defBody s_Thrown_init, defScope s_Thrown_init, [.int 1], []⟩
def d_infinity : He.DefD := ⟨("infinity", none), "infinity", "infinity", defArgs s_infinity, defBody s_infinity, defScope s_infinity, [], []⟩
def d_nan : He.DefD := ⟨("nan", none), "nan", "nan", defArgs s_nan, defBody s_nan, defScope s_nan, [], []⟩
def d_nearest : He.DefD := ⟨("nearest", none), "nearest", "nearest", defArgs s_nearest, defBody s_nearest, defScope s_nearest, [], []⟩
def d_wrapped : He.DefD := ⟨("wrapped", none), "wrapped", "wrapped", defArgs s_wrapped, defBody s_wrapped, defScope s_wrapped, [], []⟩
def d_tofloat : He.DefD := ⟨("to_float", none), "to_float", "to_float", defArgs s_tofloat, defBody s_tofloat, defScope s_tofloat, [], []⟩
def d_added : He.DefD := ⟨("added", none), "added", "added", defArgs s_added, defBody s_added, defScope s_added, [], []⟩
def d_multiplied : He.DefD := ⟨("multiplied", none), "multiplied", "multiplied", defArgs s_multiplied, defBody s_multiplied, defScope s_multiplied, [], []⟩
def d_divided : He.DefD := ⟨("divided", none), "divided", "divided", defArgs s_divided, defBody s_divided, defScope s_divided, [], []⟩
def d_floored : He.DefD := ⟨("floored", none), "floored", "floored", defArgs s_floored, defBody s_floored, defScope s_floored, [], []⟩
def d_remainder : He.DefD := ⟨("remainder", none), "remainder", "remainder", defArgs s_remainder, defBody s_remainder, defScope s_remainder, [], []⟩
def d_byfloats : He.DefD := ⟨("by_floats", none), "by_floats", "by_floats", defArgs s_byfloats, defBody s_byfloats, defScope s_byfloats, [], []⟩
def d_arith : He.DefD := ⟨("arith", none), "arith", "arith", defArgs s_arith, defBody s_arith, defScope s_arith, [], []⟩
def d_Lwell : He.DefD := ⟨("_law_well", none), "_law_well", "_law_well", defArgs s_Lwell, defBody s_Lwell, defScope s_Lwell, [], []⟩
def d_Ldraw : He.DefD := ⟨("_law_draw", none), "_law_draw", "_law_draw", defArgs s_Ldraw, defBody s_Ldraw, defScope s_Ldraw, [], []⟩
def d_Lone : He.DefD := ⟨("_law_one", none), "_law_one", "_law_one", defArgs s_Lone, defBody s_Lone, defScope s_Lone, [], []⟩
def d_Lgreat : He.DefD := ⟨("_law_great", none), "_law_great", "_law_great", defArgs s_Lgreat, defBody s_Lgreat, defScope s_Lgreat, [], []⟩
def d_Lfinite : He.DefD := ⟨("_law_finite", none), "_law_finite", "_law_finite", defArgs s_Lfinite, defBody s_Lfinite, defScope s_Lfinite, [], []⟩
def d_Lfloat : He.DefD := ⟨("_law_float", none), "_law_float", "_law_float", defArgs s_Lfloat, defBody s_Lfloat, defScope s_Lfloat, [], []⟩
def d_Lratio : He.DefD := ⟨("_law_ratio", none), "_law_ratio", "_law_ratio", defArgs s_Lratio, defBody s_Lratio, defScope s_Lratio, [], []⟩
def d_Lscaled : He.DefD := ⟨("_law_scaled", none), "_law_scaled", "_law_scaled", defArgs s_Lscaled, defBody s_Lscaled, defScope s_Lscaled, [], []⟩
def d_Lisnearest : He.DefD := ⟨("_law_is_nearest", none), "_law_is_nearest", "_law_is_nearest", defArgs s_Lisnearest, defBody s_Lisnearest, defScope s_Lisnearest, [], []⟩
def d_Lsaid : He.DefD := ⟨("_law_said", none), "_law_said", "_law_said", defArgs s_Lsaid, defBody s_Lsaid, defScope s_Lsaid, [], []⟩
def d_Lwrapped : He.DefD := ⟨("_law_wrapped", none), "_law_wrapped", "_law_wrapped", defArgs s_Lwrapped, defBody s_Lwrapped, defScope s_Lwrapped, [], []⟩
def d_Lint : He.DefD := ⟨("_law_int", none), "_law_int", "_law_int", defArgs s_Lint, defBody s_Lint, defScope s_Lint, [], []⟩
def d_Lintsright : He.DefD := ⟨("_law_ints_right", none), "_law_ints_right", "_law_ints_right", defArgs s_Lintsright, defBody s_Lintsright, defScope s_Lintsright, [], []⟩
def d_Lfloorright : He.DefD := ⟨("_law_floor_right", none), "_law_floor_right", "_law_floor_right", defArgs s_Lfloorright, defBody s_Lfloorright, defScope s_Lfloorright, [], []⟩
def d_Lmodright : He.DefD := ⟨("_law_mod_right", none), "_law_mod_right", "_law_mod_right", defArgs s_Lmodright, defBody s_Lmodright, defScope s_Lmodright, [], []⟩
def d_law : He.DefD := ⟨("law", none), "law", "law", defArgs s_law, defBody s_law, defScope s_law, [], []⟩
def hfn : List He.DefD := [d_isplain, d_reduced, d_fits, d_signof, d_Float_init, d_Float_ratio, d_Float_eq, d_Thrown_init, d_infinity, d_nan, d_nearest, d_wrapped,
  d_tofloat, d_added, d_multiplied, d_divided, d_floored, d_remainder, d_byfloats, d_arith, d_Lwell, d_Ldraw, d_Lone, d_Lgreat,
  d_Lfinite, d_Lfloat, d_Lratio, d_Lscaled, d_Lisnearest, d_Lsaid, d_Lwrapped, d_Lint, d_Lintsright, d_Lfloorright, d_Lmodright, d_law]
def hglo : List Str := (["is_plain", "reduced", "fits", "sign_of", "infinity", "nan", "nearest", "wrapped", "to_float", "added", "multiplied", "divided"] : List Str) ++
  (["floored", "remainder", "by_floats", "arith", "_law_well", "_law_draw", "_law_one", "_law_great", "_law_finite", "_law_float", "_law_ratio", "_law_scaled"] : List Str) ++
  (["_law_is_nearest", "_law_said", "_law_wrapped", "_law_int", "_law_ints_right", "_law_floor_right", "_law_mod_right", "law", "Float", "Thrown"] : List Str)
def hfa : List He.Fa := hglo.map He.Fa.glo ++ (bltNames.map He.Fa.free ++ [.int "ROOM" (9007199254740992), .int "LOWEST" (-1074), .int "TOO_GREAT" (1024), .free "ArithmeticError", .mkr "Float", .meth "Float" "ratio", .meth "Float" "__eq__", .meth "Thrown" "__init__"])
def thB (K : PySem.W.Frag) (C : Addr) (f : Addr) : Bool := PySem.W.excInitIn K C aeT "ArithmeticError.__new__" && (PySem.W.excOver K C aeT && (PySem.W.hasDictIn K C && (decide (PySem.W.findIn K (.ref C) "__setattr__" = some (some (.builtin "object.__setattr__"))) &&
  (decide (PySem.W.subIn K (.ref C) (.type "BaseException") = some true) && (decide (PySem.W.typeIn K (.ref C) = some (.type "type")) && (PySem.W.keepIn K (.ref C) && (noB K C ["value", "level"] && (xfB K C && (decide (PySem.W.exmOne K (.ref C) (.ref C) = some true) &&
  ((match PySem.W.findCls K (.type "ArithmeticError") (.type "type") "__init__" with | some (.val (.builtin n)) => n == "ArithmeticError.__init__" | _ => false) && decide (PySem.W.typeIn K (.ref f) = some (.type "function"))))))))))))
def hex (K : PySem.W.Frag) : Bool := ownB K (He.ga K "Float") && (noB K (He.ga K "Float") ["sign", "top", "power"] && (kitB' K (He.ga K "Float") true [.ref (He.ga K "Float")] &&
  (kitB' K (He.ga K "Float") false [.type "int", .type "bool", .type "str", .type "NoneType", .type "list", .type "tuple", .type "dict"] && (decide (PySem.W.findIn K (.ref (He.ga K "Float")) "__ne__" = some (some (.builtin "object.__ne__"))) && thB K (He.ga K "Thrown") (He.ma K (He.ga K "Thrown") "__init__")))))
abbrev hR : PySem.W.OpenRow := PySem.W.OpenLaw.row PySem.Challenge.rw_upvalues_k03_whole_quotients_and_what_is
abbrev hk : PySem.W.Hook := He.hookX 5 hfa hfn [] [] hex
def hob (s : PySem.W.SharedT) : He.AlX := He.obsX 5 hfa hfn [] [] hex (HandSHeadRun.getT s)
theorem hob_eq (s : PySem.W.SharedT) : hob s = hk.obs s.abs := He.obsX_eq (HandSHeadRun.getT_eq s)
def hloose : List PySem.Str := (["_wall", "LuaError", "InvalidArgument", "Thrown", "LEAST", "MOST", "ROOM", "LOWEST", "TOO_GREAT", "Float", "is_plain", "reduced", "fits", "sign_of", "nan", "infinity", "nearest", "wrapped", "to_float", "whole_of", "arith", "whole_or_thrown", "by_bits", "by_floats", "added", "multiplied", "divided", "floored", "remainder", "_law_well"] : List PySem.Str) ++ (["_law_draw", "_law_one", "_law_great", "_law_finite", "_law_float", "_law_ratio", "_law_is_nearest", "_law_scaled", "_law_said", "_law_wrapped", "_law_int", "_law_ints_right", "_law_floor_right", "_law_mod_right"] : List PySem.Str)
theorem hrun (w : World) : HandSHeadRun.RunEq hR (PySem.W.view hR.prog [48]) hk hob 6000 hloose w := by
  intro os
  kernel_rfl
end Up

set_option Elab.async false
set_option linter.all false
set_option maxRecDepth 100000
set_option maxHeartbeats 0
namespace Up
open PySem PySem.Spec PyProof.Rows L2
theorem facts {P : Program} {w : World} {K : PySem.W.Frag} {h : Heap} {mg : Str → Option Value} {f : Addr} (X : K.In h) (G : h.Ns mainGlobals mg) (hfa' : mg ("law" : Str) = some (.ref f)) (cs : He.SaysX hfa hfn [] [] hex w h K) :
    ∃ fd : FuncData, (∀ (s : Shared) (v : Value), BindsTo s fd ⟨[v], []⟩ [("_law_script", v)]) ∧ ∀ base : Heap, K.In base → base.Ns mainGlobals mg → FnOk P w K mg base CX0 12 f fd ["_law_script"] (spLaw K) := by
  have c := cs.t.d
  have glo : ∀ x ∈ hglo, mg x = some (.ref (He.ga K x)) := fun x hx => He.glo_ok X G (c.facts (f := .glo x) (List.mem_append_left _ (List.mem_map_of_mem hx)))
  have B : Blt mg := blt_of fun x hx => He.free_ok X G (c.facts (f := .free x) (List.mem_append_right _ (List.mem_append_left _ (List.mem_map_of_mem hx))))
  have i_ROOM : ∃ t, mg "ROOM" = some (.int (9007199254740992) t) := He.int_ok X G (c.facts (f := .int "ROOM" (9007199254740992)) (List.mem_append_right _ (List.mem_append_right _ (by simp))))
  have i_LOWEST : ∃ t, mg "LOWEST" = some (.int (-1074) t) := He.int_ok X G (c.facts (f := .int "LOWEST" (-1074)) (List.mem_append_right _ (List.mem_append_right _ (by simp))))
  have i_TOO_GREAT : ∃ t, mg "TOO_GREAT" = some (.int (1024) t) := He.int_ok X G (c.facts (f := .int "TOO_GREAT" (1024)) (List.mem_append_right _ (List.mem_append_right _ (by simp))))
  have mk_Float := He.mkr_ok (c.facts (f := .mkr "Float") (List.mem_append_right _ (List.mem_append_right _ (by simp))))
  have mt_Float_ratio := He.meth_ok (c.facts (f := .meth "Float" "ratio") (List.mem_append_right _ (List.mem_append_right _ (by simp))))
  have mt_Float_eq := He.meth_ok (c.facts (f := .meth "Float" "__eq__") (List.mem_append_right _ (List.mem_append_right _ (by simp))))
  have mt_Thrown_init := He.meth_ok (c.facts (f := .meth "Thrown" "__init__") (List.mem_append_right _ (List.mem_append_right _ (by simp))))
  have ex := cs.more
  unfold hex at ex
  simp only [Bool.and_eq_true] at ex
  obtain ⟨x1, x2, x3, x4, x5, x6⟩ := ex
  have x5 := of_decide_eq_true x5
  have T : FlC K mg (He.ga K "Float") := {
    own := ownB_ok x1, nS := noB_ok x2 (by simp), nT := noB_ok x2 (by simp), nP := noB_ok x2 (by simp), mg := glo "Float" (by simp [hglo]), yes := kitB'_ok x3 (by simp)
    fi := kitB'_ok x4 (by simp), fb := kitB'_ok x4 (by simp), fs := kitB'_ok x4 (by simp), fn := kitB'_ok x4 (by simp), fl := kitB'_ok x4 (by simp), ft := kitB'_ok x4 (by simp), fd := kitB'_ok x4 (by simp) }
  unfold thB at x6
  simp only [Bool.and_eq_true, decide_eq_true_eq] at x6
  obtain ⟨y1, y2, y3, y4, y5, y6, y7, y8, y9, y10, y11, y12⟩ := x6
  have y11 : PySem.W.findCls K (.type "ArithmeticError") (.type "type") "__init__" = some (.val (.builtin "ArithmeticError.__init__")) := by
    split at y11
    · rename_i n e
      rw [e, eq_of_beq y11]
    · cases y11
  have TH : ThK K mg (He.ga K "Thrown") := {
    ax := ⟨y1, y2, y3, y4, y5, y6, y7⟩, nV := noB_ok y8 (by simp), nL := noB_ok y8 (by simp), xf := xfB_ok y9, te := y10, ae := He.free_ok X G (c.facts (f := .free "ArithmeticError") (List.mem_append_right _ (List.mem_append_right _ (by simp)))), vV := y11, mg := glo "Thrown" (by simp [hglo]) }
  obtain ⟨f_isplain, F_isplain⟩ := c.defs (d := d_isplain) (by simp [hfn])
  obtain ⟨f_reduced, F_reduced⟩ := c.defs (d := d_reduced) (by simp [hfn])
  obtain ⟨f_fits, F_fits⟩ := c.defs (d := d_fits) (by simp [hfn])
  obtain ⟨f_signof, F_signof⟩ := c.defs (d := d_signof) (by simp [hfn])
  obtain ⟨f_Float_init, F_Float_init⟩ := c.defs (d := d_Float_init) (by simp [hfn])
  obtain ⟨f_Float_ratio, F_Float_ratio⟩ := c.defs (d := d_Float_ratio) (by simp [hfn])
  obtain ⟨f_Float_eq, F_Float_eq⟩ := c.defs (d := d_Float_eq) (by simp [hfn])
  obtain ⟨f_Thrown_init, F_Thrown_init⟩ := c.defs (d := d_Thrown_init) (by simp [hfn])
  obtain ⟨f_infinity, F_infinity⟩ := c.defs (d := d_infinity) (by simp [hfn])
  obtain ⟨f_nan, F_nan⟩ := c.defs (d := d_nan) (by simp [hfn])
  obtain ⟨f_nearest, F_nearest⟩ := c.defs (d := d_nearest) (by simp [hfn])
  obtain ⟨f_wrapped, F_wrapped⟩ := c.defs (d := d_wrapped) (by simp [hfn])
  obtain ⟨f_tofloat, F_tofloat⟩ := c.defs (d := d_tofloat) (by simp [hfn])
  obtain ⟨f_added, F_added⟩ := c.defs (d := d_added) (by simp [hfn])
  obtain ⟨f_multiplied, F_multiplied⟩ := c.defs (d := d_multiplied) (by simp [hfn])
  obtain ⟨f_divided, F_divided⟩ := c.defs (d := d_divided) (by simp [hfn])
  obtain ⟨f_floored, F_floored⟩ := c.defs (d := d_floored) (by simp [hfn])
  obtain ⟨f_remainder, F_remainder⟩ := c.defs (d := d_remainder) (by simp [hfn])
  obtain ⟨f_byfloats, F_byfloats⟩ := c.defs (d := d_byfloats) (by simp [hfn])
  obtain ⟨f_arith, F_arith⟩ := c.defs (d := d_arith) (by simp [hfn])
  obtain ⟨f_Lwell, F_Lwell⟩ := c.defs (d := d_Lwell) (by simp [hfn])
  obtain ⟨f_Ldraw, F_Ldraw⟩ := c.defs (d := d_Ldraw) (by simp [hfn])
  obtain ⟨f_Lone, F_Lone⟩ := c.defs (d := d_Lone) (by simp [hfn])
  obtain ⟨f_Lgreat, F_Lgreat⟩ := c.defs (d := d_Lgreat) (by simp [hfn])
  obtain ⟨f_Lfinite, F_Lfinite⟩ := c.defs (d := d_Lfinite) (by simp [hfn])
  obtain ⟨f_Lfloat, F_Lfloat⟩ := c.defs (d := d_Lfloat) (by simp [hfn])
  obtain ⟨f_Lratio, F_Lratio⟩ := c.defs (d := d_Lratio) (by simp [hfn])
  obtain ⟨f_Lscaled, F_Lscaled⟩ := c.defs (d := d_Lscaled) (by simp [hfn])
  obtain ⟨f_Lisnearest, F_Lisnearest⟩ := c.defs (d := d_Lisnearest) (by simp [hfn])
  obtain ⟨f_Lsaid, F_Lsaid⟩ := c.defs (d := d_Lsaid) (by simp [hfn])
  obtain ⟨f_Lwrapped, F_Lwrapped⟩ := c.defs (d := d_Lwrapped) (by simp [hfn])
  obtain ⟨f_Lint, F_Lint⟩ := c.defs (d := d_Lint) (by simp [hfn])
  obtain ⟨f_Lintsright, F_Lintsright⟩ := c.defs (d := d_Lintsright) (by simp [hfn])
  obtain ⟨f_Lfloorright, F_Lfloorright⟩ := c.defs (d := d_Lfloorright) (by simp [hfn])
  obtain ⟨f_Lmodright, F_Lmodright⟩ := c.defs (d := d_Lmodright) (by simp [hfn])
  obtain ⟨f_law, F_law⟩ := c.defs (d := d_law) (by simp [hfn])
  have e := hfa'.symm.trans (glo "law" (by simp [hglo]))
  cases e
  have b := FunD.bindsA (ps := ["_law_script"]) F_law fun _ _ _ _ _ _ us hl => match us, hl with | [_], _ => rfl
  refine ⟨f_law, fun s v => b s [v] rfl, fun base _ _ => ?_⟩
  have c_isplain : Fn P w K mg base CX0 1 "is_plain" _ [] _ := fn_mk F_isplain (glo "is_plain" (by simp [hglo])) (ok_isplain F_isplain B) (fun _ _ _ _ _ _ us hl => match us, hl with | [_], _ => rfl)
  have c_reduced : Fn P w K mg base CX0 1 "reduced" _ [] _ := fn_mk F_reduced (glo "reduced" (by simp [hglo])) (ok_reduced F_reduced B) (fun _ _ _ _ _ _ us hl => match us, hl with | [_, _], _ => rfl)
  have c_fits : Fn P w K mg base CX0 1 "fits" _ [] _ := fn_mk F_fits (glo "fits" (by simp [hglo])) (ok_fits F_fits B i_ROOM i_LOWEST i_TOO_GREAT) (fun _ _ _ _ _ _ us hl => match us, hl with | [_, _], _ => rfl)
  have c_signof : Fn P w K mg base CX0 1 "sign_of" _ [] _ := fn_mk F_signof (glo "sign_of" (by simp [hglo])) (ok_signof F_signof) (fun _ _ _ _ _ _ us hl => match us, hl with | [_], _ => rfl)
  have c_Float : Cn P w K mg base CX0 2 "Float" (He.ga K "Float") _ [] _ := cn_mk F_Float_init mk_Float T.mg (ok_Finit F_Float_init B T c_isplain c_reduced c_fits) (fun _ _ _ _ _ _ us hl => match us, hl with | [_, _, _, _], _ => rfl)
  have c_Float_ratio : Mt P w K mg base CX0 1 (He.ga K "Float") "ratio" _ _ := mt_mk F_Float_ratio mt_Float_ratio T.own.cl (ok_ratio F_Float_ratio B T) (fun _ _ _ _ _ _ us hl => match us, hl with | [_], _ => rfl)
  have c_Float_eq : EqC P w K mg base 1 (He.ga K "Float") _ := ⟨_, f_Float_eq, ok_Feq F_Float_eq B T, mt_Float_eq.at_, mt_Float_eq.fn, FunD.bindsN F_Float_eq (fun _ _ _ _ _ _ us hl => match us, hl with | [_, _], _ => rfl), x5, T.own.hm⟩
  have c_Thrown : CThr P w K mg base (He.ga K "Thrown") := by
    obtain ⟨ds, hd, hb⟩ := FunD.binds1 (ps := ["self", "value", "level"]) F_Thrown_init 2 0 (by show [V.int 1] ≠ []; simp) rfl (fun _ _ _ _ _ _ _ us its hu hi => match us, its, hu, hi with | [_, _], [_], _, _ => ⟨_, rfl, rfl⟩)
    exact ⟨TH, _, _, ds, mt_Thrown_init.at_, y12, ok_Tinit F_Thrown_init TH, hb, hd⟩
  have c_infinity : Fn P w K mg base CX0 4 "infinity" _ [] _ := fn_mk F_infinity (glo "infinity" (by simp [hglo])) (ok_infinity F_infinity c_Float) (fun _ _ _ _ _ _ us hl => match us, hl with | [_], _ => rfl)
  have c_nan : Fn P w K mg base CX0 4 "nan" _ [] _ := fn_mk F_nan (glo "nan" (by simp [hglo])) (ok_nan F_nan c_Float) (fun _ _ _ _ _ _ us hl => match us, hl with | [], _ => rfl)
  have c_nearest : Fn P w K mg base CX0 5 "nearest" _ [] _ := fn_mk F_nearest (glo "nearest" (by simp [hglo])) (ok_nearest F_nearest B i_ROOM i_LOWEST i_TOO_GREAT c_Float c_infinity) (fun _ _ _ _ _ _ us hl => match us, hl with | [_, _, _], _ => rfl)
  have c_wrapped : Fn P w K mg base CX0 1 "wrapped" _ [] _ := fn_mk F_wrapped (glo "wrapped" (by simp [hglo])) (ok_wrapped F_wrapped) (fun _ _ _ _ _ _ us hl => match us, hl with | [_], _ => rfl)
  have c_tofloat : Fn P w K mg base CX0 6 "to_float" _ [] _ := fn_mk F_tofloat (glo "to_float" (by simp [hglo])) (ok_tofloat F_tofloat B T c_nearest c_signof) (fun _ _ _ _ _ _ us hl => match us, hl with | [_], _ => rfl)
  have c_added : Fn P w K mg base CX0 6 "added" _ [] _ := fn_mk F_added (glo "added" (by simp [hglo])) (ok_added F_added B T c_Float c_nan c_Float_ratio c_nearest c_signof) (fun _ _ _ _ _ _ us hl => match us, hl with | [_, _], _ => rfl)
  have c_multiplied : Fn P w K mg base CX0 6 "multiplied" _ [] _ := fn_mk F_multiplied (glo "multiplied" (by simp [hglo])) (ok_multiplied F_multiplied B T c_nan c_infinity c_Float_ratio c_nearest) (fun _ _ _ _ _ _ us hl => match us, hl with | [_, _], _ => rfl)
  have c_divided : Fn P w K mg base CX0 6 "divided" _ [] _ := fn_mk F_divided (glo "divided" (by simp [hglo])) (ok_divided F_divided B T c_Float c_nan c_infinity c_Float_ratio c_nearest) (fun _ _ _ _ _ _ us hl => match us, hl with | [_, _], _ => rfl)
  have c_floored : Fn P w K mg base CX0 6 "floored" _ [] _ := fn_mk F_floored (glo "floored" (by simp [hglo])) (ok_floored F_floored B T c_Float_ratio c_nearest c_signof) (fun _ _ _ _ _ _ us hl => match us, hl with | [_], _ => rfl)
  have c_remainder : Fn P w K mg base CX0 7 "remainder" _ [] _ := fn_mk F_remainder (glo "remainder" (by simp [hglo])) (ok_remainder F_remainder B T c_nan c_Float_ratio c_nearest c_added) (fun _ _ _ _ _ _ us hl => match us, hl with | [_, _], _ => rfl)
  have c_byfloats : Fn P w K mg base CX0 8 "by_floats" _ [] _ := fn_mk F_byfloats (glo "by_floats" (by simp [hglo])) (ok_byfloats6 F_byfloats B T c_Float c_nan c_added c_multiplied c_divided c_remainder c_floored) (fun _ _ _ _ _ _ us hl => match us, hl with | [_, _, _], _ => rfl)
  have c_arith : Fn P w K mg base (L2.CX P w) 9 "arith" _ [] _ := fn_mk F_arith (glo "arith" (by simp [hglo])) (ok_arith6 F_arith B T c_Thrown c_byfloats c_tofloat c_wrapped) (fun _ _ _ _ _ _ us hl => match us, hl with | [_, _, _], _ => rfl)
  have c_Lwell : Fn P w K mg base CX0 1 "_law_well" _ [] _ := fn_mk F_Lwell (glo "_law_well" (by simp [hglo])) (ok_Lwell F_Lwell B) (fun _ _ _ _ _ _ us hl => match us, hl with | [_], _ => rfl)
  have c_Ldraw : Fn P w K mg base CX0 1 "_law_draw" _ [] _ := fn_mk F_Ldraw (glo "_law_draw" (by simp [hglo])) (ok_Ldraw F_Ldraw B) (fun _ _ _ _ _ _ us hl => match us, hl with | [_, _], _ => rfl)
  have c_Lone : Fn P w K mg base CX0 2 "_law_one" _ [] _ := fn_mk F_Lone (glo "_law_one" (by simp [hglo])) (ok_Lone F_Lone B c_Ldraw) (fun _ _ _ _ _ _ us hl => match us, hl with | [_, _], _ => rfl)
  have c_Lgreat : Fn P w K mg base CX0 2 "_law_great" _ [] _ := fn_mk F_Lgreat (glo "_law_great" (by simp [hglo])) (ok_Lgreat F_Lgreat B c_Ldraw) (fun _ _ _ _ _ _ us hl => match us, hl with | [_, _], _ => rfl)
  have c_Lfinite : Fn P w K mg base CX0 3 "_law_finite" _ [] _ := fn_mk F_Lfinite (glo "_law_finite" (by simp [hglo])) (ok_Lfinite F_Lfinite B c_Ldraw c_Lone c_Lgreat) (fun _ _ _ _ _ _ us hl => match us, hl with | [_], _ => rfl)
  have c_Lfloat : Fn P w K mg base CX0 4 "_law_float" _ [] _ := fn_mk F_Lfloat (glo "_law_float" (by simp [hglo])) (ok_Lfloat F_Lfloat B c_Float c_Ldraw c_Lone c_Lfinite) (fun _ _ _ _ _ _ us hl => match us, hl with | [_], _ => rfl)
  have c_Lratio : Fn P w K mg base CX0 1 "_law_ratio" _ [] _ := fn_mk F_Lratio (glo "_law_ratio" (by simp [hglo])) (ok_Lratio F_Lratio B T) (fun _ _ _ _ _ _ us hl => match us, hl with | [_], _ => rfl)
  have c_Lscaled : Fn P w K mg base CX0 1 "_law_scaled" _ [] _ := fn_mk F_Lscaled (glo "_law_scaled" (by simp [hglo])) (ok_Lscaled F_Lscaled B) (fun _ _ _ _ _ _ us hl => match us, hl with | [_, _], _ => rfl)
  have c_Lisnearest : Fn P w K mg base CX0 2 "_law_is_nearest" _ [] _ := fn_mk F_Lisnearest (glo "_law_is_nearest" (by simp [hglo])) (ok_Lisnearest F_Lisnearest B T c_Lscaled) (fun _ _ _ _ _ _ us hl => match us, hl with | [_, _, _, _], _ => rfl)
  have c_Lsaid : Fn P w K mg base CX0 10 "_law_said" _ [] _ := fn_mk F_Lsaid (glo "_law_said" (by simp [hglo])) (ok_Lsaid F_Lsaid B TH c_arith) (fun _ _ _ _ _ _ us hl => match us, hl with | [_, _, _], _ => rfl)
  have c_Lwrapped : Fn P w K mg base CX0 1 "_law_wrapped" _ [] _ := fn_mk F_Lwrapped (glo "_law_wrapped" (by simp [hglo])) (ok_Lwrapped F_Lwrapped B) (fun _ _ _ _ _ _ us hl => match us, hl with | [_], _ => rfl)
  have c_Lint : Fn P w K mg base CX0 3 "_law_int" _ [] _ := fn_mk F_Lint (glo "_law_int" (by simp [hglo])) (ok_Lint F_Lint B c_Ldraw c_Lone c_Lgreat) (fun _ _ _ _ _ _ us hl => match us, hl with | [_], _ => rfl)
  have c_Lintsright : Fn P w K mg base CX0 11 "_law_ints_right" _ [] _ := fn_mk F_Lintsright (glo "_law_ints_right" (by simp [hglo])) (ok_Lintsright F_Lintsright B c_arith c_Lsaid c_Lwrapped) (fun _ _ _ _ _ _ us hl => match us, hl with | [_, _], _ => rfl)
  have c_Lfloorright : Fn P w K mg base CX0 10 "_law_floor_right" _ [] _ := fn_mk F_Lfloorright (glo "_law_floor_right" (by simp [hglo])) (ok_Lfloorright F_Lfloorright B T c_Float c_Float_eq c_arith c_Lratio) (fun _ _ _ _ _ _ us hl => match us, hl with | [_, _], _ => rfl)
  have c_Lmodright : Fn P w K mg base CX0 10 "_law_mod_right" _ [] _ := fn_mk F_Lmodright (glo "_law_mod_right" (by simp [hglo])) (ok_Lmodright F_Lmodright B T c_Float c_Float_eq c_arith c_Lratio c_Lisnearest) (fun _ _ _ _ _ _ us hl => match us, hl with | [_, _], _ => rfl)
  exact ok_law F_law B T c_Float c_Float_eq c_arith c_tofloat c_Lwell c_Ldraw c_Lone c_Lfloat c_Lint c_Lintsright c_Lfloorright c_Lmodright
end Up
open PySem PySem.W PySem.Calls PyProof.Rows
theorem PySem.Challenge.cw_upvalues_k03_whole_quotients_and_what_is_holds : PySem.Challenge.rw_upvalues_k03_whole_quotients_and_what_is.Holds := by
  w_on; o_law
  refine HandSHeadRun.head_any (r := OpenLaw.row PySem.Challenge.rw_upvalues_k03_whole_quotients_and_what_is) (q := view (OpenLaw.row PySem.Challenge.rw_upvalues_k03_whole_quotients_and_what_is).prog [48]) (H := Up.hk) (ob := Up.hob) (M := 6000) (loose := Up.hloose) (d := HandSHeadRun.topDef (OpenLaw.row PySem.Challenge.rw_upvalues_k03_whole_quotients_and_what_is).prog 48) (kwd := []) Up.hob_eq
    (by kernel_rfl) (fun s => by kernel_rfl) Up.hrun (by kernel_rfl) (by kernel_rfl) (by kernel_rfl) (by rfl) (by first | assumption | decide +kernel) (by decide +kernel) ⟨rfl, rfl, rfl, rfl, rfl, by decide +kernel⟩ ?hw ?hc
  case hw => w_witness2
  case hc =>
    refine L2.walk_ofE (l := PySem.Challenge.rw_upvalues_k03_whole_quotients_and_what_is) (n := 63) (k := 12) (x := "_law_script") (CX := L2.CX0) rfl (by decide) (by kernel_rfl) ⟨rfl, by decide, by decide⟩ ?F (fun _ _ _ _ z => z)
    intro w mg fa h Y G hmg0
    obtain ⟨K, KX, c⟩ := Y
    have hmg : mg ("law" : PySem.Str) = some (.ref fa) := by
      have e : (HandSHeadRun.topDef (OpenLaw.row PySem.Challenge.rw_upvalues_k03_whole_quotients_and_what_is).prog 48).name = ("law" : PySem.Str) := by kernel_rfl
      rw [← e]
      exact hmg0
    obtain ⟨fd, hb, hF⟩ := Up.facts (P := (PySem.Challenge.rw_upvalues_k03_whole_quotients_and_what_is).prog) (w := w) KX G hmg c
    exact ⟨K, fd, Up.spLaw K, KX, hb, fun H a ns hl _ hS => ⟨a, ns, rfl, hS, hl, fun _ => rfl⟩, hF⟩
#print axioms PySem.Challenge.cw_upvalues_k03_whole_quotients_and_what_is_holds
