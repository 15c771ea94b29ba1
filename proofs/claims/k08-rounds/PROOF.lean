import PyProof.Rows.All
import Wide.All
import OpenK.AllK
import Wide.FinOn
import PyProof.EqAt
import PyProof.EqKinds
import PyProof.TupleCall
import HandS.ForMost
import HandS.IsInst
import HandS.Wide
import HandS.WideBits
import HandS.TupAny
import HandS.Deep
import HandS.Flow
import HandS.Defaults
import HandS.Exc
import HandS.WordsExc
import HandS.Codes
import HandS.More
import HandS.Style
import KE.KExcInit
import KE.KExcSuper
import HandS.ExcInit
import HandS.ExcField
import HandS.ExcIs
import HandS.Walk
import KE.KStateDown
import HandS.Head0
import HandS.Head1
import HandS.Head2
import HandS.HeadEnd
import HandS.HeadHook1
import HandS.HeadHook2
import HandS.HeadHook3
import HandS.HeadHook4
import HandS.NoneIn
import HandS.Zip
import PySem.Challenge.RW_upvalues_k08_rounds_of_numbers
set_option Elab.async false
set_option linter.all false
set_option maxRecDepth 100000
set_option maxHeartbeats 4000000
namespace Up
open PySem PySem.Spec PyProof.Rows L2

theorem sz {n : Nat} (h : Nat.ble n 100000 = true) : n ≤ sizeLine := Nat.le_trans (Nat.le_of_ble_eq_true h) (by decide)
/-! ### a new object, by what is known of the heap behind it -/
def NewAt (H : Hp) (o : HO) (Q : VK) : Prop := ∀ p H', H p = none → Same H H' → H' p = some o → (∀ b, b ≠ p → H' b = H b) → Q (.ref p) H'
theorem NewAt.all {H : Hp} {o : HO} {Q : VK} (h : NewAt H o Q) : ∀ p, H p = none → Q (.ref p) (upd H p o) := fun p hp =>
  h p _ hp (fun b u e => by rw [upd_ne (ne_of_none e hp)]; exact e) upd_same fun b hb => upd_ne hb
def tTupN (t : TA) : TE := fun σ H Q => t σ H fun xs H1 => xs.length ≤ sizeLine ∧ NewAt H1 (.tup xs) Q
def tLstN (t : TA) : TE := fun σ H Q => t σ H fun xs H1 => xs.length ≤ sizeLine ∧ NewAt H1 (.lst xs) Q
section
variable {X : Cx} {es : List Expr} {t : TA} {pos : Pos}
theorem pe_tupN {x1} (h : PA X es t) : PE X (.Tuple es x1 pos) (tTupN t) := by
  refine ⟨fun pins s σ H Q I hq => ?_⟩
  refine wpAny_Tuple_spliced (thn (h.run pos pins s σ H _ I hq) fun us s1 ⟨xs, H1, I1, r, z, q⟩ => ⟨(by rw [← r.length]; exact z), ?_⟩)
  exact ⟨.ref s1.heap.objs.size, upd H1 s1.heap.objs.size (.tup xs), I1.laid (t' := s1.toks) (fun b u e => Heap.get?_push_of_some _ e) (Nat.le_refl _) ⟨z, us, r, ⟨_, Heap.get?_push_size _ rfl, rfl, _, rfl⟩⟩, rfl, q.all _ (I1.hok.fresh (Nat.le_refl _))⟩
theorem pe_lstN (h : PA X es t) : PE X (.List es pos) (tLstN t) := by
  refine ⟨fun pins s σ H Q I hq => ?_⟩
  refine wpAny_List_spliced (thn (h.run pos pins s σ H _ I hq) fun us s1 ⟨xs, H1, I1, r, z, q⟩ => ⟨(by rw [← r.length]; exact z), ?_⟩)
  exact ⟨.ref s1.heap.objs.size, upd H1 s1.heap.objs.size (.lst xs), I1.laid (t' := s1.toks) (fun b u e => Heap.get?_push_of_some _ e) (Nat.le_refl _) ⟨z, us, 0, r, Heap.get?_push_size _ rfl⟩, rfl, q.all _ (I1.hok.fresh (Nat.le_refl _))⟩
end
/-! ### operators by the kinds of their values -/
section
variable {X : Cx} {f : Value → Value → Sem Value} {r r' : R2}
theorem op_or (h : OpR X f r) (h' : OpR X f r') : OpR X f (fun x y H Q => r x y H Q ∨ r' x y H Q) := by
  intro pins s σ H x y v u Q I rx ry q
  rcases q with q | q
  · exact h pins s σ H x y v u Q I rx ry q
  · exact h' pins s σ H x y v u Q I rx ry q
theorem op_wk (h : OpR X f r) (k : ∀ x y H Q, r' x y H Q → r x y H Q) : OpR X f r' := by
  intro pins s σ H x y v u Q I rx ry q
  exact h pins s σ H x y v u Q I rx ry (k _ _ _ _ q)
theorem op_wh {S : Prop} (h : S → OpR X f r) (k : ∀ x y H Q, r' x y H Q → S ∧ r x y H Q) : OpR X f r' := by
  intro pins s σ H x y v u Q I rx ry q
  exact h (k _ _ _ _ q).1 pins s σ H x y v u Q I rx ry (k _ _ _ _ q).2
end
/-- two lists that are read -/
def oCatS (K : PySem.W.Frag) : R2 := fun x y H Q => ∃ a b xs ys, x = .ref a ∧ y = .ref b ∧ SqL K H a xs ∧ SqL K H b ys ∧ xs.length + ys.length ≤ sizeLine ∧ NewAt H (.lst (xs ++ ys)) Q
theorem op_catS {X : Cx} : OpR X (binaryOp .Add) (oCatS X.K) := by
  intro pins s σ H x y v u Q I rx ry h
  obtain ⟨a, b, xs, ys, rfl, rfl, ha, hb, hz, q⟩ := h
  cases rx
  cases ry
  obtain ⟨its, r1, p1, _⟩ := I.list ha
  obtain ⟨jts, r2, p2, _⟩ := I.list hb
  have l1 := r1.length
  have l2 := r2.length
  obtain ⟨⟨c1, d1, t1, z1⟩, n1, e1, k1, _, w1⟩ := p1
  obtain ⟨⟨c2, d2, t2, z2⟩, n2, e2, k2, _, w2⟩ := p2
  simp only at k1 w1 k2 w2
  subst k1 w1 k2 w2
  refine concat_meets (S := _) ⟨_, e1, rfl⟩ ⟨_, e2, rfl⟩ noFill_list_add seq_list_add PySem.F.slot_list_add PySem.F.entry_list_add (PySem.F.args_list_add_2 _ _) (list_addW a b its.toArray jts.toArray n1 n2 d1 d2 z1 z2 (by rw [List.size_toArray, List.size_toArray]; omega)) ⟨e1, e2, ?_⟩
  rw [show its.toArray ++ jts.toArray = (its ++ jts).toArray by simp]
  exact ⟨.ref _, _, I.lnew (t' := s.toks) (r1.append r2) (by rw [List.length_append]; omega), rfl, q.all _ I.fresh⟩
/-- two tuples -/
def oCatU (K : PySem.W.Frag) : R2 := fun x y H Q => ∃ a b xs ys, x = .ref a ∧ y = .ref b ∧ SqT K H a xs ∧ SqT K H b ys ∧ xs.length + ys.length ≤ sizeLine ∧ xs ≠ [] ∧ ys ≠ [] ∧ NewAt H (.tup (xs ++ ys)) Q
/-- a + b -/
def oAdd (K : PySem.W.Frag) : R2 := fun x y H Q => match x, y with
  | .int i, .int j => Q (.int (i + j)) H
  | .str a, .str b => a.length + b.length ≤ sizeLine ∧ Q (.str (a ++ b)) H
  | .ref a, .ref b => oCatS K (.ref a) (.ref b) H Q ∨ oCatU K (.ref a) (.ref b) H Q
  | _, _ => False
theorem op_oAdd {X : Cx} : OpR X (binaryOp .Add) (oAdd X.K) := by
  refine op_wk (op_or op_add (op_or op_add_str (op_or op_catS op_catA))) fun x y H Q q => ?_
  cases x <;> cases y <;> first | exact q.elim | skip
  · exact .inl ⟨_, _, rfl, rfl, q⟩
  · exact .inr (.inl ⟨_, _, rfl, rfl, q⟩)
  · rcases q with q | ⟨c, d, xs, ys, e1, e2, h1, h2, hz, n1, n2, q⟩
    · exact .inr (.inr (.inl q))
    · exact .inr (.inr (.inr ⟨c, d, xs, ys, e1, e2, h1, h2, hz, fun z => absurd z n1, fun _ z => absurd z n2, fun _ _ => q.all⟩))
/-- a - b, of ints and of bools -/
def oSub : R2 := fun x y H Q => match x, y with
  | .int i, .int j => Q (.int (i - j)) H
  | .bl i, .bl j => Q (.int (b2i i - b2i j)) H
  | _, _ => False
theorem op_sub_bb {X : Cx} : OpR X (binaryOp .Sub) (fun x y H Q => ∃ i j, x = .bl i ∧ y = .bl j ∧ Q (.int (b2i i - b2i j)) H) := by
  intro pins s σ H x y v u Q I rx ry h
  obtain ⟨i, j, rfl, rfl, q⟩ := h
  cases rx
  cases ry
  exact sub_bool ⟨.int (b2i i - b2i j), H, I.tok _, ⟨_, rfl⟩, q⟩
theorem op_oSub {X : Cx} : OpR X (binaryOp .Sub) oSub := by
  refine op_wk (op_or op_sub op_sub_bb) fun x y H Q q => ?_
  cases x <;> cases y <;> first | exact q.elim | skip
  · exact .inr ⟨_, _, rfl, rfl, q⟩
  · exact .inl ⟨_, _, rfl, rfl, q⟩
/-- a * b -/
def oMul : R2 := fun x y H Q => match x, y with
  | .int i, .int j => IntMulOk i j ∧ Q (.int (i * j)) H
  | .ref a, .int k => ∃ xs, H a = some (.lst xs) ∧ -(2 ^ 63) ≤ k ∧ k < 2 ^ 63 ∧ xs.length * k.toNat ≤ sizeLine ∧ NewAt H (.lst (List.replicate k.toNat xs).flatten) Q
  | _, _ => False
theorem op_mulK {X : Cx} : OpR X (binaryOp .Mult) (rI IntMulOk fun i j => .int (i * j)) := opI fun _ _ _ _ _ _ _ hc q => mul_int q hc
theorem op_oMul {X : Cx} : OpR X (binaryOp .Mult) oMul := by
  refine op_wk (op_or op_mulK op_rep) fun x y H Q q => ?_
  cases x <;> cases y <;> first | exact q.elim | skip
  · exact .inl ⟨_, _, rfl, rfl, q⟩
  · obtain ⟨xs, h1, h2, h3, h4, q⟩ := q
    exact .inr ⟨_, _, xs, rfl, rfl, h1, h2, h3, h4, q.all⟩
/-- a // b -/
def oDiv : R2 := fun x y H Q => match x, y with
  | .int i, .int j => (j ≠ 0 ∧ j.natAbs.log2 < 9000) ∧ Q (.int (i.fdiv j)) H
  | _, _ => False
theorem op_oDiv {X : Cx} : OpR X (binaryOp .FloorDiv) oDiv := by
  refine op_wk (r := rI (fun _ j => j ≠ 0 ∧ j.natAbs.log2 < 9000) fun i j => .int (i.fdiv j)) (opI fun _ _ _ _ _ _ _ hc q => floordiv_int hc.1 q (.inl (PyProof.noPylong_of_log2 hc.2))) fun x y H Q q => ?_
  cases x <;> cases y <;> first | exact q.elim | skip
  exact ⟨_, _, rfl, rfl, q⟩
/-- a % b -/
def oMod : R2 := fun x y H Q => match x, y with
  | .int i, .int j => j ≠ 0 ∧ Q (.int (i.fmod j)) H
  | _, _ => False
theorem op_oMod {X : Cx} : OpR X (binaryOp .Mod) oMod := by
  refine op_wk op_modN fun x y H Q q => ?_
  cases x <;> cases y <;> first | exact q.elim | skip
  exact ⟨_, _, rfl, rfl, q⟩
/-- an operator of two ints with a condition -/
def oII (C : Int → Int → Prop) (g : Int → Int → V) : R2 := fun x y H Q => match x, y with
  | .int i, .int j => C i j ∧ Q (g i j) H
  | _, _ => False
theorem op_oII {X : Cx} {f : Value → Value → Sem Value} {C : Int → Int → Prop} {g : Int → Int → V} (h : OpR X f (rI C g)) : OpR X f (oII C g) := by
  refine op_wk h fun x y H Q q => ?_
  cases x <;> cases y <;> first | exact q.elim | skip
  exact ⟨_, _, rfl, rfl, q⟩
def oI0 (g : Int → Int → V) : R2 := fun x y H Q => match x, y with
  | .int i, .int j => Q (g i j) H
  | _, _ => False
theorem op_oI0 {X : Cx} {f : Value → Value → Sem Value} {g : Int → Int → V} (h : OpR X f (rI0 g)) : OpR X f (oI0 g) := by
  refine op_wk h fun x y H Q q => ?_
  cases x <;> cases y <;> first | exact q.elim | skip
  exact ⟨_, _, rfl, rfl, q⟩
abbrev oPow : R2 := oII CPow fun i j => .int (i ^ j.toNat)
abbrev oShl : R2 := oII CShl fun i j => .int (i * 2 ^ j.toNat)
abbrev oShr : R2 := oII (fun _ j => 0 ≤ j) fun i j => .int (i / 2 ^ j.toNat)
abbrev oAnd : R2 := oI0 fun i j => .int (Builtin.bitAnd i j)
abbrev oOr : R2 := oI0 fun i j => .int (Builtin.bitOr i j)
abbrev oXor : R2 := oI0 fun i j => .int (Builtin.bitXor i j)
theorem op_oPow {X : Cx} : OpR X (binaryOp .Pow) oPow := op_oII op_pow
theorem op_oShl {X : Cx} : OpR X (binaryOp .LShift) oShl := op_oII op_shlW
theorem op_oShr {X : Cx} : OpR X (binaryOp .RShift) oShr := op_oII op_shr
theorem op_oAnd {X : Cx} : OpR X (binaryOp .BitAnd) oAnd := op_oI0 op_and
theorem op_oOr {X : Cx} : OpR X (binaryOp .BitOr) oOr := op_oI0 L2.op_or
theorem op_oXor {X : Cx} : OpR X (binaryOp .BitXor) oXor := op_oI0 op_xor
/-! ### comparisons -/
def oCmp (g : Int → Int → Bool) (k : Str → Str → Bool) : R2 := fun x y H Q => match x, y with
  | .int i, .int j => Q (.bl (g i j)) H
  | .str a, .str b => Q (.bl (k a b)) H
  | _, _ => False
theorem op_oCmp {X : Cx} {f : Value → Value → Sem Value} {g : Int → Int → Bool} {k : Str → Str → Bool} (h : OpR X f (rI0 fun i j => .bl (g i j))) (h' : OpR X f (fun x y H Q => ∃ i j, x = .str i ∧ y = .str j ∧ Q (.bl (k i j)) H)) : OpR X f (oCmp g k) := by
  refine op_wk (op_or h h') fun x y H Q q => ?_
  cases x <;> cases y <;> first | exact q.elim | skip
  · exact .inl ⟨_, _, rfl, rfl, q⟩
  · exact .inr ⟨_, _, rfl, rfl, q⟩
abbrev oLt : R2 := oCmp (fun i j => decide (i < j)) fun a b => decide (a.cps.toList < b.cps.toList)
theorem op_oLt {X : Cx} : OpR X (compareOp .Lt) oLt := op_oCmp op_lt op_lt_str
abbrev oLe : R2 := oI0 fun i j => .bl (decide (i ≤ j))
abbrev oGt : R2 := oI0 fun i j => .bl (decide (j < i))
abbrev oGe : R2 := oI0 fun i j => .bl (decide (j ≤ i))
theorem op_oLe {X : Cx} : OpR X (compareOp .LtE) oLe := op_oI0 op_le
theorem op_oGt {X : Cx} : OpR X (compareOp .Gt) oGt := op_oI0 op_gt
theorem op_oGe {X : Cx} : OpR X (compareOp .GtE) oGe := op_oI0 op_ge
/-- a == b of scalars, of data -/
def oEq (K : PySem.W.Frag) : R2 := fun x y H Q => rEq x y H Q ∨ rEqD K x y H Q
def oNe (K : PySem.W.Frag) : R2 := fun x y H Q => rNe x y H Q ∨ rNeD K x y H Q
theorem op_oEq {X : Cx} (hu : X.A.units + 64 < cLine) : OpR X (compareOp .Eq) (oEq X.K) := op_or op_eq (op_eqD hu)
theorem op_oNe {X : Cx} (hu : X.A.units + 64 < cLine) : OpR X (compareOp .NotEq) (oNe X.K) := op_or op_ne (op_neD hu)

/-! ### slices, divmod -/
def oSlL (K : PySem.W.Frag) : V → Option Int → Option Int → Hp → VK → Prop := fun x lo hi H Q => ∃ a xs, x = .ref a ∧ SqL K H a xs ∧ NewAt H (.lst (cutV xs lo hi)) Q
theorem sl_lstN {X : Cx} : SlR X (oSlL X.K) := by
  intro pins s σ H x v vl vu lo hi sl Q I rx hs pl pu h
  obtain ⟨a, xs, e, hq, q⟩ := h
  exact sl_list pins s σ H x v vl vu lo hi sl Q I rx hs pl pu ⟨a, xs, e, hq, q.all⟩
def rDivm : List V → Hp → VK → Prop := fun xs H Q => ∃ i j, xs = [.int i, .int j] ∧ (0 < j ∧ j.natAbs.log2 < 9000) ∧ NewAt H (.tup [.int (i / j), .int (i % j)]) Q
theorem call_divmodK {X : Cx} : CallR X (.builtin "divmod") rDivm := by
  intro pins s σ H xs us Q I r h
  obtain ⟨i, j, e, hc, q⟩ := h
  exact call_divmodW pins s σ H xs us Q I r ⟨i, j, e, ⟨hc.1, PyProof.noPylong_of_log2 hc.2⟩, q.all⟩
/-! ### targets: o.f of an instance -/
def gFld (K : PySem.W.Frag) (to : TE) (f : Str) : TG := fun v σ H Q => to σ H fun x H1 => ∃ a C dx fs, x = .ref a ∧ H1 a = some (.ins C dx fs) ∧ Cls K C ∧ NoAttr K C f ∧ fs.length < 1000 ∧ Q σ (upd H1 a (.ins C dx (putF f v fs)))
theorem pg_fld {X : Cx} {o : Expr} {f : Str} {pos : Pos} {to : TE} (ho : PE X o to)
    (ha : ∀ v, assign (.Attribute o f pos) X.env v = (do
      let ov ← holding [v] (eval o X.env)
      standAt pos.atName
      holding [v, ov] (setAttr ov f v)
      release [v, ov] []) := by intro _; rfl) : PG X (.Attribute o f pos) (gFld X.K to f) := by
  refine ⟨fun pins s σ H v u Q I r h => ?_⟩
  rw [ha]
  refine wpAny_bind (wpAny_holding (thn (ho.run pins s σ H _ I h) fun ov s1 ⟨x, H1, I1, r1, a, C, dx, fs, ex, ea, c, n, l, q1⟩ => ?_))
  subst ex
  obtain rfl : ov = Value.ref a := r1
  refine wpAny_bind (wpAny_standAt (wpAny_bind (wpAny_holding (setattr_ok I1 ea c n l r fun s3 I3 => ?_))))
  exact wpAny_release ⟨σ, _, I3, q1⟩

/-! ### a def of the text, called by its name -/
section
variable (P : Program) (w : World) (K : PySem.W.Frag) (mg : Str → Option Value) (base : Heap)
/-- the module's name x holds a def that keeps sp -/
def Fn (CX : CXT) (k : Nat) (x : Str) (ps : List Str) (dvs : List V) (sp : Sp) : Prop :=
  ∃ f fd ds, FnOk P w K mg base CX k f fd ps sp ∧ mg x = some (.ref f) ∧ PySem.W.keepIn K (.ref f) = true ∧ Binds K fd ps ds ∧ Vals dvs ds
/-- the class at C has a method m that keeps sp -/
def Mt (CX : CXT) (k : Nat) (C : Addr) (m : Str) (ps : List Str) (sp : Sp) : Prop :=
  ∃ f fd, FnOk P w K mg base CX k f fd ps sp ∧ Meth K C m f ∧ Binds K fd ps [] ∧ Cls K C
/-- the name x holds a class at C that is made by an __init__ that keeps sp -/
def Cn (CX : CXT) (k : Nat) (x : Str) (C : Addr) (ps : List Str) (dvs : List V) (sp : Sp) : Prop :=
  ∃ f fd ds, FnOk P w K mg base CX k f fd ps sp ∧ Mk K C f ∧ mg x = some (.ref C) ∧ Binds K fd ps ds ∧ Vals dvs ds
end
section
variable {X : Cx} {CX : CXT} {k : Nat} {C : Addr} {x m : Str} {ps : List Str} {dvs : List V} {sp : Sp} {E : XK} {p pos apos : Pos} {e o : Expr} {es : List Expr} {ta : TE} {t : TA}
theorem pe_fn (F : Fn X.prog X.w X.K X.mg X.base CX k x ps dvs sp) (hr : Room k X.A) (hx : Passes CX X E) (ha : PA X (e :: es) t) (hg : Gl X x := by rfl)
    (hdb : (x == ("__debug__" : Str)) = false := by decide) (he : starEach (e :: es) X.env = (false, eval e X.env) :: starEach es X.env := by rfl) (hpl : (backTo pos (starEach es X.env)).any (·.1) = false := by rfl) :
    PE X (.Call (.Name x p) (e :: es) [] pos) (tCall sp dvs E t) := by
  obtain ⟨f, fd, ds, F, hm, hk, hb, hd⟩ := F
  exact pe_call F hr hg hm hk hb hd hx ha hdb he hpl
theorem pe_fn0 (F : Fn X.prog X.w X.K X.mg X.base CX k x ps dvs sp) (hr : Room k X.A) (hx : Passes CX X E) (hg : Gl X x := by rfl)
    (hdb : (x == ("__debug__" : Str)) = false := by decide) : PE X (.Call (.Name x p) [] [] pos) (tCall sp dvs E tNil) := by
  obtain ⟨f, fd, ds, F, hm, hk, hb, hd⟩ := F
  exact pe_call0 F hr hg hm hk hb hd hx hdb
/-- C(..): a new instance and its dict, then __init__ -/
def MakeR (C : Addr) (sp : Sp) (vs : List V) (H : Hp) (Q : VK) (E : XK) : Prop := ∀ x dx H', H x = none → H dx = none → dx ≠ x → Same H H' → H' x = some (.ins C dx []) → (∀ b, b ≠ x → b ≠ dx → H' b = H b) →
  sp (.ref x :: vs) H' (fun v H2 => v = .non ∧ Q (.ref x) H2) E
def tMakeN (C : Addr) (sp : Sp) (dvs : List V) (E : XK) (t : TA) : TE := fun σ H Q => t σ H fun vs H1 => MakeR C sp (vs ++ dvs) H1 Q E
theorem pe_cn (F : Cn X.prog X.w X.K X.mg X.base CX k x C ps dvs sp) (hr : Room (k + 1) X.A) (hx : Passes CX X E) (ha : PA X (e :: es) t) (hg : Gl X x := by rfl)
    (hdb : (x == ("__debug__" : Str)) = false := by decide) (he : starEach (e :: es) X.env = (false, eval e X.env) :: starEach es X.env := by rfl) (hpl : (backTo pos (starEach es X.env)).any (·.1) = false := by rfl) :
    PE X (.Call (.Name x p) (e :: es) [] pos) (tMakeN C sp dvs E t) := by
  obtain ⟨f, fd, ds, F, hM, hm, hb, hd⟩ := F
  refine ⟨fun pins s σ H Q I h => ?_⟩
  refine wpAny_Call_Name_kw (ld_glob I hg hm ?_ hdb)
  refine PySem.W.callWith_K (h₀ := X.base) I.ok.mod.kin hM.kp (thn (ha.run pos pins s σ H _ I h) fun us s1 ⟨vs, H1, I1, r, q⟩ => ⟨I1.kIn, ?_⟩) he hpl
  refine run_make hM F hr hb hd hx I1 r fun y dy n1 n2 ne => q y dy _ n1 n2 ne (fun b u z => ?_) upd_same fun b hb1 hb2 => ?_
  · rw [upd_ne (ne_of_none z n1), upd_ne (ne_of_none z n2)]; exact z
  · rw [upd_ne hb1, upd_ne hb2]
theorem pe_mt {pl : Sem Bool} (F : Mt X.prog X.w X.K X.mg X.base CX k C m ps sp) (hr : Room k X.A) (hx : Passes CX X E) (he : PE X o ta) (ha : PA X (e :: es) t)
    (hst : starEach (e :: es) X.env = (false, eval e X.env) :: starEach es X.env := by rfl) (hpl : (backTo pos (starEach es X.env)).any (·.1) = false := by rfl)
    (ht : eval (.Call (.Attribute o m apos) (e :: es) [] pos) X.env = (do
      let ov ← eval o X.env
      standAt apos.atName
      let (f, first) ← holding [ov] (getMethod ov m pl)
      callWith pos f first (backTo pos (starEach (e :: es) X.env)) (backToKw pos (keywordEach [] X.env))) := by rfl) :
    PE X (.Call (.Attribute o m apos) (e :: es) [] pos) (tMeth C m sp [] E ta t) := by
  obtain ⟨f, fd, F, hm, hb, c⟩ := F
  exact pe_meth (pl := pl) he c hm F hr hb .nil hx ha hst hpl ht
theorem pe_mt0 {pl : Sem Bool} (F : Mt X.prog X.w X.K X.mg X.base CX k C m ps sp) (hr : Room k X.A) (hx : Passes CX X E) (he : PE X o ta)
    (ht : eval (.Call (.Attribute o m apos) [] [] pos) X.env = (do
      let ov ← eval o X.env
      standAt apos.atName
      let (f, first) ← holding [ov] (getMethod ov m pl)
      callWith pos f first (backTo pos (starEach [] X.env)) (backToKw pos (keywordEach [] X.env))) := by rfl) :
    PE X (.Call (.Attribute o m apos) [] [] pos) (tMeth C m sp [] E ta tNil) := by
  obtain ⟨f, fd, F, hm, hb, c⟩ := F
  exact pe_meth0 (pl := pl) he c hm F hr hb .nil hx ht
end

/-! ### the rules with the written part named (within a comprehension) -/
section
variable {X : Cx} (K : PySem.W.Frag)
theorem call_isiE (h : X.K = K) : CallR X (.builtin "isinstance") (rIsi K) := h ▸ call_isi
theorem call_len_seqE (h : X.K = K) : CallR X (.builtin "len") (fun xs H Q => ∃ p ys, xs = [.ref p] ∧ (SqL K H p ys ∨ SqT K H p ys) ∧ Q (.int ys.length) H) := h ▸ call_len_seq
theorem op_oAddE (h : X.K = K) : OpR X (binaryOp .Add) (oAdd K) := h ▸ op_oAdd
theorem op_oEqE (h : X.K = K) (hu : X.A.units + 64 < cLine) : OpR X (compareOp .Eq) (oEq K) := h ▸ op_oEq hu
theorem op_oNeE (h : X.K = K) (hu : X.A.units + 64 < cLine) : OpR X (compareOp .NotEq) (oNe K) := h ▸ op_oNe hu
theorem op_inE (h : X.K = K) : OpR X (compareOp .In) (rIn K false) := h ▸ op_in_seq
theorem op_notInE (h : X.K = K) : OpR X (compareOp .NotIn) (rIn K true) := h ▸ op_notIn_seq
theorem ix_seqE (h : X.K = K) : IxR X (rIx K) := h ▸ ix_seq
theorem pe_fldE {e : Expr} {f : Str} {pos : Pos} {ta : TE} (h : X.K = K) (he : PE X e ta) (hb : attributeBase e f X.env (eval e X.env) = eval e X.env) : PE X (.Attribute e f pos) (tFld K ta f) := h ▸ pe_fld he hb
end
/-! ### names of the module -/
theorem pe_gint {X : Cx} {x : Str} {i : Int} {pos : Pos} (h : ∃ t, X.mg x = some (.int i t)) (hg : Gl X x := by rfl) (hd : (x == ("__debug__" : Str)) = false := by decide) : PE X (.Name x pos) (tC (.int i)) := by
  obtain ⟨t, h⟩ := h
  exact pe_glob hg h ⟨_, rfl⟩ hd
theorem pe_gref {X : Cx} {x : Str} {C : Addr} {pos : Pos} (h : X.mg x = some (.ref C)) (hg : Gl X x := by rfl) (hd : (x == ("__debug__" : Str)) = false := by decide) : PE X (.Name x pos) (tC (.ref C)) := pe_glob hg h rfl hd
/-- the built-ins that the text does not hide -/
structure Blt (mg : Str → Option Value) : Prop where
  len : mg "len" = none
  int : mg "int" = none
  bool : mg "bool" = none
  str : mg "str" = none
  isinstance : mg "isinstance" = none
  abs : mg "abs" = none
  max : mg "max" = none
  min : mg "min" = none
  divmod : mg "divmod" = none
  range : mg "range" = none
  enumerate : mg "enumerate" = none
  zip : mg "zip" = none
  list : mg "list" = none
  tuple : mg "tuple" = none
  ord : mg "ord" = none
  sorted : mg "sorted" = none
def bltNames : List Str := ["len", "int", "bool", "str", "isinstance", "abs", "max", "min", "divmod", "range", "enumerate", "zip", "list", "tuple", "ord", "sorted"]
theorem blt_of {mg : Str → Option Value} (h : ∀ x ∈ bltNames, mg x = none) : Blt mg := by
  have g : ∀ x, x ∈ bltNames → mg x = none := h
  exact ⟨g _ (by simp [bltNames]), g _ (by simp [bltNames]), g _ (by simp [bltNames]), g _ (by simp [bltNames]), g _ (by simp [bltNames]), g _ (by simp [bltNames]), g _ (by simp [bltNames]), g _ (by simp [bltNames]), g _ (by simp [bltNames]), g _ (by simp [bltNames]), g _ (by simp [bltNames]), g _ (by simp [bltNames]), g _ (by simp [bltNames]), g _ (by simp [bltNames]), g _ (by simp [bltNames]), g _ (by simp [bltNames])⟩
section
variable {X : Cx}
theorem pe_tyInt {pos : Pos} (B : Blt X.mg) (hg : Gl X "int" := by rfl) : PE X (.Name "int" pos) (tC (.ty "int")) := pe_bltn (u := .type "int") hg B.int (by decide +kernel) rfl
theorem pe_tyBool {pos : Pos} (B : Blt X.mg) (hg : Gl X "bool" := by rfl) : PE X (.Name "bool" pos) (tC (.ty "bool")) := pe_bltn (u := .type "bool") hg B.bool (by decide +kernel) rfl
theorem pe_tyStr {pos : Pos} (B : Blt X.mg) (hg : Gl X "str" := by rfl) : PE X (.Name "str" pos) (tC (.ty "str")) := pe_bltn (u := .type "str") hg B.str (by decide +kernel) rfl
end
end Up

set_option Elab.async false
set_option linter.all false
set_option maxRecDepth 100000
set_option maxHeartbeats 4000000
namespace Up
open PySem PySem.Spec PyProof.Rows L2
/-! ### one step of a reading each -/
section
variable {K : PySem.W.Frag} {D : Ends} {σ : L2.St} {H : Hp} {Q : VK} {ta tb te : TE} {t u : TS} {c d : TT}
theorem g_seq (h : t { D with nx := u D } σ H) : tSeq t u D σ H := h
theorem g_ifs (h : c σ H fun b H1 => if b = true then t D σ H1 else u D σ H1) : tIfS c t u D σ H := h
theorem g_asg {g : TG} (h : te σ H fun x H1 => g x σ H1 D.nx) : tAsg te g D σ H := h
theorem g_name {i : Nat} {v : V} {R : L2.St → Hp → Prop} (h : R (σ.set i (some v)) H) : gName i v σ H R := h
theorem g_drop (h : te σ H fun _ H1 => D.nx σ H1) : tDrop te D σ H := h
theorem g_ret (h : te σ H D.rt) : tRet te D σ H := h
theorem g_retN (h : D.rt .non H) : tRetN D σ H := h
theorem g_next (h : D.nx σ H) : tNext D σ H := h
theorem g_sfld {f : Str} (h : te σ H fun y H1 => ta σ H1 fun x H2 => ∃ a C dx fs, x = .ref a ∧ H2 a = some (.ins C dx fs) ∧ Cls K C ∧ NoAttr K C f ∧ fs.length < 1000 ∧ D.nx σ (upd H2 a (.ins C dx (putF f y fs)))) : sFld K ta te f D σ H := h
theorem g_var {i : Nat} {v : V} (e : σ[i]? = some (some v)) (h : Q v H) : tVar i σ H Q := ⟨v, e, h⟩
theorem g_c {v : V} (h : Q v H) : tC v σ H Q := h
theorem g_op {r : R2} (h : ta σ H fun x H1 => tb σ H1 fun y H2 => r x y H2 Q) : tOp r ta tb σ H Q := h
theorem g_un {r : V → Hp → VK → Prop} (h : ta σ H fun x H1 => r x H1 Q) : tUn r ta σ H Q := h
theorem g_neg {i : Int} (h : Q (.int (-i)) H) : rU (fun i => .int (-i)) (.int i) H Q := ⟨i, rfl, h⟩
theorem g_if (h : c σ H fun b H1 => if b = true then ta σ H1 Q else tb σ H1 Q) : tIf c ta tb σ H Q := h
theorem g_cb {r : List V → Hp → VK → Prop} {t : TA} (h : t σ H fun vs H1 => r vs H1 Q) : tCB r t σ H Q := h
theorem g_cons {t : TA} {R : List V → Hp → Prop} (h : ta σ H fun x H1 => t σ H1 fun xs H2 => R (x :: xs) H2) : tCons ta t σ H R := h
theorem g_nil {R : List V → Hp → Prop} (h : R [] H) : tNil σ H R := h
theorem g_bits (h : ta σ H fun x H1 => ∃ i, x = .int i ∧ Q (.int (Builtin.Int.intBits i : Nat)) H1) : tBits ta σ H Q := h
theorem g_call {sp : Sp} {dvs : List V} {E : XK} {t : TA} (h : t σ H fun vs H1 => sp (vs ++ dvs) H1 Q E) : tCall sp dvs E t σ H Q := h
theorem g_fld {f : Str} (h : ta σ H fun x H1 => ∃ a C dx fs v, x = .ref a ∧ H1 a = some (.ins C dx fs) ∧ Cls K C ∧ NoAttr K C f ∧ fs.lookup f = some v ∧ Q v H1) : tFld K ta f σ H Q := h
theorem g_gtup {n : Nat} {t : TGs} {v : V} {R : L2.St → Hp → Prop} (h : ∃ a xs, v = .ref a ∧ SqT K H a xs ∧ xs.length = n ∧ t xs σ H R) : gTup K n t v σ H R := h
theorem g_gcons {t : TG} {u : TGs} {v : V} {r : List V} {R : L2.St → Hp → Prop} (h : t v σ H fun σ' H' => u r σ' H' R) : gCons t u (v :: r) σ H R := ⟨v, r, rfl, h⟩
theorem g_gnil {R : L2.St → Hp → Prop} (h : R σ H) : gNil [] σ H R := ⟨rfl, h⟩
theorem g_gfld {f : Str} {v : V} {R : L2.St → Hp → Prop} (h : ta σ H fun x H1 => ∃ a C dx fs, x = .ref a ∧ H1 a = some (.ins C dx fs) ∧ Cls K C ∧ NoAttr K C f ∧ fs.length < 1000 ∧ R σ (upd H1 a (.ins C dx (putF f v fs)))) : gFld K ta f v σ H R := h
/-! tests -/
section
variable {R : Bool → Hp → Prop} {T : Bool → Prop}
theorem g_tt (h : ta σ H fun x H' => ∃ k, x = .bl k ∧ R k H') : tTest ta σ H R := h
theorem g_tB (h : ta σ H fun x H' => ∃ k, x = .bl k ∧ R k H') : tB ta σ H R := h
theorem g_bl {b : Bool} (h : T b) : ∃ k, V.bl b = .bl k ∧ T k := ⟨b, rfl, h⟩
theorem g_and (h : c σ H fun k H1 => if k = true then d σ H1 R else R false H1) : tAnd c d σ H R := h
theorem g_or (h : c σ H fun k H1 => if k = true then R true H1 else d σ H1 R) : tOr c d σ H R := h
theorem g_not (h : c σ H fun k H1 => R (!k) H1) : tNot c σ H R := h
theorem g_andV (h : ta σ H fun x H1 => ∃ c, x = .bl c ∧ if c = true then tb σ H1 Q else Q (.bl false) H1) : tAndV ta tb σ H Q := h
theorem g_orV (h : ta σ H fun x H1 => ∃ c, x = .bl c ∧ if c = true then Q (.bl true) H1 else tb σ H1 Q) : tOrV ta tb σ H Q := h
theorem g_notV (h : ta σ H fun x H1 => ∃ c, x = .bl c ∧ Q (.bl (!c)) H1) : tNotV ta σ H Q := h
end
/-! ints -/
section
variable {i j : Int}
theorem g_addI (h : Q (.int (i + j)) H) : oAdd K (.int i) (.int j) H Q := h
theorem g_addS {a b : Str} (hz : a.length + b.length ≤ sizeLine) (h : Q (.str (a ++ b)) H) : oAdd K (.str a) (.str b) H Q := ⟨hz, h⟩
theorem g_subI (h : Q (.int (i - j)) H) : oSub (.int i) (.int j) H Q := h
theorem g_subB {i j : Bool} (h : Q (.int (b2i i - b2i j)) H) : oSub (.bl i) (.bl j) H Q := h
theorem g_mulI (hm : IntMulOk i j) (h : Q (.int (i * j)) H) : oMul (.int i) (.int j) H Q := ⟨hm, h⟩
theorem g_divI (hm : j ≠ 0) (hl : j.natAbs.log2 < 9000) (h : Q (.int (i.fdiv j)) H) : oDiv (.int i) (.int j) H Q := ⟨⟨hm, hl⟩, h⟩
theorem g_modI (hm : j ≠ 0) (h : Q (.int (i.fmod j)) H) : oMod (.int i) (.int j) H Q := ⟨hm, h⟩
theorem g_II {C : Int → Int → Prop} {g : Int → Int → V} (hm : C i j) (h : Q (g i j) H) : oII C g (.int i) (.int j) H Q := ⟨hm, h⟩
theorem g_I0 {g : Int → Int → V} (h : Q (g i j) H) : oI0 g (.int i) (.int j) H Q := h
theorem g_cmpI {g : Int → Int → Bool} {k : Str → Str → Bool} (h : Q (.bl (g i j)) H) : oCmp g k (.int i) (.int j) H Q := h
theorem g_bitsI {T : Int → Prop} (h : T i) : ∃ n, V.int i = .int n ∧ T n := ⟨i, rfl, h⟩
theorem g_eqI (h : Q (.bl (decide (i = j))) H) : oEq K (.int i) (.int j) H Q := by
  refine Or.inl ⟨rfl, ?_⟩
  have e : decide (V.int i = V.int j) = decide (i = j) := by simp
  rw [e]; exact h
theorem g_neI (h : Q (.bl (!decide (i = j))) H) : oNe K (.int i) (.int j) H Q := by
  refine Or.inl ⟨rfl, ?_⟩
  have e : decide (V.int i = V.int j) = decide (i = j) := by simp
  rw [e]; exact h
theorem g_eqS {a b : Str} (h : Q (.bl (decide (a = b))) H) : oEq K (.str a) (.str b) H Q := by
  refine Or.inl ⟨rfl, ?_⟩
  have e : decide (V.str a = V.str b) = decide (a = b) := by simp
  rw [e]; exact h
theorem g_neS {a b : Str} (h : Q (.bl (!decide (a = b))) H) : oNe K (.str a) (.str b) H Q := by
  refine Or.inl ⟨rfl, ?_⟩
  have e : decide (V.str a = V.str b) = decide (a = b) := by simp
  rw [e]; exact h
theorem g_eqB {a b : Bool} (h : Q (.bl (decide (a = b))) H) : oEq K (.bl a) (.bl b) H Q := by
  refine Or.inl ⟨rfl, ?_⟩
  have e : decide (V.bl a = V.bl b) = decide (a = b) := by simp
  rw [e]; exact h
theorem g_neB {a b : Bool} (h : Q (.bl (!decide (a = b))) H) : oNe K (.bl a) (.bl b) H Q := by
  refine Or.inl ⟨rfl, ?_⟩
  have e : decide (V.bl a = V.bl b) = decide (a = b) := by simp
  rw [e]; exact h
theorem g_eqx {x y : V} (hs : scal x y = true) (hn : x ≠ y) (h : Q (.bl false) H) : oEq K x y H Q := by
  refine Or.inl ⟨hs, ?_⟩
  rw [decide_eq_false hn]; exact h
theorem g_nex {x y : V} (hs : scal x y = true) (hn : x ≠ y) (h : Q (.bl true) H) : oNe K x y H Q := by
  refine Or.inl ⟨hs, ?_⟩
  rw [decide_eq_false hn]; exact h
theorem g_isN {x : V} (h : Q (.bl (decide (x = .non))) H) : (fun x y H Q => y = V.non ∧ Q (.bl (decide (x = .non))) H : R2) x .non H Q := ⟨rfl, h⟩
end
/-! ifs -/
theorem g_ite {p : Prop} [Decidable p] {A B : Prop} (h1 : p → A) (h2 : ¬ p → B) : if decide p = true then A else B := by
  by_cases h : p
  · rw [if_pos (decide_eq_true h)]; exact h1 h
  · rw [if_neg (by simp [h])]; exact h2 h
theorem g_iten {p : Prop} [Decidable p] {A B : Prop} (h1 : ¬ p → A) (h2 : p → B) : if (!decide p) = true then A else B := by
  by_cases h : p
  · rw [if_neg (by simp [h])]; exact h2 h
  · rw [if_pos (by simp [h])]; exact h1 h
theorem g_iteb {b : Bool} {A B : Prop} (h1 : b = true → A) (h2 : b = false → B) : if b = true then A else B := by
  cases b
  · exact h2 rfl
  · exact h1 rfl
theorem g_yes {p : Prop} [Decidable p] {A B : Prop} (hp : p) (h : A) : if decide p = true then A else B := by
  rw [if_pos (decide_eq_true hp)]; exact h
theorem g_no {p : Prop} [Decidable p] {A B : Prop} (hp : ¬ p) (h : B) : if decide p = true then A else B := by
  rw [if_neg (by simp [hp])]; exact h
theorem g_cut {t u : TS} (R : L2.St → Hp → Prop) (h1 : t { D with nx := R } σ H) (h2 : ∀ σ' H', R σ' H' → u D σ' H') : C8.tCut t u D σ H := ⟨R, h1, h2⟩
theorem g_meth {C : Addr} {m : Str} {sp : Sp} {dvs : List V} {E : XK} {t : TA} (h : ta σ H fun x H1 => ∃ a dx fs, x = .ref a ∧ H1 a = some (.ins C dx fs) ∧ fs.lookup m = none ∧ t σ H1 fun vs H2 => sp (x :: (vs ++ dvs)) H2 Q E) : tMeth C m sp dvs E ta t σ H Q := h
theorem g_par {i j : Nat} {ta : TA} (h : ta σ H fun vs H1 => ∃ v w, vs = [v, w] ∧ D.nx ((σ.set i (some v)).set j (some w)) H1) : tPar i j ta D σ H := h
theorem g_par2 {a b : V} {T : V → V → Prop} (h : T a b) : ∃ v w, [a, b] = [v, w] ∧ T v w := ⟨a, b, rfl, h⟩
theorem g_rfl {a : V} {T : Prop} (h : T) : a = a ∧ T := ⟨rfl, h⟩
theorem g_ixT {p : Addr} {xs : List V} {i : Int} {v : V} (h : H p = some (.tup xs)) (e : atI xs i = some v) (q : Q v H) : rIx K (.ref p) (.int i) H Q := .inr (.inl ⟨p, xs, i, v, rfl, rfl, SqT.of h, e, q⟩)
theorem g_ixL {p : Addr} {xs : List V} {i : Int} {v : V} (h : H p = some (.lst xs)) (e : atI xs i = some v) (q : Q v H) : rIx K (.ref p) (.int i) H Q := .inl ⟨p, xs, i, v, rfl, rfl, SqL.of h, e, q⟩
/-! loops -/
theorem g_for {wi : TI} {g : TG} {tb : TS} (h : wi σ H fun J H1 => ∃ W : Nat → Nat → L2.St → Hp → Prop, (∃ m, W 0 m σ H1) ∧ ∀ i m σ H, W i m σ H →
  (J.stop i H ∧ D.nx σ H) ∨ (J.go i H ∧ ∃ N : L2.St → Hp → Prop, (∀ σ' H', N σ' H' → ∃ m', m' < m ∧ W (i + 1) m' σ' H') ∧ ∀ x H', J.yld i H x H' → g x σ H' fun σ2 H2 => tb { D with nx := N, ct := N, bk := D.nx } σ2 H2)) : tFor wi g tb D σ H := h
theorem g_iList {R : It → Hp → Prop} (h : te σ H fun x H1 => ∃ a, x = .ref a ∧ (∃ xs, SqL K H1 a xs) ∧ R (Itl K a) H1) : iList K te σ H R := h
theorem g_iTup {R : It → Hp → Prop} (h : te σ H fun x H1 => ∃ a, x = .ref a ∧ (∃ xs, SqT K H1 a xs) ∧ R (Itt K a) H1) : iTup K te σ H R := h
theorem g_iRng1 {ta : TA} {R : It → Hp → Prop} (h : ta σ H fun vs H1 => ∃ j : Int, vs = [.int j] ∧ -(2 ^ 62) ≤ j ∧ j < 2 ^ 62 ∧ R (Itr 0 j.toNat) H1) : iRng1 ta σ H R := h
theorem g_iEnum {ta : TA} {R : It → Hp → Prop} (h : ta σ H fun vs H1 => ∃ a xs, vs = [.ref a] ∧ SqL K H1 a xs ∧ R (Ite K a) H1) : iEnum K ta σ H R := h
theorem g_slice {r : V → Option Int → Option Int → Hp → VK → Prop} {tl th : TO} (h : te σ H fun x H1 => tl σ H1 fun l H2 => th σ H2 fun u H3 => r x l u H3 Q) : tSl r te tl th σ H Q := h
theorem g_po0 {R : Option Int → Hp → Prop} (h : R none H) : tNoPart σ H R := h
theorem g_po1 {R : Option Int → Hp → Prop} (h : te σ H fun x H1 => ∃ i, x = .int i ∧ R (some i) H1) : tPart te σ H R := h
theorem g_poI {i : Int} {T : Int → Prop} (h : T i) : ∃ n, V.int i = .int n ∧ T n := ⟨i, rfl, h⟩
theorem g_gsub {to ti : TE} {t : TSet} {v : V} {R : L2.St → Hp → Prop} (h : to σ H fun o H1 => ti σ H1 fun i H2 => t o i v H2 fun H3 => R σ H3) : gSub to ti t v σ H R := h
theorem g_intI {i : Int} {T : Int → Prop} {U : Prop} (h : T i) : (∃ j, [V.int i] = [.int j] ∧ T j) ∨ U := .inl ⟨i, rfl, h⟩
theorem g_intB {b : Bool} {T : Bool → Prop} {U : Prop} (h : T b) : U ∨ ∃ k, [V.bl b] = [.bl k] ∧ T k := .inr ⟨b, rfl, h⟩
theorem g_setL {p : Addr} {xs : List V} {k : Int} {j : Nat} {v : V} {R : Hp → Prop} (h : H p = some (.lst xs)) (e : ixN xs.length k = some j) (q : ∀ H', H' p = some (.lst (xs.set j v)) → (∀ b, b ≠ p → H' b = H b) → R H') : rSetL (.ref p) (.int k) v H R :=
  ⟨p, xs, k, j, rfl, rfl, h, e, q _ upd_same fun b hb => upd_ne hb⟩
theorem g_max2 {i j : Int} {T : Int → Int → Prop} (h : T i j) : ∃ a b, [V.int i, V.int j] = [.int a, .int b] ∧ T a b := ⟨i, j, rfl, h⟩
theorem g_abs1 {i : Int} {T : Int → Prop} (h : T i) : ∃ a, [V.int i] = [.int a] ∧ T a := ⟨i, rfl, h⟩
theorem g_lenL {p : Addr} {xs : List V} {T : List V → Prop} (h : H p = some (.lst xs)) (q : T xs) : ∃ p' ys, [V.ref p] = [.ref p'] ∧ (SqL K H p' ys ∨ SqT K H p' ys) ∧ T ys := ⟨p, xs, rfl, .inl (SqL.of h), q⟩
theorem g_lc {wi : TI} {g : TG} {tt : TT} {vs : List Nat} (h : wi σ H fun J H1 => ∀ D, H1 D = none → ∃ W : Nat → Nat → Hp → Prop, (∃ m, W 0 m (upd H1 D (.lst []))) ∧ ∀ i m H, W i m H →
  (J.stop i H ∧ Q (.ref D) H) ∨ (J.go i H ∧ ∃ Nx : Hp → Prop, (∀ H', Nx H' → ∃ m', m' < m ∧ W (i + 1) m' H') ∧ ∀ x H', J.yld i H x H' → g x (wipe σ vs) H' fun σ2 H2 => wipe σ2 vs = wipe σ vs ∧ tt σ2 H2 fun b H3 =>
    if b = true then te σ2 H3 fun y H4 => ∃ acc, H4 D = some (.lst acc) ∧ acc.length < sizeLine ∧ Nx (upd H4 D (.lst (acc ++ [y]))) else Nx H3)) : tLc wi g tt te vs σ H Q := h
theorem g_yesT {R : Bool → Hp → Prop} (h : R true H) : tYes σ H R := h
theorem dp_bl : ∀ bs : List Bool, DpAll K H (bs.map V.bl) (bs.map PyData.bool)
  | [] => .nil
  | b :: bs => .cons (.bl b) (dp_bl bs)
theorem g_eqBs {a b : Addr} {bs : List Bool} (ha : H a = some (.lst (bs.map V.bl))) (hb : H b = some (.lst (bs.map V.bl))) (hs : SeqAt.shaped (.list (bs.map PyData.bool)) = true) (q : Q (.bl true) H) : oEq K (.ref a) (.ref b) H Q := by
  refine .inr ⟨_, _, .lst (SqL.of ha) (dp_bl bs), .lst (SqL.of hb) (dp_bl bs), hs, hs, ?_⟩
  rw [SeqAt.eqv_refl _ (SeqAt.canLay_of_shaped hs)]
  exact q
/-! new objects -/
theorem g_tup {t : TA} (h : t σ H fun xs H1 => xs.length ≤ sizeLine ∧ NewAt H1 (.tup xs) Q) : tTupN t σ H Q := h
theorem g_lst {t : TA} (h : t σ H fun xs H1 => xs.length ≤ sizeLine ∧ NewAt H1 (.lst xs) Q) : tLstN t σ H Q := h
theorem g_new {n : Nat} {o : HO} (hn : n ≤ sizeLine) (h : ∀ p H', H p = none → Same H H' → H' p = some o → (∀ b, b ≠ p → H' b = H b) → Q (.ref p) H') : n ≤ sizeLine ∧ NewAt H o Q := ⟨hn, h⟩
theorem g_make {C : Addr} {sp : Sp} {dvs : List V} {E : XK} {t : TA} (h : t σ H fun vs H1 => MakeR C sp (vs ++ dvs) H1 Q E) : tMakeN C sp dvs E t σ H Q := h
end
end Up

set_option Elab.async false
set_option linter.all false
set_option maxRecDepth 100000
set_option maxHeartbeats 4000000
namespace Up
open PySem PySem.Spec PyProof.Rows L2
/-! ### what a call hands back, over a heap in which all that stood stands -/
abbrev Ret (H : Hp) (v : V) (Q : VK) : Prop := ∀ H', Same H H' → Q v H'
abbrev RetT (H : Hp) (xs : List V) (Q : VK) : Prop := ∀ H' a, H a = none → Same H H' → H' a = some (.tup xs) → Q (.ref a) H'
abbrev RetL (H : Hp) (xs : List V) (Q : VK) : Prop := ∀ H' a, H a = none → Same H H' → H' a = some (.lst xs) → Q (.ref a) H'
/-! ### what is known of a value's kind -/
def isI : V → Bool
  | .int _ => true
  | _ => false
def isB : V → Bool
  | .bl _ => true
  | _ => false
def isS : V → Bool
  | .str _ => true
  | _ => false
/-- the classes int, bool, str asked of x -/
structure Kn (K : PySem.W.Frag) (H : Hp) (x : V) (t : Value) : Prop where
  ty : TyX K H x t
  int : PySem.W.kitOne K t (.type "int") = some (isI x || isB x)
  bool : PySem.W.kitOne K t (.type "bool") = some (isB x)
  str : PySem.W.kitOne K t (.type "str") = some (isS x)
theorem kn_non {K : PySem.W.Frag} {H : Hp} : Kn K H .non (.type "NoneType") := ⟨.base .non, kit_ty (r := false) (by decide +kernel), kit_ty (r := false) (by decide +kernel), kit_ty (r := false) (by decide +kernel)⟩
theorem kn_bl {K : PySem.W.Frag} {H : Hp} {b : Bool} : Kn K H (.bl b) (.type "bool") := ⟨.base (.bl b), kit_ty (r := true) (by decide +kernel), kit_ty (r := true) (by decide +kernel), kit_ty (r := false) (by decide +kernel)⟩
theorem kn_int {K : PySem.W.Frag} {H : Hp} {i : Int} : Kn K H (.int i) (.type "int") := ⟨.base (.int i), kit_ty (r := true) (by decide +kernel), kit_ty (r := false) (by decide +kernel), kit_ty (r := false) (by decide +kernel)⟩
theorem kn_str {K : PySem.W.Frag} {H : Hp} {i : Str} : Kn K H (.str i) (.type "str") := ⟨.base (.str i), kit_ty (r := false) (by decide +kernel), kit_ty (r := false) (by decide +kernel), kit_ty (r := true) (by decide +kernel)⟩
theorem kn_lst {K : PySem.W.Frag} {H : Hp} {a : Addr} {xs : List V} (h : H a = some (.lst xs)) : Kn K H (.ref a) (.type "list") := ⟨.base (.lst h), kit_ty (r := false) (by decide +kernel), kit_ty (r := false) (by decide +kernel), kit_ty (r := false) (by decide +kernel)⟩
theorem kn_tup {K : PySem.W.Frag} {H : Hp} {a : Addr} {xs : List V} (h : H a = some (.tup xs)) : Kn K H (.ref a) (.type "tuple") := ⟨.base (.tup h), kit_ty (r := false) (by decide +kernel), kit_ty (r := false) (by decide +kernel), kit_ty (r := false) (by decide +kernel)⟩
theorem kn_dK {K : PySem.W.Frag} {H : Hp} {a : Addr} {xs : List (Key × V)} (h : H a = some (.dK xs)) : Kn K H (.ref a) (.type "dict") := ⟨.base (.dK h), kit_ty (r := false) (by decide +kernel), kit_ty (r := false) (by decide +kernel), kit_ty (r := false) (by decide +kernel)⟩
/-- an own class whose instances are no int, bool, str -/
structure OwnC (K : PySem.W.Frag) (C : Addr) : Prop where
  cl : Cls K C
  ha : PySem.W.findIn K (.ref C) "__class__" = some (some (.builtin "object.__class__"))
  hn : PySem.W.specialIn K (.builtin "object.__class__") "__get__" = some (some (.builtin "getset_descriptor.__get__"))
  htk : PySem.W.takesIn K (.builtin "object.__class__") = some true
  hm : PySem.W.mroIn K C (.type "object") = some true
  int : PySem.W.kitOne K (.ref C) (.type "int") = some false
  bool : PySem.W.kitOne K (.ref C) (.type "bool") = some false
  str : PySem.W.kitOne K (.ref C) (.type "str") = some false
theorem kn_ins {K : PySem.W.Frag} {H : Hp} {a C dx : Addr} {fs : List (Str × V)} (T : OwnC K C) (h : H a = some (.ins C dx fs)) : Kn K H (.ref a) (.ref C) := ⟨.base (.ins h T.cl T.ha T.hn T.htk T.hm), T.int, T.bool, T.str⟩
theorem g_isi {K : PySem.W.Frag} {H : Hp} {Q : VK} {x c : V} {t u : Value} {b : Bool} (ht : TyX K H x t) (hc : ClsV c u) (hk : PySem.W.kitOne K t u = some b) (q : Q (.bl b) H) : rIsi K [x, c] H Q := ⟨x, c, t, u, b, rfl, hc, ht, hk, q⟩
section
variable {K : PySem.W.Frag} {H H' : Hp} {Q : VK} {x : V} {t : Value}
theorem TyX.same (s : Same H H') (h : TyX K H x t) : TyX K H' x t := by
  cases h with
  | base h => cases h with
    | non => exact .base .non
    | bl b => exact .base (.bl b)
    | int b => exact .base (.int b)
    | str b => exact .base (.str b)
    | flt b => exact .base (.flt b)
    | lst e => exact .base (.lst (s _ _ e))
    | frz e => exact .base (.frz (s _ _ e))
    | tup e => exact .base (.tup (s _ _ e))
    | dK e => exact .base (.dK (s _ _ e))
    | dT e => exact .base (.dT (s _ _ e))
    | ins e c h1 h2 h3 h4 => exact .base (.ins (s _ _ e) c h1 h2 h3 h4)
  | byt b => exact .byt b
  | set e => exact .set (s _ _ e)
  | kList e c => exact .kList e c
  | kTuple e c => exact .kTuple e c
  | kDict e c => exact .kDict e c
  | fTuple e => exact .fTuple (s _ _ e)
  | fDict e => exact .fDict (s _ _ e)
theorem Kn.same (s : Same H H') (h : Kn K H x t) : Kn K H' x t := ⟨TyX.same s h.ty, h.int, h.bool, h.str⟩
theorem g_isiInt (h : Kn K H x t) (q : Q (.bl (isI x || isB x)) H) : rIsi K [x, .ty "int"] H Q := g_isi h.ty (.ty _) h.int q
theorem g_isiBool (h : Kn K H x t) (q : Q (.bl (isB x)) H) : rIsi K [x, .ty "bool"] H Q := g_isi h.ty (.ty _) h.bool q
theorem g_isiStr (h : Kn K H x t) (q : Q (.bl (isS x)) H) : rIsi K [x, .ty "str"] H Q := g_isi h.ty (.ty _) h.str q
end
end Up

set_option Elab.async false
set_option linter.all false
set_option maxRecDepth 100000
set_option maxHeartbeats 4000000
namespace Up
open PySem PySem.Spec PyProof.Rows L2 PySem.SeqAt HN
/-! ### == of None and of instances of a class without an own one -/
structure IdC (K : PySem.W.Frag) (C : Addr) : Prop where
  hm : PySem.W.mroIn K C (.type "object") = some true
  he : PySem.W.findIn K (.ref C) "__eq__" = some (some (.builtin "object.__eq__"))
  hn : PySem.W.subIn K (.ref C) (.type "NoneType") = some false
section
variable {M : Model} {prog : Program} {w : World} {A : Around} {E : Value → Shared → Prop} {s : Shared} {K : PySem.W.Frag} {x y C : Addr} {ox oy : Obj} {od oe : Option Obj}
theorem inst_nt (I : PySem.W.InstAt s.heap x ox C od) : ox.cls ≠ .type "tuple" := by
  obtain ⟨_, hc, _, _⟩ := I
  rw [hc]; exact fun z => nomatch z
theorem obj_other {Q : Value → Shared → Prop} (X : K.In s.heap) (I : PySem.W.InstAt s.heap x ox C od) (J : PySem.W.InstAt s.heap y oy C oe) (T : IdC K C) (hxy : x ≠ y) (hq : Q .notImplemented s) :
    wpAny (model prog w) A (call (.builtin "object.__eq__") [.ref x, .ref y]) Q E s :=
  wpAny_call (codeAny_call_builtin PySem.F.cmp_object.eq.plain PySem.F.cmpEntry_eq (PySem.W.check_slot PySem.F.cmpKind_eq PySem.F.cmpSplit_eq (I.type.andThen (PySem.W.looks_mroIn X T.hm)) (PySem.F.cmpArgs_eq _ _) (objEq_entry_other hxy I.1 J.1 (inst_nt I) hq)))
theorem obj_same {Q : Value → Shared → Prop} (X : K.In s.heap) (I : PySem.W.InstAt s.heap x ox C od) (T : IdC K C) (hq : Q (.bool true) s) :
    wpAny (model prog w) A (call (.builtin "object.__eq__") [.ref x, .ref x]) Q E s :=
  wpAny_call (codeAny_call_builtin PySem.F.cmp_object.eq.plain PySem.F.cmpEntry_eq (PySem.W.check_slot PySem.F.cmpKind_eq PySem.F.cmpSplit_eq (I.type.andThen (PySem.W.looks_mroIn X T.hm)) (PySem.F.cmpArgs_eq _ _) (objEq_entry_same hq)))
theorem try_other {Q : Option Value → Shared → Prop} (X : K.In s.heap) (I : PySem.W.InstAt s.heap x ox C od) (J : PySem.W.InstAt s.heap y oy C oe) (T : IdC K C) (hxy : x ≠ y) (hq : Q none s) :
    wpAny (model prog w) A (tryCompare (.ref x) "__eq__" (.ref y)) Q E s := by
  unfold tryCompare
  exact wpAny_bind (ifBound_objEq X I T.he (obj_other X I J T hxy (wpAny_pure hq)))
theorem try_same {Q : Option Value → Shared → Prop} (X : K.In s.heap) (I : PySem.W.InstAt s.heap x ox C od) (T : IdC K C) (hq : Q (some (.bool true)) s) :
    wpAny (model prog w) A (tryCompare (.ref x) "__eq__" (.ref x)) Q E s := by
  unfold tryCompare
  exact wpAny_bind (ifBound_objEq X I T.he (obj_same X I T (wpAny_pure hq)))
theorem try_rn {Q : Option Value → Shared → Prop} (X : K.In s.heap) (I : PySem.W.InstAt s.heap x ox C od) (T : IdC K C) (hq : Q none s) :
    wpAny (model prog w) A (tryCompare (.ref x) "__eq__" .none) Q E s := by
  unfold tryCompare
  exact wpAny_bind (ifBound_objEq X I T.he (HN.call_objEq X I T.hm (wpAny_pure hq)))
theorem try_nr {Q : Option Value → Shared → Prop} (hq : Q none s) : wpAny (model prog w) A (tryCompare .none "__eq__" (.ref x)) Q E s :=
  wpAny_tryCompare_declines (show s.TypeIs .none "NoneType" from rfl) PySem.F.slot_NoneType_eq_refl (call_gives PySem.F.slot_NoneType_eq_refl rfl PySem.F.entry_NoneType_eq (PySem.F.args_NoneType_eq_2 _ _) (NoneType___eq___none_ref_0 x) ⟨rfl, hq⟩)
theorem rc_same {Q : Value → Shared → Prop} (hu : A.units < cLine) (X : K.In s.heap) (I : PySem.W.InstAt s.heap x ox C od) (T : IdC K C) (hq : Q (.bool true) s) : wpAny (model prog w) A (richCompare .Eq (.ref x) (.ref x)) Q E s := by
  simp only [richCompare, cmpInfo_Eq, oneThing_ref]
  refine wpAny_holding (wpAny_bind (wpAny_cRoomFor hu ?_))
  refine wpAny_bind (I.type.here (wpAny_bind (I.type.here ?_)))
  simp only [bne_self_eq_false, Bool.false_eq_true, if_false]
  refine wpAny_bind (wpAny_pure (wpAny_bind (m := tryCompare (.ref x) _ (.ref x)) (try_same X I T ?_)))
  exact wpAny_pure hq
theorem rc_other {Q : Value → Shared → Prop} (hu : A.units < cLine) (X : K.In s.heap) (I : PySem.W.InstAt s.heap x ox C od) (J : PySem.W.InstAt s.heap y oy C oe) (T : IdC K C) (hxy : x ≠ y) (hq : Q (.bool false) s) : wpAny (model prog w) A (richCompare .Eq (.ref x) (.ref y)) Q E s := by
  simp only [richCompare, cmpInfo_Eq, oneThing_ref]
  refine wpAny_holding (wpAny_bind (wpAny_cRoomFor hu ?_))
  refine wpAny_bind (I.type.here (wpAny_bind (J.type.here ?_)))
  simp only [bne_self_eq_false, Bool.false_eq_true, if_false]
  refine wpAny_bind (wpAny_pure (wpAny_bind (m := tryCompare (.ref x) _ (.ref y)) (try_other X I J T hxy ?_)))
  simp only [Bool.false_eq_true, if_false, Bool.not_false, if_true]
  refine wpAny_bind (m := tryCompare (.ref y) _ (.ref x)) (try_other X J I T hxy.symm ?_)
  exact wpAny_bind (wpAny_rule (wpAny_bind (wpAny_isSame_ref_other hxy I.1 J.1 (inst_nt I) (wpAny_pure hq))))
theorem rc_nr {Q : Value → Shared → Prop} (hu : A.units < cLine) (X : K.In s.heap) (I : PySem.W.InstAt s.heap x ox C od) (T : IdC K C) (hq : Q (.bool false) s) : wpAny (model prog w) A (richCompare .Eq .none (.ref x)) Q E s := by
  have h0 : oneThing? .Eq .none (.ref x) = none := rfl
  simp only [richCompare, cmpInfo_Eq, h0]
  refine wpAny_holding (wpAny_bind (wpAny_cRoomFor hu ?_))
  refine wpAny_bind (wpAny_typeOf (show s.TypeIs .none "NoneType" from rfl) (wpAny_bind (I.type.here ?_)))
  split
  · refine wpAny_bind ((PySem.W.looks_subIn X T.hn).here ?_)
    simp only [Bool.false_eq_true, if_false, Bool.not_false, if_true]
    refine wpAny_bind (m := tryCompare .none _ (.ref x)) (try_nr ?_)
    refine wpAny_bind (m := tryCompare (.ref x) _ .none) (try_rn X I T ?_)
    exact wpAny_bind (wpAny_rule (wpAny_bind (wpAny_of_eq (rfl : isSame .none (.ref x) = pure false) (wpAny_pure hq))))
  · rename_i q
    exact absurd (by simp) q
end
/-- None, or an instance of the class at C -/
def IdV (C : Addr) (H : Hp) (x : V) : Prop := x = .non ∨ ∃ a dx fs, x = .ref a ∧ H a = some (.ins C dx fs)
def rEqId (C : Addr) : R2 := fun x y H Q => IdV C H x ∧ IdV C H y ∧ Q (.bl (decide (x = y))) H
theorem op_eqId {X : Cx} {C : Addr} (T : IdC X.K C) (hu : X.A.units + 64 < cLine) : OpR X (compareOp .Eq) (rEqId C) := by
  intro pins s σ H x y v u Q I rx ry h
  obtain ⟨h1, h2, q⟩ := h
  have hu0 : X.A.units < cLine := by omega
  show wpAny (model X.prog X.w) X.A (richCompare .Eq v u) (EP X pins σ Q) X.xe s
  rcases h1 with rfl | ⟨a, dx, fs, rfl, ha⟩
  · rcases h2 with rfl | ⟨b, dy, gs, rfl, hb⟩
    · exact op_eq pins s σ H .non .non v u Q I rx ry ⟨rfl, q⟩
    · cases rx
      cases ry
      obtain ⟨mA, O, _⟩ := ins_get I.hok hb
      obtain ⟨od, J, _⟩ := O.look
      exact rc_nr hu0 I.kIn J T ⟨.bl false, H, I, rfl, q⟩
  · obtain ⟨mA, O, _⟩ := ins_get I.hok ha
    obtain ⟨od, J, _⟩ := O.look
    rcases h2 with rfl | ⟨b, dy, gs, rfl, hb⟩
    · cases rx
      cases ry
      exact rc_none hu0 I.kIn J T.hm T.he X.prog X.w X.xe _ ⟨.bl false, H, I, rfl, q⟩
    · cases rx
      cases ry
      obtain ⟨mB, O2, _⟩ := ins_get I.hok hb
      obtain ⟨oe, J2, _⟩ := O2.look
      by_cases hab : a = b
      · subst hab
        rw [decide_eq_true rfl] at q
        exact rc_same hu0 I.kIn J T ⟨.bl true, H, I, rfl, q⟩
      · rw [decide_eq_false (fun z => hab (by injection z))] at q
        exact rc_other hu0 I.kIn J J2 T hab ⟨.bl false, H, I, rfl, q⟩
def oEqI (K : PySem.W.Frag) (C : Addr) : R2 := fun x y H Q => oEq K x y H Q ∨ rEqId C x y H Q
theorem op_oEqI {X : Cx} {C : Addr} (T : IdC X.K C) (hu : X.A.units + 64 < cLine) : OpR X (compareOp .Eq) (oEqI X.K C) := op_or (op_oEq hu) (op_eqId T hu)
end Up

set_option Elab.async false
set_option linter.all false
set_option maxRecDepth 100000
set_option maxHeartbeats 4000000
namespace Up
open PySem PySem.Spec PyProof.Rows L2 PySem.SeqAt HN
/-! ### == and != of two instances of a class with its own __eq__ -/
def EqC (P : Program) (w : World) (K : PySem.W.Frag) (mg : Str → Option Value) (base : Heap) (k : Nat) (C : Addr) (sp : Sp) : Prop :=
  ∃ f fd, FnOk P w K mg base CX0 k f fd ["self", "other"] sp ∧ PySem.W.findIn K (.ref C) "__eq__" = some (some (.ref f)) ∧ PySem.W.isFn K (.ref f) = true ∧ Binds K fd ["self", "other"] [] ∧
    PySem.W.findIn K (.ref C) "__ne__" = some (some (.builtin "object.__ne__")) ∧ PySem.W.mroIn K C (.type "object") = some true
def rEqO (C : Addr) (sp : Sp) : R2 := fun x y H Q => ∃ a b dx dy fs gs, x = .ref a ∧ y = .ref b ∧ H a = some (.ins C dx fs) ∧ H b = some (.ins C dy gs) ∧ sp [.ref a, .ref b] H (fun v H' => ∃ c, v = .bl c ∧ Q (.bl c) H') E0
def rNeO (C : Addr) (sp : Sp) : R2 := fun x y H Q => ∃ a b dx dy fs gs, x = .ref a ∧ y = .ref b ∧ H a = some (.ins C dx fs) ∧ H b = some (.ins C dy gs) ∧ sp [.ref a, .ref b] H (fun v H' => ∃ c, v = .bl c ∧ Q (.bl (!c)) H') E0
section
variable {X : Cx} {C : Addr} {k : Nat} {sp : Sp}
/-- the own __eq__ runs, wherever it is called from -/
theorem run_eq {pins : List (Addr × Obj)} {σ : L2.St} {H : Hp} {s : Shared} {A : Around} {f a b : Addr} {fd : FuncData} {Qv : VK} {R : Value → Shared → Prop} {E : Value → Shared → Prop} (F : FnOk X.prog X.w X.K X.mg X.base CX0 k f fd ["self", "other"] sp) (hb : Binds X.K fd ["self", "other"] [])
    (hr : Room k A) (hA : A.frames = X.A.frames) (I : L2.Inv X pins σ H s) (h : sp [.ref a, .ref b] H Qv E0) (q : ∀ v u H' s', L2.Inv X pins σ H' s' → L2.RelV v u → Qv v H' → R u s') : wpAny (model X.prog X.w) A (call (.ref f) [.ref a, .ref b]) R E s := by
  have e := I.env0
  have e0 : Env0 X.prog X.w X.K X.mg X.base A X.stack s H := ⟨by rw [hA]; exact e.frames, e.mod, e.bs, e.bsz, e.funs, e.frf, e.hok, e.bare⟩
  have r2 : Vals [V.ref a, V.ref b] [Value.ref a, Value.ref b] := .cons rfl (.cons rfl .nil)
  have bb := hb s [.ref a, .ref b] I.kIn rfl
  refine wpAny_call (codeAny_mono (F.run A X.stack s H ⟨[.ref a, .ref b], []⟩ [.ref a, .ref b] [.ref a, .ref b] Qv E0 hr e0 bb r2 h) fun r s' hq => ?_)
  cases r with
  | error e => exact hq.elim
  | ok fl =>
    cases fl with
    | ret u =>
      obtain ⟨v, H', I', rv, qv⟩ := I.after hq
      exact q v u H' s' I' rv qv
    | next => exact False.elim hq
    | brk => exact False.elim hq
    | cont => exact False.elim hq
theorem op_eqO (T : EqC X.prog X.w X.K X.mg X.base k C sp) (hr : Room k X.A) : OpR X (compareOp .Eq) (rEqO C sp) := by
  intro pins s σ H x y v u Q I rx ry h
  obtain ⟨f, fd, F, hs, hf, hb, hne, hm⟩ := T
  obtain ⟨a, b, dx, dy, fs, gs, rfl, rfl, ha, hb', h⟩ := h
  cases rx
  cases ry
  obtain ⟨mA, J, _⟩ := ins_get I.hok ha
  obtain ⟨mB, J', _⟩ := ins_get I.hok hb'
  obtain ⟨od, J, _⟩ := J.look
  obtain ⟨od', J', _⟩ := J'.look
  obtain ⟨m, hF⟩ := I.fr
  show wpAny (model X.prog X.w) X.A (richCompare .Eq (.ref a) (.ref b)) (EP X pins σ Q) X.xe s
  refine PySem.W.cmp_K (op := .Eq) (tb := .ref C) hr.units0 hF I.ok.mod.kin J J'.type (by simp [PySem.W.notFirst]) hs hf ?_
  refine run_eq F hb hr rfl I h fun v u H' s' I' rv qv => ?_
  obtain ⟨c, rfl, qv⟩ := qv
  cases rv
  exact ⟨.bl c, H', I', rfl, qv⟩
theorem ifBound_objNe {M : Model} {A : Around} {E : Value → Shared → Prop} {s : Shared} {K : PySem.W.Frag} {x C : Addr} {ox : Obj} {od : Option Obj} {args : List Value} {Q : Option Value → Shared → Prop} (Y : K.In s.heap) (I : PySem.W.InstAt s.heap x ox C od) (hs : PySem.W.findIn K (.ref C) "__ne__" = some (some (.builtin "object.__ne__")))
    (h : wpAny M A (call (.builtin "object.__ne__") (.ref x :: args)) (fun v => Q (some v)) E s) : wpAny M A (callSpecialIfBound? (.ref x) "__ne__" args) Q E s := by
  simp only [callSpecialIfBound?, bindSpecialIfBound?]
  refine wpAny_holding (wpAny_bind (wpAny_bind (wpAny_bind (I.type.here ((PySem.W.looks_findIn Y hs).here ?_)))))
  refine wpAny_bind (wpAny_askSetting (wpAny_ite ?_))
  have fin : wpAny M A (call (.builtin "object.__ne__") ([.ref x] ++ args) >>= fun v => pure (some v)) Q E s := wpAny_bind (wpAny_mono h (fun v s' z => wpAny_pure z) fun _ _ z => z)
  split
  · exact wpAny_bind (wpAny_of_eq (PySem.F.cmp_object.ne.bind _) (wpAny_pure (by exact fin)))
  · exact wpAny_tryCatch (wpAny_bind (wpAny_of_eq (PySem.F.cmp_object.ne.bind _) (wpAny_pure (by exact fin))))
theorem op_neO (T : EqC X.prog X.w X.K X.mg X.base k C sp) (hr : Room (k + 1) X.A) : OpR X (compareOp .NotEq) (rNeO C sp) := by
  intro pins s σ H x y v u Q I rx ry h
  obtain ⟨f, fd, F, hs, hf, hb, hne, hm⟩ := T
  obtain ⟨a, b, dx, dy, fs, gs, rfl, rfl, ha, hb', h⟩ := h
  cases rx
  cases ry
  obtain ⟨mA, J, _⟩ := ins_get I.hok ha
  obtain ⟨mB, J', _⟩ := ins_get I.hok hb'
  obtain ⟨od, J, _⟩ := J.look
  obtain ⟨od', J', _⟩ := J'.look
  show wpAny (model X.prog X.w) X.A (richCompare .NotEq (.ref a) (.ref b)) (EP X pins σ Q) X.xe s
  have hu := hr.un
  have one : wpAny (model X.prog X.w) X.A (tryCompare (.ref a) "__ne__" (.ref b)) (fun r s' => ∃ v, r = some v ∧ EP X pins σ Q v s') X.xe s := by
    unfold tryCompare
    refine wpAny_bind (ifBound_objNe I.kIn J hne ?_)
    refine wpAny_call (codeAny_call_builtin PySem.F.cmp_object.ne.plain PySem.F.cmpEntry_ne (PySem.W.check_slot PySem.F.cmpKind_ne PySem.F.cmpSplit_ne (J.type.andThen (PySem.W.looks_mroIn I.kIn hm)) (PySem.F.cmpArgs_ne _ _) ?_))
    unfold Builtin.«object.__ne__»
    refine wpAny_bind (wpAny_of_eq (a := ((Value.ref a : Value), [Value.ref b])) (by first | rfl | (simp only [slotArgs]; rfl)) ?_)
    refine wpAny_bind (wpAny_cRoomFor (by show X.A.units + 1 < cLine; omega) ?_)
    refine wpAny_bind (PySem.W.ifBound_K I.kIn J hs hf ?_)
    refine run_eq F hb hr.in1 rfl I h fun v u H' s' I' rv qv => ?_
    obtain ⟨c, rfl, qv⟩ := qv
    cases rv
    refine wpAny_bind (wpAny_truthy_bool (wpAny_pure ?_))
    exact wpAny_pure ⟨_, rfl, .bl (!c), H', I', rfl, qv⟩
  unfold richCompare
  simp only [oneThing_ref, cmpInfo_NotEq]
  refine wpAny_holding (wpAny_bind (wpAny_cRoomFor (by omega) ?_))
  refine wpAny_bind (J.type.here (wpAny_bind (J'.type.here ?_)))
  simp only [bne_self_eq_false, Bool.false_eq_true, if_false]
  refine wpAny_bind (wpAny_pure (wpAny_bind (m := tryCompare (.ref a) _ (.ref b)) (wpAny_mono one (fun r s' z => ?_) fun _ _ e => e)))
  obtain ⟨v, rfl, z⟩ := z
  exact wpAny_pure z
end
end Up

set_option Elab.async false
set_option linter.all false
set_option maxRecDepth 100000
set_option maxHeartbeats 4000000
namespace Up
open PySem PySem.Spec PyProof.Rows L2
/-- an expression that the proof never comes to -/
def tNevE : TE := fun _ _ _ => False
theorem pe_never {X : Cx} {e : Expr} : PE X e tNevE := ⟨fun _ _ _ _ _ _ h => h.elim⟩
/-- a test, a value read once with a middle term -/
def tCutT (t : TT) : TT := fun σ H R => ∃ P : Bool → Hp → Prop, t σ H P ∧ ∀ b H', P b H' → R b H'
theorem pt_cut {X : Cx} {e : Expr} {t : TT} (h : PT X e t) : PT X e (tCutT t) := ⟨fun pins s σ H Q I ⟨P, h1, h2⟩ => wpAny_mono (h.run pins s σ H P I h1) (fun b s' ⟨H', I', p⟩ => ⟨H', I', h2 _ _ p⟩) fun _ _ e => e⟩
def tCutE (t : TE) : TE := fun σ H R => ∃ P : VK, t σ H P ∧ ∀ b H', P b H' → R b H'
theorem pe_cut {X : Cx} {e : Expr} {t : TE} (h : PE X e t) : PE X e (tCutE t) := ⟨fun pins s σ H Q I ⟨P, h1, h2⟩ => wpAny_mono (h.run pins s σ H P I h1) (fun b s' ⟨v, H', I', r, p⟩ => ⟨v, H', I', r, h2 _ _ p⟩) fun _ _ e => e⟩
theorem g_cutT {t : TT} {σ : L2.St} {H : Hp} {R : Bool → Hp → Prop} (P : Bool → Hp → Prop) (h1 : t σ H P) (h2 : ∀ b H', P b H' → R b H') : tCutT t σ H R := ⟨P, h1, h2⟩
theorem g_cutE {t : TE} {σ : L2.St} {H : Hp} {R : VK} (P : VK) (h1 : t σ H P) (h2 : ∀ b H', P b H' → R b H') : tCutE t σ H R := ⟨P, h1, h2⟩
theorem g_chain {r r' : R2} {ta tb tc : TE} {σ : L2.St} {H : Hp} {Q : VK} (h : ta σ H fun x H1 => tb σ H1 fun y H2 => r x y H2 fun z H3 => ∃ k, z = .bl k ∧ (if k = true then tc σ H3 fun w' H4 => r' y w' H4 Q else Q (.bl false) H3)) : tChain r r' ta tb tc σ H Q := h
theorem g_par3 {i j l : Nat} {ta : TA} {D : Ends} {σ : L2.St} {H : Hp} (h : ta σ H fun vs H1 => ∃ u v w, vs = [u, v, w] ∧ D.nx (((σ.set i (some u)).set j (some v)).set l (some w)) H1) : tPar3 i j l ta D σ H := h
theorem g_par3' {a b c : V} {T : V → V → V → Prop} (h : T a b c) : ∃ u v w, [a, b, c] = [u, v, w] ∧ T u v w := ⟨a, b, c, rfl, h⟩
theorem g_while {c : TT} {tb : TS} {D : Ends} {σ : L2.St} {H : Hp} (W : Nat → L2.St → Hp → Prop) (m0 : Nat) (h0 : W m0 σ H) (hs : ∀ m σ H, W m σ H →
    c σ H fun b H1 => if b = true then ∃ N : L2.St → Hp → Prop, (∀ σ' H', N σ' H' → ∃ m', m' < m ∧ W m' σ' H') ∧ tb { D with nx := N, ct := N, bk := D.nx } σ H1 else D.nx σ H1) : tWhile c tb D σ H := ⟨W, ⟨m0, h0⟩, hs⟩
theorem g_wbody {tb : TS} {D : Ends} {σ : L2.St} {H : Hp} {W : Nat → L2.St → Hp → Prop} {m : Nat} (h : tb { D with nx := fun σ' H' => ∃ m', m' < m ∧ W m' σ' H', ct := fun σ' H' => ∃ m', m' < m ∧ W m' σ' H', bk := D.nx } σ H) :
    ∃ N : L2.St → Hp → Prop, (∀ σ' H', N σ' H' → ∃ m', m' < m ∧ W m' σ' H') ∧ tb { D with nx := N, ct := N, bk := D.nx } σ H := ⟨_, fun _ _ z => z, h⟩
section
variable {K : PySem.W.Frag} {H : Hp} {Q : VK} {x y : V}
theorem g_eqV (hs : scal x y = true) (h : Q (.bl (decide (x = y))) H) : oEq K x y H Q := .inl ⟨hs, h⟩
theorem g_neV (hs : scal x y = true) (h : Q (.bl (!decide (x = y))) H) : oNe K x y H Q := .inl ⟨hs, h⟩
end
/-- an int or a text -/
def IS (t : V) : Prop := (∃ n, t = .int n) ∨ ∃ x, t = .str x
theorem IS.int (n : Int) : IS (.int n) := .inl ⟨n, rfl⟩
theorem IS.str (n : Str) : IS (.str n) := .inr ⟨n, rfl⟩
theorem IS.scal {t u : V} (ht : IS t) (hu : IS u) : scal t u = true := by
  rcases ht with ⟨n, rfl⟩ | ⟨n, rfl⟩ <;> rcases hu with ⟨m, rfl⟩ | ⟨m, rfl⟩ <;> rfl
theorem IS.flat {t : V} (ht : IS t) : flatV t = true := by
  rcases ht with ⟨n, rfl⟩ | ⟨n, rfl⟩ <;> rfl
theorem IS.eqV {t u : V} (ht : IS t) (hu : IS u) : eqV t u = decide (t = u) := by
  rcases ht with ⟨n, rfl⟩ | ⟨n, rfl⟩ <;> rcases hu with ⟨m, rfl⟩ | ⟨m, rfl⟩
  · show (n == m) = _
    by_cases h : n = m
    · subst h; simp
    · have : (n == m) = false := beq_eq_false_iff_ne.mpr h
      rw [this]; simp [h]
  · show false = _
    simp
  · show false = _
    simp
  · show (n == m) = _
    by_cases h : n = m
    · subst h; simp
    · have : (n == m) = false := beq_eq_false_iff_ne.mpr h
      rw [this]; simp [h]
/-- x in (a, b) -/
theorem IS.in2 {x a b : V} (hx : IS x) (ha : IS a) (hb : IS b) : inV x [a, b] = decide (a = x ∨ b = x) := by
  unfold inV
  simp only [List.any_cons, List.any_nil, Bool.or_false]
  rw [ha.eqV hx, hb.eqV hx]
  by_cases h1 : a = x <;> by_cases h2 : b = x <;> simp [h1, h2]
theorem g_in2 {K : PySem.W.Frag} {H : Hp} {Q : VK} {x a b : V} {p : Addr} (hp : H p = some (.tup [a, b])) (hx : IS x) (ha : IS a) (hb : IS b) (q : Q (.bl (decide (a = x ∨ b = x))) H) : rIn K false x (.ref p) H Q :=
  ⟨p, _, rfl, .inr (SqT.of hp), hx.flat, by simp [ha.flat, hb.flat], by rw [hx.in2 ha hb]; exact q⟩
def dV : V → PyData
  | .int n => .int n
  | .str x => .str x
  | _ => .none
theorem IS.dp {K : PySem.W.Frag} {H : Hp} {t : V} (ht : IS t) : Dp K H t (dV t) := by
  rcases ht with ⟨n, rfl⟩ | ⟨n, rfl⟩
  · exact .int n
  · exact .str n
theorem IS.eqv {t u : V} (ht : IS t) (hu : IS u) : PyData.eqv (dV t) (dV u) = decide (t = u) := by
  rw [← ht.eqV hu]
  rcases ht with ⟨n, rfl⟩ | ⟨n, rfl⟩ <;> rcases hu with ⟨m, rfl⟩ | ⟨m, rfl⟩ <;> simp [dV, PyData.eqv, L2.eqV]
end Up

set_option Elab.async false
set_option linter.all false
set_option pp.maxSteps 600
set_option maxRecDepth 100000
set_option maxHeartbeats 4000000
namespace Up
open PySem PySem.Spec PyProof.Rows L2 PySem.W
/-! ### own exceptions over ArithmeticError, their __init__ walked as a def -/
abbrev aeT : List Value := [.type "ArithmeticError", .type "Exception", .type "BaseException", .type "object"]
structure AxC (K : PySem.W.Frag) (C : Addr) : Prop where
  ini : excInitIn K C aeT "ArithmeticError.__new__" = true
  ov : excOver K C aeT = true
  hd : hasDictIn K C = true
  sa : findIn K (.ref C) "__setattr__" = some (some (.builtin "object.__setattr__"))
  exC : subIn K (.ref C) (.type "BaseException") = some true
  tyC : typeIn K (.ref C) = some (.type "type")
  kC : keepIn K (.ref C) = true
section
variable {prog : Program} {w : World} {A : Around} {R : Result → Shared → Prop} {K : PySem.W.Frag} {x C : Addr} {name : Str} {tk : Tok} {v : Value} {hp : Heap} {g : Array GenState} {d : Drawn} {t : Nat} {os : OsState}
/-- the first field: the dict is laid -/
theorem ax_set0 {fv : Array Value} (T : AxC K C) (Y : K.In hp) (hx : hp.get? x = some { cls := .ref C, data := .fields fv }) (ht : takerIn K C name = some none)
    (q : ∀ h' tk' dx, (∀ b o, b ≠ x → hp.get? b = some o → h'.get? b = some o) → hp.objs.size ≤ dx → dx ≠ x → h'.get? x = some { cls := .ref C, dict := some dx, data := .fields fv } → h'.Ns1 dx (fun y => if y = name then some v else none) → R (.ok (.ret .none)) ⟨h', g, d, tk', os⟩) :
    codeAny (model prog w) A (.call (.builtin "object.__setattr__") ⟨[.ref x, .str name tk, v], []⟩) R ⟨hp, g, d, t, os⟩ := by
  refine osa_openX (s := ⟨hp, g, d, t, os⟩) (od := none) PySem.F.store_ArithmeticError Y ⟨hx, rfl, rfl, trivial⟩ T.ov ht fun b => ?_
  obtain ⟨cd, hc, hd'⟩ := any_some T.hd
  have ne : x ≠ hp.objs.size := Nat.ne_of_lt (Heap.lt_size hx)
  have hcl : Looks (model prog w) hp (classData C) cd := looks_clsIn Y hc
  obtain ⟨c1, c2, c3, c4, c5, c6, c7, c8, c9, c10, c11⟩ := cd
  have hd2 : c6 = true := hd'
  subst hd2
  unfold Builtin.ObjectAttr.storeInOwnDict Builtin.ObjectAttr.ownDictForStores
  repeat (first | with_reducible refine HandSPX.store_in_new ?_ ?_ | with_reducible refine wpAny_loadPart_at hx ?_ | with_reducible refine hcl.at ?_ | wp_step)
  · exact ⟨_, #[], _, (Heap.get?_update_ne _ _ _ _ ne.symm).trans (Heap.get?_push_at rfl rfl), rfl, fun e he => absurd he (by simp), fun _ => rfl⟩
  · intro h' tk' n1 sb
    have hx1 : (hp.push { cls := .type "dict", data := .dict #[] }).get? x = some { cls := .ref C, data := .fields fv } := Heap.get?_push_of_some _ hx
    exact q h' tk' hp.objs.size (fun b o hb ho => (sb.2 b (Nat.ne_of_lt (Heap.lt_size ho))).trans ((Heap.get?_update_ne _ _ _ _ hb).trans (Heap.get?_push_of_some _ ho))) (Nat.le_refl _) ne.symm
      ((sb.2 x ne).trans (Heap.get?_update_self _ hx1 rfl)) n1
/-- a later one -/
theorem ax_setD {fv : Array Value} {dx : Addr} {m0 : Str → Option Value} {nl : List Str} (T : AxC K C) (Y : K.In hp) (hx : hp.get? x = some { cls := .ref C, dict := some dx, data := .fields fv }) (hn : hp.Ns1 dx m0) (hw : Within m0 nl) (hz : nl.length ≤ 1000) (ht : takerIn K C name = some none)
    (q : ∀ h' tk', (∀ b o, b ≠ dx → hp.get? b = some o → h'.get? b = some o) → h'.Ns1 dx (fun y => if y = name then some v else m0 y) → R (.ok (.ret .none)) ⟨h', g, d, tk', os⟩) :
    codeAny (model prog w) A (.call (.builtin "object.__setattr__") ⟨[.ref x, .str name tk, v], []⟩) R ⟨hp, g, d, t, os⟩ := by
  obtain ⟨oD, esD, epD, hoD, hdD, _⟩ := hn.count hw
  refine osa_openX (s := ⟨hp, g, d, t, os⟩) (od := some oD) PySem.F.store_ArithmeticError Y ⟨hx, rfl, rfl, hoD⟩ T.ov ht fun b => ?_
  obtain ⟨cd, hc, hd'⟩ := any_some T.hd
  have hcl : Looks (model prog w) hp (classData C) cd := looks_clsIn Y hc
  obtain ⟨c1, c2, c3, c4, c5, c6, c7, c8, c9, c10, c11⟩ := cd
  have hd2 : c6 = true := hd'
  subst hd2
  unfold Builtin.ObjectAttr.storeInOwnDict Builtin.ObjectAttr.ownDictForStores
  repeat (first | with_reducible refine OEX.store_in_old hn hw hz ?_ | with_reducible refine wpAny_loadPart_at hx ?_ | with_reducible refine hcl.at ?_ | wp_step)
  intro h' tk' n1 sb
  exact q h' tk' (fun b o hb ho => (sb.2 b hb).trans ho) n1
end
theorem taker_none {K : PySem.W.Frag} {C : Addr} {f : Str} (h : findIn K (.ref C) f = some none) : takerIn K C f = some none := by
  unfold takerIn
  rw [h]
  rfl
section
variable {X : Cx} {pins : List (Addr × Obj)} {σ : L2.St} {H : Hp} {s : Shared} {a C dx : Addr} {f : Str} {y : V} {u : Value} {fs : List (Str × V)} {Q : Unit → Shared → Prop} {E : Value → Shared → Prop} {A : Around}
theorem ax_new (T : AxC X.K C) (I : L2.Inv X pins σ H s) (ea : H a = some (exo a C none)) (hno : findIn X.K (.ref C) f = some none) (ry : L2.RelV y u)
    (h : ∀ dx s', H dx = none → dx ≠ a → L2.Inv X pins σ (upd (upd H dx (exd dx [(f, y)])) a (exo a C (some dx))) s' → Q () s') : wpAny (model X.prog X.w) A (setAttr (.ref a) f u) Q E s := by
  obtain ⟨t1, oa⟩ := exo_at I.hok ea
  obtain ⟨hp, gg, dr, tt, oo⟩ := s
  refine set_plain I.kIn (ox := { cls := .ref C, dict := none, data := .fields #[.ref t1, .none, .none, .none, .bool false, .none] }) (od := none) ⟨oa, rfl, rfl, trivial⟩ T.sa (ax_set0 T I.kIn oa (taker_none hno) fun h' tk' dx kp dn dne hx hn => ?_)
  have fr : H dx = none := I.hok.fresh dn
  have old : ∀ {b : Addr} {o : Obj}, hp.get? b = some o → b ≠ dx := fun {b o} z => Nat.ne_of_lt (Nat.lt_of_lt_of_le (Heap.lt_size z) dn)
  have nota : ∀ {b : Addr}, H b = none → b ≠ a := fun {b} n z => by
    subst z
    exact absurd (ea.symm.trans n) (by simp)
  refine h dx _ fr dne (I.un (t' := tk') ⟨fun b o z n _ _ => kp b o (nota n) z, fun b o z n _ _ => ⟨o.slots, kp b o (nota n) z⟩, fun b o z n _ => ?_, fun b o z _ => ?_, fun b xs z => ?_, fun b o v z => ?_, fun b ps z => ?_⟩ fun b o z => ?_)
  · rw [upd_ne (nota n), upd_ne (old z), n]
  · by_cases hb : b = a
    · subst hb; exact ⟨_, hx⟩
    · exact ⟨o, kp b o hb z⟩
  · rw [upd_ne (at_ne ea z exo_tup), upd_ne (ne_of_none z fr), z]
  · rw [upd_ne (at_ne ea z exo_frz), upd_ne (ne_of_none z fr), z]
  · refine ⟨#[], ?_⟩
    rw [upd_ne (at_ne ea z exo_tbl), upd_ne (ne_of_none z fr), z]
    simp
  · by_cases hb : b = a
    · subst hb
      rw [upd_same] at z
      cases z
      exact exo_ok hx
    · rw [upd_ne hb] at z
      by_cases hd : b = dx
      · subst hd
        rw [upd_same] at z
        cases z
        exact exd_ok hn (relO_put (fs := []) ry fun _ => trivial)
      · rw [upd_ne hd] at z
        refine (I.hok b o z).stay (fun c v hc r => kp c v ?_ r) (fun c hc => ?_) (fun c xs hc => ?_)
        · rcases hc with hc | hc
          · rw [hc]; exact hb
          · exact at_ne ea hc exo_own
        · rw [upd_ne (at_ne ea hc exo_own), upd_ne (ne_of_none hc fr), hc]
        · rw [upd_ne (at_ne ea hc exo_tup), upd_ne (ne_of_none hc fr), hc]
theorem ax_old (T : AxC X.K C) (I : L2.Inv X pins σ H s) (ea : H a = some (exo a C (some dx))) (ed : H dx = some (exd dx fs)) (hl : fs.length ≤ 900) (hno : findIn X.K (.ref C) f = some none) (ry : L2.RelV y u)
    (h : ∀ s', L2.Inv X pins σ (upd H dx (exd dx ((f, y) :: fs))) s' → Q () s') : wpAny (model X.prog X.w) A (setAttr (.ref a) f u) Q E s := by
  obtain ⟨t1, oa⟩ := exo_at I.hok ea
  obtain ⟨mA, hns, rel⟩ := exd_at I.hok ed
  obtain ⟨hp, gg, dr, tt, oo⟩ := s
  have hw := within_of rel
  obtain ⟨oD, _, _, hoD, _, _⟩ := hns.count hw
  refine set_plain I.kIn (ox := { cls := .ref C, dict := some dx, data := .fields #[.ref t1, .none, .none, .none, .bool false, .none] }) (od := some oD) ⟨oa, rfl, rfl, hoD⟩ T.sa
    (ax_setD T I.kIn oa hns hw (by rw [List.length_map]; omega) (taker_none hno) fun h' tk' kp hn => ?_)
  have there : ∃ o, h'.get? dx = some o := by
    obtain ⟨o, _, _, z, _⟩ := hn
    exact ⟨o, z⟩
  exact h _ (I.write (t' := tk') (x := dx) (e := dx) (o := exd dx ((f, y) :: fs)) (by rw [ed]; trivial) (.inl rfl) kp there (exd_ok hn (relO_put ry rel)))
/-- ArithmeticError.__init__(self, ..) -/
theorem ax_init {us : List Value} {Q : Value → Shared → Prop} (T : AxC X.K C) (I : L2.Inv X pins σ H s) (ea : H a = some (exo a C none)) (hl : us.length ≤ sizeLine) (h : ∀ s', L2.Inv X pins σ H s' → Q .none s') :
    wpAny (model X.prog X.w) A (call (.builtin "ArithmeticError.__init__") (.ref a :: us)) Q E s := by
  obtain ⟨nm, N, qn, bs, bm, hd, sn, sub, ab, col, dd, k0, k1, k2, k3, k5, hC, hT⟩ := excInit_of I.kIn T.ini
  obtain ⟨t1, oa⟩ := exo_at I.hok ea
  obtain ⟨hp, gg, dr, tt, oo⟩ := s
  refine wpAny_call (HandSPX.init_base PySem.F.excBase_ArithmeticError hT hC oa hl fun h' t2 kp hx => ?_)
  have J := I.write (t' := tt) (x := a) (e := a) (o := exo a C none) (by rw [ea]; trivial) (.inl rfl) kp ⟨_, hx⟩ (exo_ok hx)
  have same : upd H a (exo a C none) = H := funext fun b => by
    by_cases hb : b = a
    · subst hb; rw [upd_same, ea]
    · rw [upd_ne hb]
  rw [same] at J
  exact h _ J
end
theorem typ_AE : typeOf (.type "ArithmeticError") = pure (.type "type") := by kernel_rfl
/-! readings and rules -/
def tAxI (K : PySem.W.Frag) (ta : TA) : TE := fun σ H Q => ta σ H fun vs H1 => ∃ (a C : Addr) (ws : List V), vs = .ref a :: ws ∧ ws.length ≤ 1000 ∧ AxC K C ∧ H1 a = some (exo a C none) ∧ Q .non H1
def AxNew (H : Hp) (a C : Addr) (f : Str) (y : V) (R : Hp → Prop) : Prop := ∀ dx H', H dx = none → dx ≠ a → H' a = some (exo a C (some dx)) → H' dx = some (exd dx [(f, y)]) → (∀ b, b ≠ a → b ≠ dx → H' b = H b) → R H'
def AxOld (H : Hp) (a dx : Addr) (fs : List (Str × V)) (f : Str) (y : V) (R : Hp → Prop) : Prop := ∀ H', H' dx = some (exd dx ((f, y) :: fs)) → (∀ b, b ≠ dx → H' b = H b) → R H'
def tAxS (K : PySem.W.Frag) (f : Str) (to te : TE) : TS := fun D σ H => te σ H fun y H1 => to σ H1 fun x H2 => ∃ a C : Addr, x = .ref a ∧ AxC K C ∧ findIn K (.ref C) f = some none ∧
  ((H2 a = some (exo a C none) ∧ AxNew H2 a C f y (D.nx σ)) ∨ ∃ (dx : Addr) (fs : List (Str × V)), H2 a = some (exo a C (some dx)) ∧ H2 dx = some (exd dx fs) ∧ fs.length ≤ 900 ∧ AxOld H2 a dx fs f y (D.nx σ))
section
variable {X : Cx} {o e : Expr} {es : List Expr} {to te : TE} {ta : TA} {f : Str} {p p' p1 p2 pos : Pos}
theorem pe_axI {pl : Sem Bool} (hm : X.mg "ArithmeticError" = none) (vV : findCls X.K (.type "ArithmeticError") (.type "type") "__init__" = some (.val (.builtin "ArithmeticError.__init__"))) (ha : PA X (e :: es) ta) (hg : Gl X "ArithmeticError" := by rfl)
    (hc : eval (.Call (.Attribute (.Name "ArithmeticError" p1) "__init__" p2) (e :: es) [] pos) X.env = (do
      let ov ← eval (.Name "ArithmeticError" p1) X.env
      standAt p2.atName
      let (f, first) ← holding [ov] (getMethod ov "__init__" pl)
      callWith pos f first (backTo pos (starEach (e :: es) X.env)) (backToKw pos (keywordEach [] X.env))) := by rfl)
    (he : starEach (e :: es) X.env = (false, eval e X.env) :: starEach es X.env := by rfl) (hpl : (backTo pos (starEach es X.env)).any (·.1) = false := by rfl) :
    PE X (.Call (.Attribute (.Name "ArithmeticError" p1) "__init__" p2) (e :: es) [] pos) (tAxI X.K ta) := by
  refine ⟨fun pins s σ H Q I h => methodCall_KW (ld_blt I hg hm PyProof.Rows.Boot.«ArithmeticError» ?_ (by decide) (by decide)) hc⟩
  obtain ⟨m, fr⟩ := I.fr
  refine method_type fr I.ok.mod.kin typ_AE (by decide +kernel) vV (by decide +kernel) ?_
  show wpAny _ _ (callWith pos (Value.builtin "ArithmeticError.__init__") [] (backTo pos (starEach (e :: es) X.env)) []) _ _ _
  refine PyProof.Rows.callWith_method1 (thn (ha.run pos pins _ σ H _ (I.tok _) h) fun us s1 ⟨vs, H1, I1, r1, a, C, ws, ev, hl, T, ea, q⟩ => ?_) he hpl
  subst ev
  cases r1 with
  | @cons _ u0 _ ur ra rr =>
    cases (show u0 = Value.ref a from ra)
    have n := Paired.length rr
    exact ax_init T I1 ea (by rw [← n, sizeLine_eq]; omega) fun s' J => ⟨.non, H1, J, rfl, q⟩
theorem ps_axS (ho : PE X o to) (he : PE X e te) (hs : swapsWith e (some (.Attribute o f p')) pos.line X.env = pure false := by rfl) : PS X (.Assign [.Attribute o f p'] e pos) (tAxS X.K f to te) := by
  refine ⟨fun pins s σ H D I h => plainObj_wpAny_Assign_Attribute (thn (he.run pins s σ H _ I h) fun v s1 ⟨y, H1, I1, r1, q1⟩ => thn (ho.run pins s1 σ H1 _ I1 q1) fun u s2 ⟨x, H2, I2, r2, a, C, ex, T, hno, q⟩ => ?_) hs⟩
  subst ex
  cases (show u = Value.ref a from r2)
  rcases q with ⟨ea, q⟩ | ⟨dx, fs, ea, ed, hl, q⟩
  · exact ax_new T I2 ea hno r1 fun dx s' n ne J => ⟨σ, _, J, q dx _ n ne upd_same ((upd_ne ne).trans upd_same) fun b b1 b2 => (upd_ne b1).trans (upd_ne b2)⟩
  · exact ax_old T I2 ea ed hl hno r1 fun s' J => ⟨σ, _, J, q _ upd_same fun b b1 => upd_ne b1⟩
/-- C(..) of such a class -/
theorem pmk_ax {CX : CXT} {x : Str} {C fI : Addr} {k : Nat} {fd : FuncData} {ps : List Str} {sp : Sp} {ds : List Value} {dvs : List V} (T : AxC X.K C) (iC : findIn X.K (.ref C) "__init__" = some (some (.ref fI))) (tI : typeIn X.K (.ref fI) = some (.type "function"))
    (F1 : FnOk X.prog X.w X.K X.mg X.base CX k fI fd ps sp) (hr : Room (k + 1) X.A) (hb : Binds X.K fd ps ds) (hd : Vals dvs ds) (hx : Passes CX X (fun _ _ _ => False)) (hm : X.mg x = some (.ref C)) (ha : PA X (e :: es) ta) (hg : Gl X x := by rfl)
    (hdb : (x == ("__debug__" : Str)) = false := by decide) (he : starEach (e :: es) X.env = (false, eval e X.env) :: starEach es X.env := by rfl) (hpl : (backTo pos (starEach es X.env)).any (·.1) = false := by rfl) :
    PMk X (.Call (.Name x p) (e :: es) [] pos) (tMkO C sp dvs ta) := by
  intro pins s σ H Q I h
  refine wpAny_Call_Name_kw (ld_glob I hg hm ?_ hdb)
  refine callWith_K (h₀ := X.base) I.ok.mod.kin T.kC (thn (ha.run pos pins s σ H _ I h) fun us s1 ⟨vs, H1, I1, r1, hz, q1⟩ => ⟨I1.kIn, ?_⟩) he hpl
  show wpAny _ _ (call (.ref C) us) _ _ _
  obtain ⟨hp, gg, dr, tk, oo⟩ := s1
  obtain ⟨nm, N, qn, bs, bm, hdc, sn, sub, ab, col, dd, k0, k1, k2, k3, k5, hC, hT⟩ := excInit_of I1.kIn T.ini
  have le1 : hp.objs.size ≤ hp.objs.size + 1 := Nat.le_succ _
  have free1 : H1 (hp.objs.size + 1) = none := I1.hok.fresh le1
  have todo := q1 (hp.objs.size + 1) free1
  have kp : ∀ b o, hp.get? b = some o → ((hp.push (kdv_tup us)).push (HandSPX.excO C hp.objs.size)).get? b = some o := fun b o z => Heap.get?_push_of_some _ (Heap.get?_push_of_some _ z)
  have at1 : ((hp.push (kdv_tup us)).push (HandSPX.excO C hp.objs.size)).get? (hp.objs.size + 1) = some (HandSPX.excO C hp.objs.size) := by heap_get
  have I2 := I1.laid (t' := tk) (a := hp.objs.size + 1) (o := exo (hp.objs.size + 1) C none) (h' := (hp.push (kdv_tup us)).push (HandSPX.excO C hp.objs.size)) kp le1 (exo_ok at1)
  have rels : Vals (V.ref (hp.objs.size + 1) :: (vs ++ dvs)) (Value.ref (hp.objs.size + 1) :: (us ++ ds)) := .cons rfl (r1.append hd)
  have len : (Value.ref (hp.objs.size + 1) :: us ++ ds).length = ps.length := by
    have z := rels.length
    rw [F1.len _ _ _ _ todo] at z
    exact z.symm
  have lus : us.length ≤ sizeLine := by
    have z := Paired.length r1
    rw [sizeLine_eq]
    omega
  have fun1 := F1.run _ X.stack _ _ ⟨Value.ref (hp.objs.size + 1) :: us, []⟩ (Value.ref (hp.objs.size + 1) :: (us ++ ds)) _ _ (fun _ _ _ => False) (hr.make C us []) (I2.env0.make C us []) (hb _ (Value.ref (hp.objs.size + 1) :: us) I2.kIn len) rels todo
  refine wpAny_call (HandSPX.call_own PySem.F.excBase_ArithmeticError hT hC (looks_findIn I1.kIn iC) (fun self => bind_fn I1.kIn self tI) lus (codeAny_mono fun1 fun r s' z => ?_))
  cases r with
  | error er => exact hx pins σ _ _ er s' I2 z
  | ok fl =>
    cases fl
    case ret u =>
      obtain ⟨v, H2, os2, bare2, un2, hok2, rv, ev, d, fs, ea, ed, hd1, q2⟩ := z
      subst ev
      obtain ⟨h2, g2, d2, t2, o2⟩ := s'
      exact ⟨rv, mk_end (raises_own T.exC T.tyC) I1 le1 kp un2 hok2 os2 bare2 ea ed hd1 q2⟩
    all_goals exact False.elim z
end
end Up

set_option Elab.async false
set_option linter.all false
set_option maxRecDepth 100000
set_option maxHeartbeats 4000000
namespace Up
open PySem PySem.Spec PyProof.Rows L2
/-! ### the source of draws: a list of three ints that each draw changes -/
def Well (H : Hp) (w : Addr) : Prop := ∃ a b c : Int, H w = some (.lst [.int a, .int b, .int c]) ∧ 0 ≤ a ∧ 0 ≤ b ∧ b < 2147483647 ∧ 0 ≤ c
/-- all but the list at w stands -/
def Stp (w : Addr) (H H' : Hp) : Prop := ∀ b o, b ≠ w → H b = some o → H' b = some o
theorem Stp.refl (w : Addr) (H : Hp) : Stp w H H := fun _ _ _ h => h
theorem Stp.trans {w : Addr} {H H1 H2 : Hp} (a : Stp w H H1) (b : Stp w H1 H2) : Stp w H H2 := fun c o n h => b c o n (a c o n h)
theorem Stp.of {w : Addr} {H H' : Hp} (s : Same H H') : Stp w H H' := fun b o _ h => s b o h
theorem Well.same {w : Addr} {H H' : Hp} (h : Well H w) (s : Same H H') : Well H' w := by
  obtain ⟨a, b, c, h, r⟩ := h
  exact ⟨a, b, c, s _ _ h, r⟩
theorem Well.ne_none {w p : Addr} {H : Hp} (h : Well H w) (n : H p = none) : p ≠ w := by
  obtain ⟨a, b, c, h, _⟩ := h
  exact fun z => by rw [z, h] at n; cases n
/-- a place that holds no list -/
theorem Well.ne {w p : Addr} {H : Hp} {o : HO} (h : Well H w) (e : H p = some o) (n : ∀ xs, o ≠ .lst xs) : p ≠ w := by
  obtain ⟨a, b, c, h, _⟩ := h
  exact fun z => by
    rw [z, h] at e
    exact n _ (Option.some.inj e).symm
theorem Stp.ins {w p C dx : Addr} {H H' : Hp} {fs : List (Str × V)} (s : Stp w H H') (h : Well H w) (e : H p = some (.ins C dx fs)) : H' p = some (.ins C dx fs) := s _ _ (h.ne e fun _ z => by cases z) e
theorem Stp.free {w p : Addr} {H H' : Hp} (s : Stp w H H') (h : Well H' w) (e : H' p = none) : H p = none := by
  cases q : H p with
  | none => rfl
  | some o =>
    have n : p ≠ w := h.ne_none e
    rw [s p o n q] at e
    cases e
end Up

set_option Elab.async false
set_option linter.all false
set_option maxRecDepth 100000
set_option maxHeartbeats 4000000
namespace Up
open PySem PySem.Spec PyProof.Rows L2
/-! ### what the head's one Bool says of a class -/
def ownB (K : PySem.W.Frag) (C : Addr) : Bool :=
  PySem.W.plainGet K C Str.empty && (PySem.W.hasDictIn K C && (PySem.W.plainOver K C && (decide (PySem.W.findIn K (.ref C) "__setattr__" = some (some (.builtin "object.__setattr__"))) &&
  (decide (PySem.W.findIn K (.ref C) "__class__" = some (some (.builtin "object.__class__"))) && (decide (PySem.W.specialIn K (.builtin "object.__class__") "__get__" = some (some (.builtin "getset_descriptor.__get__"))) &&
  (decide (PySem.W.takesIn K (.builtin "object.__class__") = some true) && (decide (PySem.W.mroIn K C (.type "object") = some true) && (decide (PySem.W.kitOne K (.ref C) (.type "int") = some false) &&
  (decide (PySem.W.kitOne K (.ref C) (.type "bool") = some false) && decide (PySem.W.kitOne K (.ref C) (.type "str") = some false))))))))))
theorem ownB_ok {K : PySem.W.Frag} {C : Addr} (h : ownB K C = true) : OwnC K C := by
  unfold ownB at h
  simp only [Bool.and_eq_true, decide_eq_true_eq] at h
  obtain ⟨h1, h2, h3, h4, h5, h6, h7, h8, h9, h10, h11⟩ := h
  exact ⟨⟨h1, h2, h3, h4⟩, h5, h6, h7, h8, h9, h10, h11⟩
def idB (K : PySem.W.Frag) (C : Addr) : Bool := decide (PySem.W.mroIn K C (.type "object") = some true) && (decide (PySem.W.findIn K (.ref C) "__eq__" = some (some (.builtin "object.__eq__"))) && decide (PySem.W.subIn K (.ref C) (.type "NoneType") = some false))
theorem idB_ok {K : PySem.W.Frag} {C : Addr} (h : idB K C = true) : IdC K C := by
  unfold idB at h
  simp only [Bool.and_eq_true, decide_eq_true_eq] at h
  exact ⟨h.1, h.2.1, h.2.2⟩
def noB (K : PySem.W.Frag) (C : Addr) (xs : List Str) : Bool := xs.all fun f => decide (PySem.W.findIn K (.ref C) f = some none)
theorem noB_ok {K : PySem.W.Frag} {C : Addr} {xs : List Str} (h : noB K C xs = true) {f : Str} (hf : f ∈ xs) : NoAttr K C f := by
  have e := List.all_eq_true.mp h f hf
  exact of_decide_eq_true (p := PySem.W.findIn K (.ref C) f = some none) e
/-- isinstance(a value of the kind T, the class at C) is b -/
def kitB' (K : PySem.W.Frag) (C : Addr) (b : Bool) (xs : List Value) : Bool := xs.all fun t => decide (PySem.W.kitOne K t (.ref C) = some b)
theorem kitB'_ok {K : PySem.W.Frag} {C : Addr} {b : Bool} {xs : List Value} (h : kitB' K C b xs = true) {t : Value} (ht : t ∈ xs) : PySem.W.kitOne K t (.ref C) = some b := of_decide_eq_true (List.all_eq_true.mp h t ht)
section
variable {P : Program} {w : World} {K : PySem.W.Frag} {mg : Str → Option Value} {base : Heap}
/-- a def by its promise, from the head's facts -/
theorem fn_mk {CX : CXT} {k : Nat} {x y qual : Str} {params : Arguments} {body : List Stmt} {scope : Scope} {f : Addr} {fd : FuncData} {ps : List Str} {sp : Sp} (F : FunD K y qual params body scope [] [] f fd) (hm : mg x = some (.ref f)) (ok : FnOk P w K mg base CX k f fd ps sp)
    (h : ∀ (kV doc pm : Value) (an : Option Addr) (cdv ct : Value) (us : List Value), us.length = ps.length → bindArgs (PySem.W.fnOf y qual params body scope .none kV doc pm an cdv ct) ⟨us, []⟩ = pure (ps.zip us)) : Fn P w K mg base CX k x ps [] sp :=
  ⟨f, fd, [], ok, hm, F.kp, F.bindsN h, .nil⟩
theorem mt_mk {CX : CXT} {k : Nat} {m qual : Str} {params : Arguments} {body : List Stmt} {scope : Scope} {f C : Addr} {fd : FuncData} {ps : List Str} {sp : Sp} (F : FunD K m qual params body scope [] [] f fd) (hm : Meth K C m f) (cl : Cls K C) (ok : FnOk P w K mg base CX k f fd ps sp)
    (h : ∀ (kV doc pm : Value) (an : Option Addr) (cdv ct : Value) (us : List Value), us.length = ps.length → bindArgs (PySem.W.fnOf m qual params body scope .none kV doc pm an cdv ct) ⟨us, []⟩ = pure (ps.zip us)) : Mt P w K mg base CX k C m ps sp :=
  ⟨f, fd, ok, hm, F.bindsN h, cl⟩
theorem cn_mk {CX : CXT} {k : Nat} {x qual : Str} {params : Arguments} {body : List Stmt} {scope : Scope} {f C : Addr} {fd : FuncData} {ps : List Str} {sp : Sp} (F : FunD K "__init__" qual params body scope [] [] f fd) (hM : Mk K C f) (hm : mg x = some (.ref C)) (ok : FnOk P w K mg base CX k f fd ps sp)
    (h : ∀ (kV doc pm : Value) (an : Option Addr) (cdv ct : Value) (us : List Value), us.length = ps.length → bindArgs (PySem.W.fnOf "__init__" qual params body scope .none kV doc pm an cdv ct) ⟨us, []⟩ = pure (ps.zip us)) : Cn P w K mg base CX k x C ps [] sp :=
  ⟨f, fd, [], ok, hM, hm, F.bindsN h, .nil⟩
end
end Up

set_option Elab.async false
set_option linter.all false
set_option maxRecDepth 100000
set_option maxHeartbeats 4000000
namespace Up
open PySem
/-! ### numbers of bits, the lowest bit -/
def bitsN (n : Nat) : Nat := if n = 0 then 0 else n.log2 + 1
theorem intBits_nat (n : Nat) : Builtin.Int.intBits (n : Int) = bitsN n := by
  unfold Builtin.Int.intBits bitsN
  by_cases h : n = 0
  · subst h; rfl
  · rw [if_neg h, if_neg (by simpa using h)]
    simp
theorem intBits_neg (n : Int) : Builtin.Int.intBits n = bitsN n.natAbs := by
  unfold Builtin.Int.intBits bitsN
  by_cases h : n = 0
  · subst h; rfl
  · rw [if_neg (by simpa using h), if_neg (by simpa using h)]
theorem bits_lt (n : Nat) : n < 2 ^ bitsN n := by
  unfold bitsN
  by_cases h : n = 0
  · subst h; decide
  · rw [if_neg h]; exact Nat.lt_log2_self
theorem bits_ge {n : Nat} (h : n ≠ 0) : 2 ^ (bitsN n - 1) ≤ n := by
  unfold bitsN
  rw [if_neg h]
  exact Nat.log2_self_le h
theorem bits_le {n k : Nat} (h : n < 2 ^ k) : bitsN n ≤ k := by
  unfold bitsN
  by_cases h0 : n = 0
  · rw [if_pos h0]; exact Nat.zero_le _
  · rw [if_neg h0]
    exact (Nat.log2_lt h0).mpr h
theorem le_bits {n k : Nat} (h : 2 ^ k ≤ n) : k + 1 ≤ bitsN n := by
  rcases Nat.lt_or_ge k (bitsN n) with h1 | h1
  · exact h1
  · have h2 := bits_lt n
    have h3 : 2 ^ bitsN n ≤ 2 ^ k := Nat.pow_le_pow_right (by decide) h1
    omega
theorem bits_pow (k : Nat) : bitsN (2 ^ k) = k + 1 := by
  have h1 := le_bits (n := 2 ^ k) (k := k) (Nat.le_refl _)
  have h2 := bits_le (n := 2 ^ k) (k := k + 1) (Nat.pow_lt_pow_right (by decide) (Nat.lt_succ_self k))
  omega
theorem bits_pos {n : Nat} (h : n ≠ 0) : 1 ≤ bitsN n := by
  unfold bitsN; rw [if_neg h]; omega
def tz (n : Nat) : Nat := if h : n = 0 then 0 else if n % 2 = 1 then 0 else tz (n / 2) + 1
termination_by n
decreasing_by omega
theorem tz_odd {n : Nat} (h : n % 2 = 1) : tz n = 0 := by
  unfold tz
  rw [dif_neg (by omega), if_pos h]
theorem tz_even {n : Nat} (h0 : n ≠ 0) (h : n % 2 = 0) : tz n = tz (n / 2) + 1 := by
  rw [tz, dif_neg h0, if_neg (by omega)]
theorem land_two (a b : Nat) : a &&& b = 2 * ((a / 2) &&& (b / 2)) + (a % 2) * (b % 2) := by
  have h1 : (a &&& b) / 2 = (a / 2) &&& (b / 2) := Nat.and_div_two ..
  have h2 : (a &&& b) % 2 = (a % 2) * (b % 2) := by
    have e := Nat.and_mod_two_pow (a := a) (b := b) (n := 1)
    simp only [Nat.pow_one] at e
    rw [e]
    rcases Nat.mod_two_eq_zero_or_one a with ha | ha <;> rcases Nat.mod_two_eq_zero_or_one b with hb | hb <;> rw [ha, hb] <;> rfl
  omega
theorem land_pred : ∀ (n : Nat), n ≠ 0 → n &&& (n - 1) = n - 2 ^ tz n ∧ 2 ^ tz n ≤ n ∧ n / 2 ^ tz n % 2 = 1 ∧ n / 2 ^ tz n * 2 ^ tz n = n := by
  intro n
  induction n using Nat.strongRecOn with
  | _ n ih =>
    intro h0
    rcases Nat.mod_two_eq_zero_or_one n with he | ho
    · obtain ⟨i1, i2, i3, i4⟩ := ih (n / 2) (by omega) (by omega)
      rw [tz_even h0 he, Nat.pow_succ]
      have e2 : (n - 1) / 2 = n / 2 - 1 := by omega
      have ep : n / (2 ^ tz (n / 2) * 2) = n / 2 / 2 ^ tz (n / 2) := by rw [Nat.mul_comm, Nat.div_div_eq_div_mul]
      refine ⟨?_, by omega, by rw [ep]; exact i3, ?_⟩
      · rw [land_two n (n - 1), e2, i1, he, Nat.zero_mul]
        omega
      · rw [ep, ← Nat.mul_assoc, i4]
        omega
    · rw [tz_odd ho]
      refine ⟨?_, by omega, by simpa using ho, by simp⟩
      rw [land_two n (n - 1)]
      have e2 : (n - 1) / 2 = n / 2 := by omega
      have e3 : (n - 1) % 2 = 0 := by omega
      rw [e2, e3, Nat.and_self, Nat.mul_zero]
      omega
theorem low_bit {n : Nat} (h : n ≠ 0) : Builtin.bitAnd (n : Int) (0 - (n : Int)) = ((2 ^ tz n : Nat) : Int) := by
  rw [PyProof.Rows.bitAnd_pn (by omega) (by omega)]
  have e : (Builtin.bitNot (0 - (n : Int))).toNat = n - 1 := by unfold Builtin.bitNot; omega
  obtain ⟨i1, i2, _⟩ := land_pred n h
  rw [e, Int.toNat_natCast, i1]
  omega
theorem low_bits {n : Nat} (h : n ≠ 0) : ((Builtin.Int.intBits (Builtin.bitAnd (n : Int) (0 - (n : Int))) : Nat) : Int) - 1 = (tz n : Int) := by
  rw [low_bit h, intBits_nat, bits_pow]
  omega
theorem bits_shift {n : Nat} (h : n ≠ 0) : bitsN (n / 2 ^ tz n) + tz n = bitsN n := by
  obtain ⟨_, _, i3, i4⟩ := land_pred n h
  have hm : n / 2 ^ tz n ≠ 0 := by intro z; rw [z] at i3; omega
  generalize n / 2 ^ tz n = m at *
  generalize tz n = v at *
  have h1 := bits_lt m
  have h2 := bits_ge hm
  have h3 := bits_pos hm
  have a : bitsN n ≤ bitsN m + v := bits_le (by
    rw [← i4, Nat.pow_add]
    exact Nat.mul_lt_mul_of_pos_right h1 (Nat.two_pow_pos _))
  have b : bitsN m - 1 + v + 1 ≤ bitsN n := le_bits (by
    rw [← i4, Nat.pow_add]
    exact Nat.mul_le_mul_right _ h2)
  omega
end Up

set_option Elab.async false
set_option linter.all false
set_option maxRecDepth 100000
set_option maxHeartbeats 4000000
namespace Up
open PySem
/-! ### the nearest float to a fraction: power, scaled parts, rounding -/
def nrP (t b : Nat) : Int := if (-1074 : Int) > (bitsN t : Int) - (bitsN b : Int) - 53 then -1074 else (bitsN t : Int) - (bitsN b : Int) - 53
def nrT (t : Nat) (p : Int) : Nat := if p < 0 then t * 2 ^ (0 - p).toNat else t
def nrB (b : Nat) (p : Int) : Nat := if p < 0 then b else b * 2 ^ p.toNat
def nrBig (t b : Nat) : Bool := decide (9007199254740992 ≤ nrT t (nrP t b) / nrB b (nrP t b))
def nrB2 (t b : Nat) : Nat := if nrBig t b then nrB b (nrP t b) * 2 else nrB b (nrP t b)
def nrP2 (t b : Nat) : Int := if nrBig t b then nrP t b + 1 else nrP t b
def nrQ (t b : Nat) : Nat := nrT t (nrP t b) / nrB2 t b
def nrR (t b : Nat) : Nat := nrT t (nrP t b) % nrB2 t b
def nrUp (t b : Nat) : Bool := decide (nrB2 t b < 2 * nrR t b) || (decide (2 * nrR t b = nrB2 t b) && decide (nrQ t b % 2 = 1))
def nrW (t b : Nat) : Nat := if nrUp t b then nrQ t b + 1 else nrQ t b
theorem nrP_lo (t b : Nat) : -1074 ≤ nrP t b := by unfold nrP; split <;> omega
theorem nrP_ge (t b : Nat) : (bitsN t : Int) - (bitsN b : Int) - 53 ≤ nrP t b := by unfold nrP; split <;> omega
theorem nrP_hi {t b : Nat} : nrP t b ≤ bitsN t := by unfold nrP; split <;> omega
theorem nrB_pos {b : Nat} (hb : 0 < b) (p : Int) : 0 < nrB b p := by
  unfold nrB; split
  · exact hb
  · exact Nat.mul_pos hb (Nat.two_pow_pos _)
theorem nrB2_pos {t b : Nat} (hb : 0 < b) : 0 < nrB2 t b := by
  unfold nrB2; split
  · exact Nat.mul_pos (nrB_pos hb _) (by decide)
  · exact nrB_pos hb _
/-- the scaled quotient is below 2 ^ 54 -/
theorem nr_lt54 {t b : Nat} (hb : 0 < b) : nrT t (nrP t b) / nrB b (nrP t b) < 2 ^ 54 := by
  rw [Nat.div_lt_iff_lt_mul (nrB_pos hb _)]
  have h1 := bits_lt t
  have h2 := bits_ge (n := b) (by omega)
  have h3 := bits_pos (n := b) (by omega)
  have h4 := nrP_ge t b
  unfold nrT nrB
  by_cases hp : nrP t b < 0
  · rw [if_pos hp, if_pos hp]
    have e1 : t * 2 ^ (0 - nrP t b).toNat < 2 ^ (bitsN t) * 2 ^ (0 - nrP t b).toNat := Nat.mul_lt_mul_of_pos_right h1 (Nat.two_pow_pos _)
    rw [← Nat.pow_add] at e1
    have e2 : 2 ^ (bitsN t + (0 - nrP t b).toNat) ≤ 2 ^ (54 + (bitsN b - 1)) := Nat.pow_le_pow_right (by decide) (by omega)
    rw [Nat.pow_add 2 54] at e2
    have e3 : 2 ^ 54 * 2 ^ (bitsN b - 1) ≤ 2 ^ 54 * b := Nat.mul_le_mul_left _ h2
    omega
  · rw [if_neg hp, if_neg hp]
    have e2 : 2 ^ bitsN t ≤ 2 ^ (54 + ((bitsN b - 1) + (nrP t b).toNat)) := Nat.pow_le_pow_right (by decide) (by omega)
    rw [Nat.pow_add 2 54, Nat.pow_add 2 (bitsN b - 1)] at e2
    have e3 : 2 ^ (bitsN b - 1) * 2 ^ (nrP t b).toNat ≤ b * 2 ^ (nrP t b).toNat := Nat.mul_le_mul_right _ h2
    have e4 : 2 ^ 54 * (2 ^ (bitsN b - 1) * 2 ^ (nrP t b).toNat) ≤ 2 ^ 54 * (b * 2 ^ (nrP t b).toNat) := Nat.mul_le_mul_left _ e3
    omega
theorem nrQ_lt {t b : Nat} (hb : 0 < b) : nrQ t b < 2 ^ 53 := by
  have h := nr_lt54 (t := t) hb
  unfold nrQ nrB2
  by_cases hg : nrBig t b = true
  · rw [if_pos hg, ← Nat.div_div_eq_div_mul]
    omega
  · rw [if_neg hg]
    have h2 : ¬ 9007199254740992 ≤ nrT t (nrP t b) / nrB b (nrP t b) := fun z => hg (decide_eq_true z)
    omega
theorem nrW_le {t b : Nat} (hb : 0 < b) : nrW t b ≤ 2 ^ 53 := by
  have h := nrQ_lt (t := t) hb
  unfold nrW; split <;> omega
theorem nrP2_lo (t b : Nat) : -1074 ≤ nrP2 t b := by
  have := nrP_lo t b
  unfold nrP2; split <;> omega
theorem nrB2_bits {t b m : Nat} (h1 : bitsN t ≤ m) (h2 : bitsN b ≤ m) (hb : 0 < b) : nrB2 t b < 2 ^ (m + 1) := by
  have h3 := bits_lt b
  have h4 := bits_pos (n := b) (by omega)
  have hB : nrB b (nrP t b) < 2 ^ m := by
    unfold nrB
    by_cases hp : nrP t b < 0
    · rw [if_pos hp]
      exact Nat.lt_of_lt_of_le h3 (Nat.pow_le_pow_right (by decide) h2)
    · rw [if_neg hp]
      have hx : nrP t b = (bitsN t : Int) - (bitsN b : Int) - 53 := by
        have hp' := hp
        unfold nrP at hp' ⊢
        split at hp' <;> rename_i hc
        · omega
        · rw [if_neg hc]
      have e1 : b * 2 ^ (nrP t b).toNat < 2 ^ bitsN b * 2 ^ (nrP t b).toNat := Nat.mul_lt_mul_of_pos_right h3 (Nat.two_pow_pos _)
      rw [← Nat.pow_add] at e1
      exact Nat.lt_of_lt_of_le e1 (Nat.pow_le_pow_right (by decide) (by omega))
  unfold nrB2
  rw [Nat.pow_succ]
  split <;> omega
end Up

set_option Elab.async false
set_option linter.all false
set_option maxRecDepth 100000
set_option maxHeartbeats 4000000
namespace Up
open PySem PySem.Spec PyProof.Rows L2
local macro_rules | `(tactic| walk_at "u") => `(tactic| first
  | with_reducible refine g_seq ?_
  | with_reducible refine g_asg ?_
  | with_reducible refine g_op ?_
  | ((with_reducible show tVar _ _ _ _); apply g_var; exact rfl)
  | with_reducible refine g_c ?_
  | with_reducible refine g_name ?_
  | with_reducible refine g_ifs ?_
  | with_reducible refine g_tt ?_
  | with_reducible refine g_tB ?_
  | with_reducible refine g_bl ?_
  | with_reducible refine g_ret ?_
  | with_reducible refine g_cb ?_
  | with_reducible refine g_cons ?_
  | with_reducible refine g_nil ?_
  | with_reducible refine g_call ?_
  | with_reducible refine g_and ?_
  | with_reducible refine g_or ?_
  | with_reducible refine g_not ?_
  | with_reducible refine g_andV ?_
  | with_reducible refine g_orV ?_
  | with_reducible refine g_notV ?_
  | with_reducible refine g_if ?_
  | with_reducible refine g_un ?_
  | with_reducible refine g_neg ?_
  | with_reducible refine g_addI ?_
  | with_reducible refine g_subI ?_
  | with_reducible refine g_subB ?_
  | with_reducible refine g_I0 ?_
  | with_reducible refine g_cmpI ?_
  | with_reducible refine g_eqI ?_
  | with_reducible refine g_neI ?_
  | with_reducible refine g_eqS ?_
  | with_reducible refine g_neS ?_
  | with_reducible refine g_eqB ?_
  | with_reducible refine g_neB ?_
  | with_reducible refine g_bits ?_
  | with_reducible refine g_bitsI ?_
  | with_reducible refine g_fld ?_
  | with_reducible refine g_tup ?_
  | with_reducible refine g_lst ?_
  | with_reducible refine g_gtup ?_
  | with_reducible refine g_make ?_
  | with_reducible refine g_lc ?_
  | with_reducible refine g_yesT ?_
  | with_reducible refine g_intI ?_
  | with_reducible refine g_intB ?_
  | with_reducible refine g_max2 ?_
  | with_reducible refine g_abs1 ?_
  | with_reducible refine g_for ?_
  | with_reducible refine g_iList ?_
  | with_reducible refine g_iTup ?_
  | with_reducible refine g_iRng1 ?_
  | with_reducible refine g_iEnum ?_
  | with_reducible refine g_slice ?_
  | with_reducible refine g_po0 ?_
  | with_reducible refine g_po1 ?_
  | with_reducible refine g_gsub ?_
  | with_reducible refine g_par ?_
  | with_reducible refine g_par2 ?_
  | with_reducible refine g_rfl ?_
  | with_reducible refine g_meth ?_
  | with_reducible refine g_gcons ?_
  | with_reducible refine g_gnil ?_
  | with_reducible refine g_gfld ?_
  | with_reducible refine g_sfld ?_
  | with_reducible refine g_drop ?_
  | with_reducible refine g_next ?_
  | with_reducible refine iteT ?_
  | with_reducible refine iteF ?_)
local macro_rules | `(tactic| walk_at "go") => `(tactic| (repeat walk_at "u"))

def top (i : Nat) : Stmt := PySem.Challenge.pw_upvalues_k08_rounds_of_numbers.main.body.getD i (.Pass ⟨0, 0, 0, 0⟩)
section
variable {P : Program} {w : World} {K : PySem.W.Frag} {mg : Str → Option Value} {base : Heap}
/-! is_plain -/
abbrev s_isplain : Stmt := top 13
theorem sc_isplain : FnScope ["number"] ["number"] (defScope s_isplain) := ⟨rfl, rfl, rfl, by decide +kernel, rfl, by decide +kernel, by decide +kernel⟩
def sp_isplain (K : PySem.W.Frag) : Sp := fun vs H Q _ => ∃ x t, vs = [x] ∧ Kn K H x t ∧ Q (.bl (isI x)) H
theorem ok_isplain {f : Addr} {fd : FuncData} (F : FunD K "is_plain" "is_plain" (defArgs s_isplain) (defBody s_isplain) (defScope s_isplain) [] [] f fd) (B : Blt mg) : FnOk P w K mg base CX0 1 f fd ["number"] (sp_isplain K) := by
  refine F.ok sc_isplain (fun vs H Q E h => ?_) (fun cdv A outer s H vs Q E hr h => ?_)
  · obtain ⟨x, t, rfl, _⟩ := h; rfl
  · obtain ⟨x, t, rfl, hk, q⟩ := h
    refine ⟨_, PSs.nox (pss_one (ps_ret (pe_and (pe_callB call_isi (by rfl) B.isinstance (by decide +kernel) (pa_cons (pv 0) (pa_cons (pe_tyInt B) pa_nil))) (pe_one (pe_not (pe_callB call_isi (by rfl) B.isinstance (by decide +kernel) (pa_cons (pv 0) (pa_cons (pe_tyBool B) pa_nil)))))))), ?_⟩
    walk_at "go"
    refine g_isiInt hk ?_
    walk_at "go"
    cases x <;> first | exact iteF q | (refine iteT ?_; walk_at "go"; refine g_isiBool hk ?_; walk_at "go"; exact q)
/-! reduced -/
abbrev s_reduced : Stmt := top 14
theorem sc_reduced : FnScope ["top", "power", "less"] ["top", "power"] (defScope s_reduced) := ⟨rfl, rfl, rfl, by decide +kernel, rfl, by decide +kernel, by decide +kernel⟩
/-- the lowest bit's place -/
def lowB (n : Int) : Int := ((Builtin.Int.intBits (Builtin.bitAnd n (0 - n)) : Nat) : Int) - 1
def redV : V → Int → V × Int
  | .int n, p => if n = 0 then (.int 0, 0) else (.int (n / 2 ^ (lowB n).toNat), p + lowB n)
  | v, _ => (v, 0)
def isIN (x : V) : Prop := x = .str "inf" ∨ x = .str "nan"
theorem inf_nan : ¬ (("inf" : Str) = "nan") := by decide +kernel
def sp_reduced : Sp := fun vs H Q _ => ∃ x p, vs = [x, .int p] ∧ (isIN x ∨ ∃ n, x = .int n ∧ (n ≠ 0 → 0 ≤ lowB n)) ∧ RetT H [(redV x p).1, .int (redV x p).2] Q
theorem ok_reduced {f : Addr} {fd : FuncData} (F : FunD K "reduced" "reduced" (defArgs s_reduced) (defBody s_reduced) (defScope s_reduced) [] [] f fd) (B : Blt mg) : FnOk P w K mg base CX0 1 f fd ["top", "power"] sp_reduced := by
  refine F.ok sc_reduced (fun vs H Q E h => ?_) (fun cdv A outer s H vs Q E hr h => ?_)
  · obtain ⟨x, t, rfl, _⟩ := h; rfl
  · obtain ⟨x, p, rfl, hx, q⟩ := h
    refine ⟨_, PSs.nox (pss_cons (ps_if (PW.pt (pw_or (pt_cmpR op_in_seq (pv 0) (pe_tupN (pa_cons pe_str (pa_cons pe_str pa_nil))) (by rfl)) (pw_or1 (pt_cmpR (op_oEq hr.units) (pv 0) pe_int (nomark _))))) (pss_one (ps_ret (pe_tupN (pa_cons (pv 0) (pa_cons pe_int pa_nil))))) pss_nil)
  (pss_cons (ps_set (i := 2) sc_reduced.nd rfl (Or.inl rfl) (pe_op op_oSub (pe_bits (pe_op op_oAnd (pv 0) (pe_op op_oSub pe_int (pv 0)))) pe_int))
  (pss_one (ps_ret (pe_tupN (pa_cons (pe_op op_oShr (pv 0) (pv 2)) (pa_cons (pe_op op_oAdd (pv 1) (pv 2)) pa_nil))))))), ?_⟩
    walk_at "go"
    refine g_new (sz rfl) fun a H1 na s1 ha _ => ?_
    rcases hx with (rfl | rfl) | ⟨n, rfl, hn⟩
    · refine ⟨a, _, rfl, .inr (SqT.of ha), rfl, rfl, ?_⟩
      walk_at "go"
      refine iteT ?_
      walk_at "go"
      refine g_new (sz rfl) fun b H2 nb s2 hb _ => ?_
      exact q _ _ (s1.free nb) (s1.trans s2) hb
    · refine ⟨a, _, rfl, .inr (SqT.of ha), rfl, rfl, ?_⟩
      walk_at "go"
      refine iteT ?_
      walk_at "go"
      refine g_new (sz rfl) fun b H2 nb s2 hb _ => ?_
      exact q _ _ (s1.free nb) (s1.trans s2) hb
    · refine ⟨a, _, rfl, .inr (SqT.of ha), rfl, rfl, ?_⟩
      walk_at "go"
      refine iteF ?_
      walk_at "go"
      refine g_ite (fun h0 => ?_) fun h0 => ?_
      · walk_at "go"
        refine g_new (sz rfl) fun b H2 nb s2 hb _ => ?_
        subst h0
        exact q _ _ (s1.free nb) (s1.trans s2) hb
      · walk_at "go"
        refine g_II (hn h0) ?_
        walk_at "go"
        refine g_new (sz rfl) fun b H2 nb s2 hb _ => ?_
        have e : redV (.int n) p = (.int (n / 2 ^ (lowB n).toNat), p + lowB n) := if_neg h0
        rw [e] at q
        exact q _ _ (s1.free nb) (s1.trans s2) hb
/-! fits -/
abbrev s_fits : Stmt := top 15
theorem sc_fits : FnScope ["top", "power"] ["top", "power"] (defScope s_fits) := ⟨rfl, rfl, rfl, by decide +kernel, rfl, by decide +kernel, by decide +kernel⟩
def fitsB (n p : Int) : Bool := (decide (n < 9007199254740992) && (decide (-1074 ≤ p) && decide (((Builtin.Int.intBits n : Nat) : Int) + p ≤ 1024))) || decide (n = 0)
def sp_fits : Sp := fun vs H Q _ => ∃ n p, vs = [.int n, .int p] ∧ Q (.bl (fitsB n p)) H
theorem ok_fits {f : Addr} {fd : FuncData} (F : FunD K "fits" "fits" (defArgs s_fits) (defBody s_fits) (defScope s_fits) [] [] f fd) (B : Blt mg) (i_ROOM : ∃ t, mg "ROOM" = some (.int 9007199254740992 t)) (i_LOWEST : ∃ t, mg "LOWEST" = some (.int (-1074) t)) (i_TOO_GREAT : ∃ t, mg "TOO_GREAT" = some (.int 1024 t)) :
    FnOk P w K mg base CX0 1 f fd ["top", "power"] sp_fits := by
  refine F.ok sc_fits (fun vs H Q E h => ?_) (fun cdv A outer s H vs Q E hr h => ?_)
  · obtain ⟨x, t, rfl, _⟩ := h; rfl
  · obtain ⟨n, p, rfl, q⟩ := h
    refine ⟨_, PSs.nox (pss_one (ps_ret (pe_or (pe_and (pe_cmpR op_oLt (pv 0) (pe_gint i_ROOM) (nomark _)) (pe_and (pe_cmpR op_oGe (pv 1) (pe_gint i_LOWEST) (nomark _)) (pe_one (pe_cmpR op_oLe (pe_op op_oAdd (pe_bits (pv 0)) (pv 1)) (pe_gint i_TOO_GREAT) (nomark _))))) (pe_one (pe_cmpR (op_oEq hr.units) (pv 0) pe_int (nomark _)))))), ?_⟩
    walk_at "go"
    unfold fitsB at q
    refine g_ite (fun h1 => ?_) fun h1 => ?_
    · walk_at "go"
      refine g_ite (fun h2 => ?_) fun h2 => ?_
      · walk_at "go"
        refine g_ite (fun h3 => ?_) fun h3 => ?_
        · simp only [h1, h2, h3, decide_true, Bool.and_self, Bool.true_or] at q
          exact q
        · walk_at "go"
          simp only [h1, h2, h3, decide_true, decide_false, Bool.and_false, Bool.and_self, Bool.false_or] at q
          exact q
      · walk_at "go"
        simp only [h1, h2, decide_true, decide_false, Bool.and_false, Bool.false_and, Bool.false_or] at q
        exact q
    · walk_at "go"
      simp only [h1, decide_false, Bool.false_and, Bool.false_or] at q
      exact q
/-! sign_of -/
abbrev s_signof : Stmt := top 16
theorem sc_signof : FnScope ["is_negative"] ["is_negative"] (defScope s_signof) := ⟨rfl, rfl, rfl, by decide +kernel, rfl, by decide +kernel, by decide +kernel⟩
def sgnB (b : Bool) : Int := if b then -1 else 1
def sp_signof : Sp := fun vs H Q _ => ∃ b, vs = [.bl b] ∧ Q (.int (sgnB b)) H
theorem ok_signof {f : Addr} {fd : FuncData} (F : FunD K "sign_of" "sign_of" (defArgs s_signof) (defBody s_signof) (defScope s_signof) [] [] f fd) : FnOk P w K mg base CX0 1 f fd ["is_negative"] sp_signof := by
  refine F.ok sc_signof (fun vs H Q E h => ?_) (fun cdv A outer s H vs Q E hr h => ?_)
  · obtain ⟨x, rfl, _⟩ := h; rfl
  · obtain ⟨b, rfl, q⟩ := h
    refine ⟨_, PSs.nox (pss_one (ps_ret (pe_ifExp (pt_val (pv 0)) (pe_un un_neg pe_int) pe_int))), ?_⟩
    walk_at "go"
    cases b
    · refine iteF ?_; walk_at "go"; exact q
    · refine iteT ?_; walk_at "go"; exact q
end
end Up

set_option Elab.async false
set_option linter.all false
set_option maxRecDepth 100000
set_option maxHeartbeats 4000000
namespace Up
open PySem PySem.Spec PyProof.Rows L2
local macro_rules | `(tactic| walk_at "u") => `(tactic| first
  | with_reducible refine g_seq ?_
  | with_reducible refine g_asg ?_
  | with_reducible refine g_op ?_
  | ((with_reducible show tVar _ _ _ _); apply g_var; exact rfl)
  | with_reducible refine g_c ?_
  | with_reducible refine g_name ?_
  | with_reducible refine g_ifs ?_
  | with_reducible refine g_tt ?_
  | with_reducible refine g_tB ?_
  | with_reducible refine g_bl ?_
  | with_reducible refine g_ret ?_
  | with_reducible refine g_cb ?_
  | with_reducible refine g_cons ?_
  | with_reducible refine g_nil ?_
  | with_reducible refine g_call ?_
  | with_reducible refine g_and ?_
  | with_reducible refine g_or ?_
  | with_reducible refine g_not ?_
  | with_reducible refine g_andV ?_
  | with_reducible refine g_orV ?_
  | with_reducible refine g_notV ?_
  | with_reducible refine g_if ?_
  | with_reducible refine g_un ?_
  | with_reducible refine g_neg ?_
  | with_reducible refine g_addI ?_
  | with_reducible refine g_subI ?_
  | with_reducible refine g_subB ?_
  | with_reducible refine g_I0 ?_
  | with_reducible refine g_cmpI ?_
  | with_reducible refine g_eqI ?_
  | with_reducible refine g_neI ?_
  | with_reducible refine g_eqS ?_
  | with_reducible refine g_neS ?_
  | with_reducible refine g_eqB ?_
  | with_reducible refine g_neB ?_
  | with_reducible refine g_bits ?_
  | with_reducible refine g_bitsI ?_
  | with_reducible refine g_fld ?_
  | with_reducible refine g_tup ?_
  | with_reducible refine g_lst ?_
  | with_reducible refine g_gtup ?_
  | with_reducible refine g_make ?_
  | with_reducible refine g_lc ?_
  | with_reducible refine g_yesT ?_
  | with_reducible refine g_intI ?_
  | with_reducible refine g_intB ?_
  | with_reducible refine g_max2 ?_
  | with_reducible refine g_abs1 ?_
  | with_reducible refine g_for ?_
  | with_reducible refine g_iList ?_
  | with_reducible refine g_iTup ?_
  | with_reducible refine g_iRng1 ?_
  | with_reducible refine g_iEnum ?_
  | with_reducible refine g_slice ?_
  | with_reducible refine g_po0 ?_
  | with_reducible refine g_po1 ?_
  | with_reducible refine g_gsub ?_
  | with_reducible refine g_par ?_
  | with_reducible refine g_par2 ?_
  | with_reducible refine g_rfl ?_
  | with_reducible refine g_meth ?_
  | with_reducible refine g_gcons ?_
  | with_reducible refine g_gnil ?_
  | with_reducible refine g_gfld ?_
  | with_reducible refine g_sfld ?_
  | with_reducible refine g_drop ?_
  | with_reducible refine g_next ?_
  | with_reducible refine iteT ?_
  | with_reducible refine iteF ?_)
local macro_rules | `(tactic| walk_at "go") => `(tactic| (repeat walk_at "u"))

/-! ### Float: what its instances are -/
def flF (s : Int) (t : V) (p : Int) : List (Str × V) := [("sign", .int s), ("top", t), ("power", .int p)]
theorem fl_put (s : Int) (t : V) (p : Int) : putF "power" (.int p) (putF "top" t (putF "sign" (.int s) [])) = flF s t p := rfl
theorem fl_sign (s : Int) (t : V) (p : Int) : (flF s t p).lookup ("sign" : Str) = some (.int s) := rfl
theorem fl_top (s : Int) (t : V) (p : Int) : (flF s t p).lookup ("top" : Str) = some t := rfl
theorem fl_power (s : Int) (t : V) (p : Int) : (flF s t p).lookup ("power" : Str) = some (.int p) := rfl
def FlAt (C : Addr) (H : Hp) (a : Addr) (s : Int) (t : V) (p : Int) : Prop := ∃ dx, H a = some (.ins C dx (flF s t p))
theorem FlAt.same {C : Addr} {H H' : Hp} {a : Addr} {s : Int} {t : V} {p : Int} (h : FlAt C H a s t p) (e : Same H H') : FlAt C H' a s t p := by
  obtain ⟨dx, h⟩ := h
  exact ⟨dx, e _ _ h⟩
/-- a right float's parts -/
def FinOk (n p : Int) : Prop := 0 ≤ n ∧ n < 2 ^ 53 ∧ -1074 ≤ p ∧ ((Builtin.Int.intBits n : Nat) : Int) + p ≤ 1024 ∧ (n = 0 → p = 0) ∧ (n ≠ 0 → n % 2 = 1)
def FlOk (s : Int) (t : V) (p : Int) : Prop := (s = 1 ∨ s = -1) ∧ ((t = .str "nan" ∧ s = 1 ∧ p = 0) ∨ (t = .str "inf" ∧ p = 0) ∨ ∃ n, t = .int n ∧ FinOk n p)
/-- what the text says of the class Float, at C -/
structure FlC (K : PySem.W.Frag) (mg : Str → Option Value) (C : Addr) : Prop where
  own : OwnC K C
  nS : NoAttr K C "sign"
  nT : NoAttr K C "top"
  nP : NoAttr K C "power"
  mg : mg "Float" = some (.ref C)
  yes : PySem.W.kitOne K (.ref C) (.ref C) = some true
  fi : PySem.W.kitOne K (.type "int") (.ref C) = some false
  fb : PySem.W.kitOne K (.type "bool") (.ref C) = some false
  fs : PySem.W.kitOne K (.type "str") (.ref C) = some false
  fn : PySem.W.kitOne K (.type "NoneType") (.ref C) = some false
  fl : PySem.W.kitOne K (.type "list") (.ref C) = some false
  ft : PySem.W.kitOne K (.type "tuple") (.ref C) = some false
  fd : PySem.W.kitOne K (.type "dict") (.ref C) = some false
section
variable {P : Program} {w : World} {K : PySem.W.Frag} {mg : Str → Option Value} {base : Heap} {C : Addr}
/-- what Float(s, top, p) asks, and the parts that it gets -/
def MkOk (s : Int) (top : V) (p : Int) : Prop := (s = 1 ∨ s = -1) ∧ ((top = .str "nan" ∧ s = 1 ∧ p = 0) ∨ (top = .str "inf" ∧ p = 0) ∨ ∃ n : Nat, top = .int n ∧ ∃ m, (redV top p).1 = .int m ∧ fitsB m (redV top p).2 = true)
abbrev s_Float_init : Stmt := inClass (top 12) 0
theorem sc_Float_init : FnScope ["self", "sign", "top", "power"] ["self", "sign", "top", "power"] (defScope s_Float_init) := ⟨rfl, rfl, rfl, by decide +kernel, rfl, by decide +kernel, by decide +kernel⟩
def sp_Finit (C : Addr) : Sp := fun vs H Q _ => ∃ a dx s top p, vs = [.ref a, .int s, top, .int p] ∧ H a = some (.ins C dx []) ∧ MkOk s top p ∧
  ∀ H', (∀ b o, b ≠ a → H b = some o → H' b = some o) → H' a = some (.ins C dx (flF s (redV top p).1 (redV top p).2)) → Q .non H'
theorem lowB_nat {n : Nat} (h : n ≠ 0) : lowB (n : Int) = (tz n : Int) := low_bits h
theorem ok_Finit {f : Addr} {fd : FuncData} (F : FunD K "__init__" "Float.__init__" (defArgs s_Float_init) (defBody s_Float_init) (defScope s_Float_init) [] [] f fd) (B : Blt mg) (T : FlC K mg C) (c_isplain : Fn P w K mg base CX0 1 "is_plain" ["number"] [] (sp_isplain K)) (c_reduced : Fn P w K mg base CX0 1 "reduced" ["top", "power"] [] sp_reduced)
    (c_fits : Fn P w K mg base CX0 1 "fits" ["top", "power"] [] sp_fits) : FnOk P w K mg base CX0 2 f fd ["self", "sign", "top", "power"] (sp_Finit C) := by
  refine F.ok sc_Float_init (fun vs H Q E h => ?_) (fun cdv A outer s H vs Q E hr h => ?_)
  · obtain ⟨a, dx, s, top, p, rfl, _⟩ := h; rfl
  · obtain ⟨a, dx, sg, top, p, rfl, ha, ⟨hs, hk⟩, q⟩ := h
    refine ⟨_, PSs.nox (pss_cons (ps_if (PW.pt (pw_or (pt_not (pt_val (pe_fn c_isplain (hr.mono (by decide)) pass0 (pa_cons (pv 1) pa_nil)))) (pw_or1 (pt_cmpR op_notIn_seq (pv 1) (pe_tupN (pa_cons pe_int (pa_cons (pe_un un_neg pe_int) pa_nil))) (by rfl))))) (pss_one ps_never) pss_nil)
  (C8.pss_cut (ps_if (PW.pt (pw_and (pt_val (pe_callB call_isi (by rfl) B.isinstance (by decide +kernel) (pa_cons (pv 2) (pa_cons (pe_tyStr B) pa_nil)))) (pw_and1 (pt_cmpR op_in_seq (pv 2) (pe_tupN (pa_cons pe_str (pa_cons pe_str pa_nil))) (by rfl))))) (pss_cons (ps_if (PW.pt (pw_and (pt_cmpR (op_oEq hr.units) (pv 2) pe_str (nomark _)) (pw_and1 (pt_cmpR (op_oEq hr.units) (pv 1) (pe_un un_neg pe_int) (nomark _))))) (pss_one ps_never) pss_nil)
  (pss_one (ps_if (PW.pt (pw_or (pt_not (pt_val (pe_fn c_isplain (hr.mono (by decide)) pass0 (pa_cons (pv 3) pa_nil)))) (pw_or1 (pt_cmpR (op_oNe hr.units) (pv 3) pe_int (nomark _))))) (pss_one ps_never) pss_nil))) (pss_one (ps_if (PW.pt (pw_or (pt_not (pt_val (pe_fn c_isplain (hr.mono (by decide)) pass0 (pa_cons (pv 2) pa_nil)))) (pw_or1 (pt_cmpR op_oLt (pv 2) pe_int (nomark _))))) (pss_one ps_never) (pss_one (ps_if (pt_not (pt_val (pe_fn c_isplain (hr.mono (by decide)) pass0 (pa_cons (pv 3) pa_nil)))) (pss_one ps_never) pss_nil)))))
  (pss_cons (ps_fld (pv 0) (pv 1) rfl)
  (pss_cons (ps_asg (pe_fn c_reduced (hr.mono (by decide)) pass0 (pa_cons (pv 2) (pa_cons (pv 3) pa_nil))) (pg_tup rfl (pgs_cons (pg_fld (pv 0)) (pgs_cons (pg_fld (pv 0)) pgs_nil))))
  (pss_one (ps_if (PW.pt (pw_and (pt_cmpR op_notIn_seq (pe_fld (pv 0) rfl) (pe_tupN (pa_cons pe_str (pa_cons pe_str pa_nil))) (by rfl)) (pw_and1 (pt_not (pt_val (pe_fn c_fits (hr.mono (by decide)) pass0 (pa_cons (pe_fld (pv 0) rfl) (pa_cons (pe_fld (pv 0) rfl) pa_nil)))))))) (pss_one ps_never) pss_nil)))))), ?_⟩
    walk_at "go"
    refine ⟨_, _, rfl, kn_int, ?_⟩
    walk_at "go"
    refine iteF ?_
    walk_at "go"
    refine g_new (sz rfl) fun a1 H1 na1 s1 ha1 _ => ?_
    refine ⟨a1, _, rfl, .inr (SqT.of ha1), rfl, rfl, ?_⟩
    walk_at "go"
    have hin : (if true = true then !inV (V.int sg) [V.int 1, V.int (-1)] else inV (V.int sg) [V.int 1, V.int (-1)]) = false := by
      rcases hs with rfl | rfl <;> rfl
    rw [hin]
    walk_at "go"
    refine g_cut (fun σ' H2 => σ' = [some (.ref a), some (.int sg), some top, some (.int p)] ∧ Same H1 H2 ∧ (isIN top ∨ ∃ n : Int, top = .int n ∧ (n ≠ 0 → 0 ≤ lowB n)) ∧ (isIN top ∧ (redV top p).1 = top ∨ ∃ m, (redV top p).1 = .int m ∧ fitsB m (redV top p).2 = true)) ?_ ?_
    · walk_at "go"
      rcases hk with ⟨rfl, rfl, rfl⟩ | ⟨rfl, rfl⟩ | ⟨n, rfl, m, hm, hf⟩
      · refine g_isiStr kn_str ?_
        walk_at "go"
        refine iteT ?_
        walk_at "go"
        refine g_new (sz rfl) fun a2 H2 na2 s2 ha2 _ => ?_
        refine ⟨a2, _, rfl, .inr (SqT.of ha2), rfl, rfl, ?_⟩
        walk_at "go"
        refine iteT ?_
        walk_at "go"
        refine g_yes rfl ?_
        walk_at "go"
        refine g_no (by decide) ?_
        walk_at "go"
        refine ⟨_, _, rfl, kn_int, ?_⟩
        walk_at "go"
        refine iteF ?_
        walk_at "go"
        refine iteF ?_
        walk_at "go"
        exact ⟨rfl, s2, .inl (.inr rfl), .inl ⟨.inr rfl, rfl⟩⟩
      · refine g_isiStr kn_str ?_
        walk_at "go"
        refine iteT ?_
        walk_at "go"
        refine g_new (sz rfl) fun a2 H2 na2 s2 ha2 _ => ?_
        refine ⟨a2, _, rfl, .inr (SqT.of ha2), rfl, rfl, ?_⟩
        walk_at "go"
        refine iteT ?_
        walk_at "go"
        refine g_no (by decide +kernel) ?_
        walk_at "go"
        refine ⟨_, _, rfl, kn_int, ?_⟩
        walk_at "go"
        refine iteF ?_
        walk_at "go"
        refine iteF ?_
        walk_at "go"
        exact ⟨rfl, s2, .inl (.inl rfl), .inl ⟨.inl rfl, rfl⟩⟩
      · refine g_isiStr kn_int ?_
        walk_at "go"
        refine iteF ?_
        walk_at "go"
        refine ⟨_, _, rfl, kn_int, ?_⟩
        walk_at "go"
        refine iteF ?_
        walk_at "go"
        refine g_no (by omega) ?_
        walk_at "go"
        refine ⟨_, _, rfl, kn_int, ?_⟩
        walk_at "go"
        refine iteF ?_
        walk_at "go"
        refine ⟨rfl, Same.refl _, .inr ⟨_, rfl, fun h => ?_⟩, .inr ⟨m, hm, hf⟩⟩
        rw [lowB_nat (by omega)]
        omega
    · rintro σ' H2 ⟨rfl, s2, hx, hy⟩
      have h2 := s2 _ _ (s1 _ _ ha)
      walk_at "go"
      refine ⟨a, C, dx, _, rfl, h2, T.own.cl, T.nS, Nat.le_of_ble_eq_true rfl, ?_⟩
      walk_at "go"
      refine ⟨_, _, rfl, hx, fun H3 a3 na3 s3 ha3 => ?_⟩
      have h3 : H3 a = some (.ins C dx (putF "sign" (.int sg) [])) := s3 _ _ upd_same
      have n3 : a3 ≠ a := fun z => by rw [z, upd_same] at na3; cases na3
      walk_at "go"
      refine ⟨a3, _, rfl, SqT.of ha3, rfl, ?_⟩
      walk_at "go"
      refine ⟨a, C, dx, _, rfl, h3, T.own.cl, T.nT, Nat.le_of_ble_eq_true rfl, ?_⟩
      walk_at "go"
      refine ⟨a, C, dx, _, rfl, upd_same, T.own.cl, T.nP, Nat.le_of_ble_eq_true rfl, ?_⟩
      walk_at "go"
      generalize e4 : upd (upd H3 a (.ins C dx (putF "top" (redV top p).1 (putF "sign" (.int sg) [])))) a (.ins C dx (putF "power" (.int (redV top p).2) (putF "top" (redV top p).1 (putF "sign" (.int sg) [])))) = H4
      have h4 : H4 a = some (.ins C dx (flF sg (redV top p).1 (redV top p).2)) := by rw [← e4]; exact upd_same
      have k4 : ∀ b o, b ≠ a → H b = some o → H4 b = some o := fun b o hb e => by
        rw [← e4, upd_ne hb, upd_ne hb]
        exact s3 _ _ (by rw [upd_ne hb]; exact s2 _ _ (s1 _ _ e))
      refine ⟨a, C, dx, _, _, rfl, h4, T.own.cl, T.nT, fl_top _ _ _, ?_⟩
      walk_at "go"
      refine g_new (sz rfl) fun a5 H5 na5 s5 ha5 _ => ?_
      have fin : ∀ H6, Same H5 H6 → Q .non H6 := fun H6 s6 => q H6 (fun b o hb e => s6 _ _ (s5 _ _ (k4 b o hb e))) (s6 _ _ (s5 _ _ h4))
      rcases hy with ⟨hn, hr⟩ | ⟨m, hm, hf⟩
      · rw [hr]
        refine ⟨a5, _, rfl, .inr (SqT.of ha5), by rcases hn with rfl | rfl <;> rfl, rfl, ?_⟩
        walk_at "go"
        have e : (if true = true then !inV top [V.str "inf", V.str "nan"] else inV top [V.str "inf", V.str "nan"]) = false := by
          rcases hn with rfl | rfl <;> decide +kernel
        rw [e]
        walk_at "go"
        exact fin _ (Same.refl _)
      · rw [hm]
        refine ⟨a5, _, rfl, .inr (SqT.of ha5), rfl, rfl, ?_⟩
        walk_at "go"
        have e : (if true = true then !inV (.int m) [V.str "inf", V.str "nan"] else inV (.int m) [V.str "inf", V.str "nan"]) = true := rfl
        rw [e]
        walk_at "go"
        refine ⟨a, C, dx, _, _, rfl, s5 _ _ h4, T.own.cl, T.nT, fl_top _ _ _, ?_⟩
        walk_at "go"
        refine ⟨a, C, dx, _, _, rfl, s5 _ _ h4, T.own.cl, T.nP, fl_power _ _ _, ?_⟩
        walk_at "go"
        refine ⟨m, _, by rw [hm]; rfl, ?_⟩
        walk_at "go"
        rw [hf]
        walk_at "go"
        exact fin _ (Same.refl _)
end
end Up

set_option Elab.async false
set_option linter.all false
set_option maxRecDepth 100000
set_option maxHeartbeats 4000000
set_option exponentiation.threshold 200000
namespace Up
open PySem PySem.Spec PyProof.Rows L2
local macro_rules | `(tactic| walk_at "u") => `(tactic| first
  | with_reducible refine g_seq ?_
  | with_reducible refine g_asg ?_
  | with_reducible refine g_op ?_
  | ((with_reducible show tVar _ _ _ _); apply g_var; exact rfl)
  | with_reducible refine g_c ?_
  | with_reducible refine g_name ?_
  | with_reducible refine g_ifs ?_
  | with_reducible refine g_tt ?_
  | with_reducible refine g_tB ?_
  | with_reducible refine g_bl ?_
  | with_reducible refine g_ret ?_
  | with_reducible refine g_cb ?_
  | with_reducible refine g_cons ?_
  | with_reducible refine g_nil ?_
  | with_reducible refine g_call ?_
  | with_reducible refine g_and ?_
  | with_reducible refine g_or ?_
  | with_reducible refine g_not ?_
  | with_reducible refine g_andV ?_
  | with_reducible refine g_orV ?_
  | with_reducible refine g_notV ?_
  | with_reducible refine g_if ?_
  | with_reducible refine g_un ?_
  | with_reducible refine g_neg ?_
  | with_reducible refine g_addI ?_
  | with_reducible refine g_subI ?_
  | with_reducible refine g_subB ?_
  | with_reducible refine g_I0 ?_
  | with_reducible refine g_cmpI ?_
  | with_reducible refine g_eqI ?_
  | with_reducible refine g_neI ?_
  | with_reducible refine g_eqS ?_
  | with_reducible refine g_neS ?_
  | with_reducible refine g_eqB ?_
  | with_reducible refine g_neB ?_
  | with_reducible refine g_bits ?_
  | with_reducible refine g_bitsI ?_
  | with_reducible refine g_fld ?_
  | with_reducible refine g_tup ?_
  | with_reducible refine g_lst ?_
  | with_reducible refine g_gtup ?_
  | with_reducible refine g_make ?_
  | with_reducible refine g_lc ?_
  | with_reducible refine g_yesT ?_
  | with_reducible refine g_intI ?_
  | with_reducible refine g_intB ?_
  | with_reducible refine g_max2 ?_
  | with_reducible refine g_abs1 ?_
  | with_reducible refine g_for ?_
  | with_reducible refine g_iList ?_
  | with_reducible refine g_iTup ?_
  | with_reducible refine g_iRng1 ?_
  | with_reducible refine g_iEnum ?_
  | with_reducible refine g_slice ?_
  | with_reducible refine g_po0 ?_
  | with_reducible refine g_po1 ?_
  | with_reducible refine g_gsub ?_
  | with_reducible refine g_par ?_
  | with_reducible refine g_par2 ?_
  | with_reducible refine g_rfl ?_
  | with_reducible refine g_meth ?_
  | with_reducible refine g_gcons ?_
  | with_reducible refine g_gnil ?_
  | with_reducible refine g_gfld ?_
  | with_reducible refine g_sfld ?_
  | with_reducible refine g_drop ?_
  | with_reducible refine g_next ?_
  | with_reducible refine iteT ?_
  | with_reducible refine iteF ?_)
local macro_rules | `(tactic| walk_at "go") => `(tactic| (repeat walk_at "u"))

/-! ### parts of a float that was made -/
theorem red_nat {n : Nat} (h : n ≠ 0) (p : Int) : redV (.int n) p = (.int ((n / 2 ^ tz n : Nat) : Int), p + (tz n : Int)) := by
  have e : redV (.int n) p = (.int ((n : Int) / 2 ^ (lowB n).toNat), p + lowB n) := if_neg (by omega)
  rw [e, lowB_nat h]
  simp
theorem red_zero (p : Int) : redV (.int 0) p = (.int 0, 0) := rfl
theorem fits_of {n : Nat} {p : Int} (h1 : n ≤ 2 ^ 53) (h2 : -1074 ≤ p) (h3 : (bitsN n : Int) + p ≤ 1024) : ∃ m, (redV (.int n) p).1 = .int m ∧ fitsB m (redV (.int n) p).2 = true := by
  by_cases h0 : n = 0
  · subst h0
    exact ⟨0, rfl, by show fitsB 0 0 = true; decide⟩
  · rw [red_nat h0]
    refine ⟨_, rfl, ?_⟩
    obtain ⟨_, i2, i3, i4⟩ := land_pred n h0
    have hb := bits_shift h0
    have hle : n / 2 ^ tz n ≤ n := Nat.div_le_self _ _
    unfold fitsB
    rw [intBits_nat]
    have a1 : ((n / 2 ^ tz n : Nat) : Int) < 9007199254740992 := by
      have : n / 2 ^ tz n ≠ 2 ^ 53 := by intro z; rw [z] at i3; exact absurd i3 (by decide)
      omega
    have a2 : -1074 ≤ p + (tz n : Int) := by omega
    have a3 : ((bitsN (n / 2 ^ tz n) : Nat) : Int) + (p + (tz n : Int)) ≤ 1024 := by omega
    rw [decide_eq_true a1, decide_eq_true a2, decide_eq_true a3]
    rfl
theorem mk_flok {s : Int} {top : V} {p : Int} (h : MkOk s top p) : FlOk s (redV top p).1 (redV top p).2 := by
  obtain ⟨hs, h⟩ := h
  refine ⟨hs, ?_⟩
  rcases h with ⟨rfl, h1, rfl⟩ | ⟨rfl, rfl⟩ | ⟨n, rfl, m, hm, hf⟩
  · exact .inl ⟨rfl, h1, rfl⟩
  · exact .inr (.inl ⟨rfl, rfl⟩)
  · refine .inr (.inr ⟨m, hm, ?_⟩)
    by_cases h0 : n = 0
    · subst h0
      have e : m = 0 := by
        have : (V.int 0) = V.int m := hm
        injection this with z
        exact z.symm
      subst e
      show FinOk 0 0
      exact ⟨by decide, by decide, by decide, by decide, fun _ => rfl, fun z => absurd rfl z⟩
    · rw [red_nat h0] at hm hf ⊢
      obtain ⟨_, i2, i3, i4⟩ := land_pred n h0
      have e : ((n / 2 ^ tz n : Nat) : Int) = m := by injection hm
      have hne : m ≠ 0 := by
        intro z
        rw [z] at e
        have : n / 2 ^ tz n = 0 := by exact_mod_cast e
        rw [this] at i3
        exact absurd i3 (by decide)
      unfold fitsB at hf
      simp only [decide_eq_false hne, Bool.or_false, Bool.and_eq_true, decide_eq_true_eq] at hf
      exact ⟨e ▸ Int.natCast_nonneg _, hf.1, hf.2.1, hf.2.2, fun z => absurd z hne, fun _ => by rw [← e]; omega⟩
theorem mk_of_flok {s : Int} {n : Nat} {p : Int} (hs : s = 1 ∨ s = -1) (h1 : n ≤ 2 ^ 53) (h2 : -1074 ≤ p) (h3 : (bitsN n : Int) + p ≤ 1024) : MkOk s (.int n) p := ⟨hs, .inr (.inr ⟨n, rfl, fits_of h1 h2 h3⟩)⟩
/-! ### numbers as values -/
inductive Nm where
  | i (n : Int)
  | f (s : Int) (t : V) (p : Int)
def NumAt (C : Addr) (H : Hp) (v : V) : Nm → Prop
  | .i n => v = .int n
  | .f s t p => ∃ a, v = .ref a ∧ FlAt C H a s t p ∧ FlOk s t p
theorem NumAt.same {C : Addr} {H H' : Hp} {v : V} : ∀ {n : Nm}, NumAt C H v n → Same H H' → NumAt C H' v n
  | .i _, h, _ => h
  | .f _ _ _, ⟨a, e, h, k⟩, s => ⟨a, e, h.same s, k⟩
abbrev RetF (C : Addr) (H : Hp) (s : Int) (t : V) (p : Int) (Q : VK) : Prop := ∀ H' a, H a = none → Same H H' → FlAt C H' a s t p → Q (.ref a) H'
section
variable {P : Program} {w : World} {K : PySem.W.Frag} {mg : Str → Option Value} {base : Heap} {C : Addr}
/-- Float(s, top, p) -/
theorem mkF {H : Hp} {Q : VK} {E : XK} {s : Int} {top : V} {p : Int} (hk : MkOk s top p) (q : RetF C H s (redV top p).1 (redV top p).2 Q) :
    MakeR C (sp_Finit C) ([.int s, top, .int p] ++ []) H Q E := by
  intro x dx H' nx ndx ne s1 hx _
  exact ⟨x, dx, s, top, p, rfl, hx, hk, fun H2 k h2 => ⟨rfl, q H2 x nx (fun b o e => k b o (ne_of_none e nx) (s1 _ _ e)) ⟨dx, h2⟩⟩⟩
abbrev CnF (P : Program) (w : World) (K : PySem.W.Frag) (mg : Str → Option Value) (base : Heap) (C : Addr) : Prop := Cn P w K mg base CX0 2 "Float" C ["self", "sign", "top", "power"] [] (sp_Finit C)
/-! is_finite -/
abbrev s_Float_isfinite : Stmt := inClass (top 12) 4
theorem sc_Float_isfinite : FnScope ["self"] ["self"] (defScope s_Float_isfinite) := ⟨rfl, rfl, rfl, by decide +kernel, rfl, by decide +kernel, by decide +kernel⟩
def sp_isfinite (C : Addr) : Sp := fun vs H Q _ => ∃ a s t p, vs = [.ref a] ∧ FlAt C H a s t p ∧ FlOk s t p ∧ Q (.bl (isI t)) H
theorem FlOk.kn {s : Int} {t : V} {p : Int} {H : Hp} (h : FlOk s t p) : ∃ u, Kn K H t u ∧ isB t = false := by
  rcases h.2 with ⟨rfl, _⟩ | ⟨rfl, _⟩ | ⟨n, rfl, _⟩
  · exact ⟨_, kn_str, rfl⟩
  · exact ⟨_, kn_str, rfl⟩
  · exact ⟨_, kn_int, rfl⟩
theorem ok_isfinite {f : Addr} {fd : FuncData} (F : FunD K "is_finite" "Float.is_finite" (defArgs s_Float_isfinite) (defBody s_Float_isfinite) (defScope s_Float_isfinite) [] [] f fd) (B : Blt mg) (T : FlC K mg C) : FnOk P w K mg base CX0 1 f fd ["self"] (sp_isfinite C) := by
  refine F.ok sc_Float_isfinite (fun vs H Q E h => ?_) (fun cdv A outer s H vs Q E hr h => ?_)
  · obtain ⟨a, s, t, p, rfl, _⟩ := h; rfl
  · obtain ⟨a, sg, t, p, rfl, ⟨dx, ha⟩, ho, q⟩ := h
    refine ⟨_, PSs.nox (pss_one (ps_ret (pe_callB call_isi (by rfl) B.isinstance (by decide +kernel) (pa_cons (pe_fld (pv 0) rfl) (pa_cons (pe_tyInt B) pa_nil))))), ?_⟩
    walk_at "go"
    refine ⟨a, C, dx, _, _, rfl, ha, T.own.cl, T.nT, fl_top _ _ _, ?_⟩
    walk_at "go"
    obtain ⟨u, kn, hb⟩ := ho.kn (K := K) (H := H)
    refine g_isiInt kn ?_
    rw [hb, Bool.or_false]
    exact q
/-! ratio -/
abbrev s_Float_ratio : Stmt := inClass (top 12) 5
theorem sc_Float_ratio : FnScope ["self"] ["self"] (defScope s_Float_ratio) := ⟨rfl, rfl, rfl, by decide +kernel, rfl, by decide +kernel, by decide +kernel⟩
def ratN (s n p : Int) : Int := if p < 0 then s * n else s * (n * 2 ^ p.toNat)
def ratD (p : Int) : Int := if p < 0 then 2 ^ (0 - p).toNat else 1
def sp_ratio (C : Addr) : Sp := fun vs H Q _ => ∃ a s n p, vs = [.ref a] ∧ FlAt C H a s (.int n) p ∧ FlOk s (.int n) p ∧ RetT H [.int (ratN s n p), .int (ratD p)] Q
theorem fin_of {s n p : Int} (h : FlOk s (.int n) p) : FinOk n p := by
  rcases h.2 with ⟨z, _⟩ | ⟨z, _⟩ | ⟨m, e, h⟩
  · cases z
  · cases z
  · injection e with e; subst e; exact h
theorem FinOk.hi {n p : Int} (h : FinOk n p) : p ≤ 1024 := by
  obtain ⟨h1, _, _, h4, h5⟩ := h
  by_cases h0 : n = 0
  · rw [h5.1 h0]; decide
  · have := bits_pos (n := n.natAbs) (by omega)
    rw [intBits_neg] at h4
    omega
theorem sgn_mul {s x : Int} (hs : s = 1 ∨ s = -1) : IntMulOk s x := .of_left (by rcases hs with rfl | rfl <;> decide)
theorem shl_small {i j : Int} (h0 : 0 ≤ j) (h : j ≤ 100000) (hi : i.natAbs < 2 ^ 100000) : CShl i j := by
  refine ⟨h0, ?_⟩
  rw [intBits_neg]
  have := bits_le hi
  omega
theorem lt_pow_mono {n a b : Nat} (h : n < 2 ^ a) (hab : a ≤ b) : n < 2 ^ b := Nat.lt_of_lt_of_le h (Nat.pow_le_pow_right (by decide) hab)
theorem ok_ratio {f : Addr} {fd : FuncData} (F : FunD K "ratio" "Float.ratio" (defArgs s_Float_ratio) (defBody s_Float_ratio) (defScope s_Float_ratio) [] [] f fd) (B : Blt mg) (T : FlC K mg C) : FnOk P w K mg base CX0 1 f fd ["self"] (sp_ratio C) := by
  refine F.ok sc_Float_ratio (fun vs H Q E h => ?_) (fun cdv A outer s H vs Q E hr h => ?_)
  · obtain ⟨a, s, t, p, rfl, _⟩ := h; rfl
  · obtain ⟨a, sg, n, p, rfl, ⟨dx, ha⟩, ho, q⟩ := h
    have hf := fin_of ho
    have hhi := hf.hi
    obtain ⟨f1, f2, f3, f4, f5⟩ := hf
    unfold ratN ratD at q
    refine ⟨_, PSs.nox (pss_cons (ps_if (pt_cmpR op_oLt (pe_fld (pv 0) rfl) pe_int (nomark _)) (pss_one (ps_ret (pe_tupN (pa_cons (pe_op op_oMul (pe_fld (pv 0) rfl) (pe_fld (pv 0) rfl)) (pa_cons (pe_op op_oShl pe_int (pe_op op_oSub pe_int (pe_fld (pv 0) rfl))) pa_nil))))) pss_nil)
  (pss_one (ps_ret (pe_tupN (pa_cons (pe_op op_oMul (pe_fld (pv 0) rfl) (pe_op op_oShl (pe_fld (pv 0) rfl) (pe_fld (pv 0) rfl))) (pa_cons pe_int pa_nil)))))), ?_⟩
    walk_at "go"
    refine ⟨a, C, dx, _, _, rfl, ha, T.own.cl, T.nP, fl_power _ _ _, ?_⟩
    walk_at "go"
    refine g_ite (fun hp => ?_) fun hp => ?_
    · walk_at "go"
      refine ⟨a, C, dx, _, _, rfl, ha, T.own.cl, T.nS, fl_sign _ _ _, ?_⟩
      walk_at "go"
      refine ⟨a, C, dx, _, _, rfl, ha, T.own.cl, T.nT, fl_top _ _ _, ?_⟩
      refine g_mulI (sgn_mul ho.1) ?_
      walk_at "go"
      refine ⟨a, C, dx, _, _, rfl, ha, T.own.cl, T.nP, fl_power _ _ _, ?_⟩
      walk_at "go"
      refine g_II (shl_small (by omega) (by omega) (lt_pow_mono (a := 1) (by decide) (by decide))) ?_
      walk_at "go"
      refine g_new (sz rfl) fun b H2 nb s2 hb _ => ?_
      rw [if_pos hp, if_pos hp] at q
      rw [Int.one_mul] at hb
      exact q _ _ nb s2 hb
    · walk_at "go"
      refine ⟨a, C, dx, _, _, rfl, ha, T.own.cl, T.nS, fl_sign _ _ _, ?_⟩
      walk_at "go"
      refine ⟨a, C, dx, _, _, rfl, ha, T.own.cl, T.nT, fl_top _ _ _, ?_⟩
      walk_at "go"
      refine ⟨a, C, dx, _, _, rfl, ha, T.own.cl, T.nP, fl_power _ _ _, ?_⟩
      walk_at "go"
      refine g_II (shl_small (by omega) (by omega) (lt_pow_mono (a := 53) (by omega) (by decide))) ?_
      refine g_mulI (sgn_mul ho.1) ?_
      walk_at "go"
      refine g_new (sz rfl) fun b H2 nb s2 hb _ => ?_
      rw [if_neg hp, if_neg hp] at q
      exact q _ _ nb s2 hb
/-! infinity -/
abbrev s_infinity : Stmt := top 18
theorem sc_infinity : FnScope ["sign"] ["sign"] (defScope s_infinity) := ⟨rfl, rfl, rfl, by decide +kernel, rfl, by decide +kernel, by decide +kernel⟩
def sp_infinity (C : Addr) : Sp := fun vs H Q _ => ∃ s, vs = [.int s] ∧ (s = 1 ∨ s = -1) ∧ RetF C H s (.str "inf") 0 Q
theorem mk_inf {s : Int} (hs : s = 1 ∨ s = -1) : MkOk s (.str "inf") 0 := ⟨hs, .inr (.inl ⟨rfl, rfl⟩)⟩
theorem ok_infinity {f : Addr} {fd : FuncData} (F : FunD K "infinity" "infinity" (defArgs s_infinity) (defBody s_infinity) (defScope s_infinity) [] [] f fd) (c_Float : CnF P w K mg base C) : FnOk P w K mg base CX0 4 f fd ["sign"] (sp_infinity C) := by
  refine F.ok sc_infinity (fun vs H Q E h => ?_) (fun cdv A outer s H vs Q E hr h => ?_)
  · obtain ⟨a, rfl, _⟩ := h; rfl
  · obtain ⟨sg, rfl, hs, q⟩ := h
    refine ⟨_, PSs.nox (pss_one (ps_ret (pe_cn c_Float (hr.mono (by decide)) pass0 (pa_cons (pv 0) (pa_cons pe_str (pa_cons pe_int pa_nil)))))), ?_⟩
    walk_at "go"
    exact mkF (mk_inf hs) q
/-! nearest -/
abbrev s_nearest : Stmt := top 19
theorem sc_nearest : FnScope ["sign", "top", "bottom", "power", "whole", "rest"] ["sign", "top", "bottom"] (defScope s_nearest) := ⟨rfl, rfl, rfl, by decide +kernel, rfl, by decide +kernel, by decide +kernel⟩
/-- what is handed to Float -/
def nearV (t b : Nat) : V × Int := if t = 0 then (.int 0, 0) else if (bitsN (nrW t b) : Int) + nrP2 t b > 1024 then (.str "inf", 0) else (.int (nrW t b : Int), nrP2 t b)
theorem near_mk {s : Int} {t b : Nat} (hs : s = 1 ∨ s = -1) (hb : 0 < b) : MkOk s (nearV t b).1 (nearV t b).2 := by
  unfold nearV
  by_cases h0 : t = 0
  · rw [if_pos h0]
    exact mk_of_flok (n := 0) hs (by decide) (by decide) (by decide)
  · rw [if_neg h0]
    by_cases h1 : (bitsN (nrW t b) : Int) + nrP2 t b > 1024
    · rw [if_pos h1]
      exact mk_inf hs
    · rw [if_neg h1]
      exact mk_of_flok hs (nrW_le hb) (nrP2_lo t b) (by omega)
def sp_nearest (C : Addr) : Sp := fun vs H Q _ => ∃ (s : Int) (t b : Nat), vs = [.int s, .int t, .int b] ∧ (s = 1 ∨ s = -1) ∧ 0 < b ∧ bitsN t ≤ 6000 ∧ bitsN b ≤ 6000 ∧ RetF C H s (redV (nearV t b).1 (nearV t b).2).1 (redV (nearV t b).1 (nearV t b).2).2 Q
theorem fdiv_nat (a b : Nat) : (a : Int).fdiv (b : Int) = ((a / b : Nat) : Int) := by
  rw [Int.fdiv_eq_ediv_of_nonneg _ (by omega)]; rfl
theorem log2_lt {b k : Nat} (h : b < 2 ^ k) (hk : 0 < k) : b.log2 < k := by
  by_cases h0 : b = 0
  · subst h0; simpa using hk
  · exact (Nat.log2_lt h0).mpr h
theorem land_one (n : Nat) : Builtin.bitAnd (n : Int) 1 = ((n % 2 : Nat) : Int) := by
  rw [PyProof.Rows.bitAnd_pp (by omega) (by decide)]
  show ((n &&& 1 : Nat) : Int) = _
  rw [Nat.and_one_is_mod]
theorem ok_nearest {f : Addr} {fd : FuncData} (F : FunD K "nearest" "nearest" (defArgs s_nearest) (defBody s_nearest) (defScope s_nearest) [] [] f fd) (B : Blt mg) (i_ROOM : ∃ t, mg "ROOM" = some (.int 9007199254740992 t)) (i_LOWEST : ∃ t, mg "LOWEST" = some (.int (-1074) t)) (i_TOO_GREAT : ∃ t, mg "TOO_GREAT" = some (.int 1024 t))
    (c_Float : CnF P w K mg base C) (c_infinity : Fn P w K mg base CX0 4 "infinity" ["sign"] [] (sp_infinity C)) : FnOk P w K mg base CX0 5 f fd ["sign", "top", "bottom"] (sp_nearest C) := by
  refine F.ok sc_nearest (fun vs H Q E h => ?_) (fun cdv A outer s H vs Q E hr h => ?_)
  · obtain ⟨_, _, _, rfl, _⟩ := h; rfl
  · obtain ⟨sg, t, b, rfl, hs, hb, ht, hbb, q⟩ := h
    have mk := near_mk (t := t) (b := b) hs hb
    refine ⟨_, PSs.nox (pss_cons (ps_if (pt_cmpR (op_oEq hr.units) (pv 1) pe_int (nomark _)) (pss_one (ps_ret (pe_cn c_Float (hr.mono (by decide)) pass0 (pa_cons (pv 0) (pa_cons pe_int (pa_cons pe_int pa_nil)))))) pss_nil)
  (pss_cons (ps_set (i := 3) sc_nearest.nd rfl (Or.inl rfl) (pe_callB (call_max2 rfl) (by rfl) B.max (by decide +kernel) (pa_cons (pe_op op_oSub (pe_op op_oSub (pe_bits (pv 1)) (pe_bits (pv 2))) pe_int) (pa_cons (pe_gint i_LOWEST) pa_nil))))
  (C8.pss_cut (ps_if (pt_cmpR op_oLt (pv 3) pe_int (nomark _)) (pss_one (ps_set (i := 1) sc_nearest.nd rfl (Or.inl rfl) (pe_op op_oShl (pv 1) (pe_op op_oSub pe_int (pv 3))))) (pss_one (ps_set (i := 2) sc_nearest.nd rfl (Or.inl rfl) (pe_op op_oShl (pv 2) (pv 3)))))
  (C8.pss_cut (ps_if (pt_cmpR op_oGe (pe_op op_oDiv (pv 1) (pv 2)) (pe_gint i_ROOM) (nomark _)) (pss_cons (ps_set (i := 2) sc_nearest.nd rfl (Or.inl rfl) (pe_op op_oShl (pv 2) pe_int))
  (pss_one (ps_set (i := 3) sc_nearest.nd rfl (Or.inl rfl) (pe_op op_oAdd (pv 3) pe_int)))) pss_nil)
  (pss_cons (ps_asg (pe_callB call_divmodK (by rfl) B.divmod (by decide +kernel) (pa_cons (pv 1) (pa_cons (pv 2) pa_nil))) (pg_tup rfl (pgs_cons (pg_name (i := 4) sc_nearest.nd rfl (Or.inl rfl)) (pgs_cons (pg_name (i := 5) sc_nearest.nd rfl (Or.inl rfl)) pgs_nil))))
  (C8.pss_cut (ps_if (PW.pt (pw_or (pt_cmpR op_oGt (pe_op op_oMul pe_int (pv 5)) (pv 2) (nomark _)) (pw_or1 (PW.pt (pw_and (pt_cmpR (op_oEq hr.units) (pe_op op_oMul pe_int (pv 5)) (pv 2) (nomark _)) (pw_and1 (pt_cmpR (op_oEq hr.units) (pe_op op_oAnd (pv 4) pe_int) pe_int (nomark _)))))))) (pss_one (ps_set (i := 4) sc_nearest.nd rfl (Or.inl rfl) (pe_op op_oAdd (pv 4) pe_int))) pss_nil)
  (pss_cons (ps_if (pt_cmpR op_oGt (pe_op op_oAdd (pe_bits (pv 4)) (pv 3)) (pe_gint i_TOO_GREAT) (nomark _)) (pss_one (ps_ret (pe_fn c_infinity (hr.mono (by decide)) pass0 (pa_cons (pv 0) pa_nil)))) pss_nil)
  (pss_one (ps_ret (pe_cn c_Float (hr.mono (by decide)) pass0 (pa_cons (pv 0) (pa_cons (pv 4) (pa_cons (pv 3) pa_nil))))))))))))), ?_⟩
    walk_at "go"
    refine g_ite (fun h0 => ?_) fun h0 => ?_
    · walk_at "go"
      have h0 : t = 0 := by omega
      have e : nearV t b = (.int 0, 0) := if_pos h0
      rw [e] at q mk
      exact mkF mk q
    · have h0 : t ≠ 0 := by omega
      walk_at "go"
      rw [intBits_nat, intBits_nat]
      have eP : (if (-1074 : Int) > ((bitsN t : Nat) : Int) - ((bitsN b : Nat) : Int) - 53 then (-1074 : Int) else ((bitsN t : Nat) : Int) - ((bitsN b : Nat) : Int) - 53) = nrP t b := rfl
      rw [eP]
      have p1 := nrP_lo t b
      have p2 := nrP_hi (t := t) (b := b)
      walk_at "go"
      refine g_cut (fun σ' H2 => σ' = [some (.int sg), some (.int (nrT t (nrP t b) : Nat)), some (.int (nrB b (nrP t b) : Nat)), some (.int (nrP t b)), none, none] ∧ H = H2) ?_ ?_
      · walk_at "go"
        refine g_ite (fun hp => ?_) fun hp => ?_
        · walk_at "go"
          refine g_II (shl_small (by omega) (by omega) (lt_pow_mono (bits_lt t) (by omega))) ?_
          walk_at "go"
          refine ⟨?_, rfl⟩
          unfold nrT nrB
          rw [if_pos hp, if_pos hp]
          simp [L2.start]
        · walk_at "go"
          refine g_II (shl_small (by omega) (by omega) (lt_pow_mono (bits_lt b) (by omega))) ?_
          walk_at "go"
          refine ⟨?_, rfl⟩
          unfold nrT nrB
          rw [if_neg hp, if_neg hp]
          simp [L2.start]
      · rintro σ' _ ⟨rfl, rfl⟩
        have hB := nrB_pos hb (nrP t b)
        have hB2 := nrB2_pos (t := t) hb
        have hbit := nrB2_bits (m := 6000) ht hbb hb
        have hbit1 : nrB b (nrP t b) < 2 ^ 6001 := by
          unfold nrB2 at hbit
          split at hbit <;> omega
        walk_at "go"
        refine g_cut (fun σ' H2 => σ' = [some (.int sg), some (.int (nrT t (nrP t b) : Nat)), some (.int (nrB2 t b : Nat)), some (.int (nrP2 t b)), none, none] ∧ H = H2) ?_ ?_
        · walk_at "go"
          refine g_divI (by omega) (by rw [Int.natAbs_natCast]; exact Nat.lt_trans (log2_lt hbit1 (by decide)) (by decide)) ?_
          rw [fdiv_nat]
          walk_at "go"
          refine g_ite (fun hg => ?_) fun hg => ?_
          · have hg' : nrBig t b = true := decide_eq_true (Int.ofNat_le.mp (show ((9007199254740992 : Nat) : Int) ≤ _ from hg))
            walk_at "go"
            refine g_II (shl_small (by decide) (by decide) (lt_pow_mono hbit1 (by decide))) ?_
            walk_at "go"
            refine ⟨?_, rfl⟩
            unfold nrB2 nrP2
            rw [if_pos hg', if_pos hg']
            simp
          · have hg' : ¬ nrBig t b = true := fun z => hg (Int.ofNat_le.mpr (of_decide_eq_true z))
            walk_at "go"
            refine ⟨?_, rfl⟩
            unfold nrB2 nrP2
            rw [if_neg hg', if_neg hg']
        · rintro σ' _ ⟨rfl, rfl⟩
          walk_at "go"
          refine ⟨_, _, rfl, ⟨by omega, by rw [Int.natAbs_natCast]; exact Nat.lt_trans (log2_lt hbit (by decide)) (by decide)⟩, fun a H2 na s2 ha _ => ?_⟩
          walk_at "go"
          refine ⟨a, _, rfl, SqT.of ha, rfl, ?_⟩
          walk_at "go"
          have eQ : ((nrT t (nrP t b) : Nat) : Int) / ((nrB2 t b : Nat) : Int) = ((nrQ t b : Nat) : Int) := rfl
          have eR : ((nrT t (nrP t b) : Nat) : Int) % ((nrB2 t b : Nat) : Int) = ((nrR t b : Nat) : Int) := rfl
          rw [eQ, eR]
          refine g_cut (fun σ' H3 => σ' = [some (.int sg), some (.int (nrT t (nrP t b) : Nat)), some (.int (nrB2 t b : Nat)), some (.int (nrP2 t b)), some (.int (nrW t b : Nat)), some (.int (nrR t b : Nat))] ∧ H2 = H3) ?_ ?_
          · have up : ∀ (c : Bool), nrUp t b = c → nrW t b = if c then nrQ t b + 1 else nrQ t b := fun c h => by unfold nrW; rw [h]
            walk_at "go"
            refine g_mulI (.of_left (by decide)) ?_
            walk_at "go"
            refine g_ite (fun h1 => ?_) fun h1 => ?_
            · walk_at "go"
              refine ⟨?_, rfl⟩
              rw [up true (by unfold nrUp; rw [decide_eq_true (show nrB2 t b < 2 * nrR t b by omega)]; rfl)]
              simp
            · walk_at "go"
              refine g_mulI (.of_left (by decide)) ?_
              walk_at "go"
              refine g_ite (fun h2 => ?_) fun h2 => ?_
              · walk_at "go"
                rw [land_one]
                refine g_ite (fun h3 => ?_) fun h3 => ?_
                · walk_at "go"
                  refine ⟨?_, rfl⟩
                  rw [up true (by unfold nrUp; rw [decide_eq_true (show 2 * nrR t b = nrB2 t b by omega), decide_eq_true (show nrQ t b % 2 = 1 by omega), Bool.and_self, Bool.or_true])]
                  simp
                · walk_at "go"
                  refine ⟨?_, rfl⟩
                  rw [up false (by unfold nrUp; rw [decide_eq_false (show ¬ nrB2 t b < 2 * nrR t b by omega), decide_eq_false (show ¬ nrQ t b % 2 = 1 by omega), Bool.and_false, Bool.or_false])]
                  simp
              · walk_at "go"
                refine ⟨?_, rfl⟩
                rw [up false (by unfold nrUp; rw [decide_eq_false (show ¬ nrB2 t b < 2 * nrR t b by omega), decide_eq_false (show ¬ 2 * nrR t b = nrB2 t b by omega), Bool.false_and, Bool.or_false])]
                simp
          · rintro σ' _ ⟨rfl, rfl⟩
            have q2 : RetF C H2 sg (redV (nearV t b).1 (nearV t b).2).1 (redV (nearV t b).1 (nearV t b).2).2 Q := fun H' x nx sx hx => q H' x (s2.free nx) (s2.trans sx) hx
            walk_at "go"
            rw [intBits_nat]
            refine g_ite (fun h1 => ?_) fun h1 => ?_
            · walk_at "go"
              have e : nearV t b = (.str "inf", 0) := by unfold nearV; rw [if_neg h0, if_pos h1]
              rw [e] at q2
              exact ⟨sg, rfl, hs, q2⟩
            · walk_at "go"
              have e : nearV t b = (.int (nrW t b : Int), nrP2 t b) := by unfold nearV; rw [if_neg h0, if_neg h1]
              rw [e] at q2 mk
              exact mkF mk q2
end
end Up

set_option Elab.async false
set_option linter.all false
set_option maxRecDepth 100000
set_option maxHeartbeats 4000000
set_option exponentiation.threshold 200000
namespace Up
open PySem PySem.Spec PyProof.Rows L2
local macro_rules | `(tactic| walk_at "u") => `(tactic| first
  | with_reducible refine g_seq ?_
  | with_reducible refine g_asg ?_
  | with_reducible refine g_op ?_
  | ((with_reducible show tVar _ _ _ _); apply g_var; exact rfl)
  | with_reducible refine g_c ?_
  | with_reducible refine g_name ?_
  | with_reducible refine g_ifs ?_
  | with_reducible refine g_tt ?_
  | with_reducible refine g_tB ?_
  | with_reducible refine g_bl ?_
  | with_reducible refine g_ret ?_
  | with_reducible refine g_cb ?_
  | with_reducible refine g_cons ?_
  | with_reducible refine g_nil ?_
  | with_reducible refine g_call ?_
  | with_reducible refine g_and ?_
  | with_reducible refine g_or ?_
  | with_reducible refine g_not ?_
  | with_reducible refine g_andV ?_
  | with_reducible refine g_orV ?_
  | with_reducible refine g_notV ?_
  | with_reducible refine g_if ?_
  | with_reducible refine g_un ?_
  | with_reducible refine g_neg ?_
  | with_reducible refine g_addI ?_
  | with_reducible refine g_subI ?_
  | with_reducible refine g_subB ?_
  | with_reducible refine g_I0 ?_
  | with_reducible refine g_cmpI ?_
  | with_reducible refine g_eqI ?_
  | with_reducible refine g_neI ?_
  | with_reducible refine g_eqS ?_
  | with_reducible refine g_neS ?_
  | with_reducible refine g_eqB ?_
  | with_reducible refine g_neB ?_
  | with_reducible refine g_bits ?_
  | with_reducible refine g_bitsI ?_
  | with_reducible refine g_fld ?_
  | with_reducible refine g_tup ?_
  | with_reducible refine g_lst ?_
  | with_reducible refine g_gtup ?_
  | with_reducible refine g_make ?_
  | with_reducible refine g_lc ?_
  | with_reducible refine g_yesT ?_
  | with_reducible refine g_intI ?_
  | with_reducible refine g_intB ?_
  | with_reducible refine g_max2 ?_
  | with_reducible refine g_abs1 ?_
  | with_reducible refine g_for ?_
  | with_reducible refine g_iList ?_
  | with_reducible refine g_iTup ?_
  | with_reducible refine g_iRng1 ?_
  | with_reducible refine g_iEnum ?_
  | with_reducible refine g_slice ?_
  | with_reducible refine g_po0 ?_
  | with_reducible refine g_po1 ?_
  | with_reducible refine g_gsub ?_
  | with_reducible refine g_par ?_
  | with_reducible refine g_par2 ?_
  | with_reducible refine g_rfl ?_
  | with_reducible refine g_meth ?_
  | with_reducible refine g_gcons ?_
  | with_reducible refine g_gnil ?_
  | with_reducible refine g_gfld ?_
  | with_reducible refine g_sfld ?_
  | with_reducible refine g_drop ?_
  | with_reducible refine g_next ?_
  | with_reducible refine iteT ?_
  | with_reducible refine iteF ?_)
local macro_rules | `(tactic| walk_at "go") => `(tactic| (repeat walk_at "u"))

section
variable {P : Program} {w : World} {K : PySem.W.Frag} {mg : Str → Option Value} {base : Heap} {C : Addr}
/-! ### kinds, Float asked too -/
structure KnF (K : PySem.W.Frag) (C : Addr) (H : Hp) (x : V) (t : Value) (b : Bool) : Prop where
  kn : Kn K H x t
  fl : PySem.W.kitOne K t (.ref C) = some b
theorem KnF.same {H H' : Hp} {x : V} {t : Value} {b : Bool} (h : KnF K C H x t b) (s : Same H H') : KnF K C H' x t b := ⟨h.kn.same s, h.fl⟩
theorem g_isiF {H : Hp} {Q : VK} {x : V} {t : Value} {b : Bool} (h : KnF K C H x t b) (q : Q (.bl b) H) : rIsi K [x, .ref C] H Q := g_isi h.kn.ty (.own _) h.fl q
theorem kf_int (T : FlC K mg C) {H : Hp} {i : Int} : KnF K C H (.int i) (.type "int") false := ⟨kn_int, T.fi⟩
theorem kf_bl (T : FlC K mg C) {H : Hp} {i : Bool} : KnF K C H (.bl i) (.type "bool") false := ⟨kn_bl, T.fb⟩
theorem kf_str (T : FlC K mg C) {H : Hp} {i : Str} : KnF K C H (.str i) (.type "str") false := ⟨kn_str, T.fs⟩
theorem kf_non (T : FlC K mg C) {H : Hp} : KnF K C H .non (.type "NoneType") false := ⟨kn_non, T.fn⟩
theorem kf_fl (T : FlC K mg C) {H : Hp} {a : Addr} {s : Int} {t : V} {p : Int} (h : FlAt C H a s t p) : KnF K C H (.ref a) (.ref C) true := by
  obtain ⟨dx, h⟩ := h
  exact ⟨kn_ins T.own h, T.yes⟩
def isF : Nm → Bool
  | .i _ => false
  | .f _ _ _ => true
theorem NumAt.kf (T : FlC K mg C) {H : Hp} {v : V} : ∀ {n : Nm}, NumAt C H v n → ∃ t, KnF K C H v t (isF n) ∧ isI v = !isF n ∧ isB v = false
  | .i n, h => by
    have h : v = .int n := h
    subst h
    exact ⟨_, kf_int T, rfl, rfl⟩
  | .f s t p, ⟨a, e, h, _⟩ => by
    subst e
    exact ⟨_, kf_fl T h, rfl, rfl⟩
/-! to_float -/
abbrev s_tofloat : Stmt := top 22
theorem sc_tofloat : FnScope ["number"] ["number"] (defScope s_tofloat) := ⟨rfl, rfl, rfl, by decide +kernel, rfl, by decide +kernel, by decide +kernel⟩
def bigOk (k : Int) : Prop := k.natAbs < 2 ^ 5000
/-- the float of an int: sign, top, power -/
def tfS (k : Int) : Int := if k < 0 then -1 else 1
def tfR (k : Int) : V × Int := redV (nearV k.natAbs 1).1 (nearV k.natAbs 1).2
def sp_tofloat (C : Addr) : Sp := fun vs H Q _ => ∃ v n, vs = [v] ∧ NumAt C H v n ∧ match n with
  | .f _ _ _ => Q v H
  | .i k => bigOk k ∧ RetF C H (tfS k) (tfR k).1 (tfR k).2 Q
theorem ok_tofloat {f : Addr} {fd : FuncData} (F : FunD K "to_float" "to_float" (defArgs s_tofloat) (defBody s_tofloat) (defScope s_tofloat) [] [] f fd) (B : Blt mg) (T : FlC K mg C) (c_nearest : Fn P w K mg base CX0 5 "nearest" ["sign", "top", "bottom"] [] (sp_nearest C)) (c_signof : Fn P w K mg base CX0 1 "sign_of" ["is_negative"] [] sp_signof) :
    FnOk P w K mg base CX0 6 f fd ["number"] (sp_tofloat C) := by
  have g_Float : mg "Float" = some (.ref C) := T.mg
  refine F.ok sc_tofloat (fun vs H Q E h => ?_) (fun cdv A outer s H vs Q E hr h => ?_)
  · obtain ⟨x, n, rfl, _⟩ := h; rfl
  · obtain ⟨x, n, rfl, hn, q⟩ := h
    refine ⟨_, PSs.nox (pss_cons (ps_if (pt_val (pe_callB call_isi (by rfl) B.isinstance (by decide +kernel) (pa_cons (pv 0) (pa_cons (pe_gref g_Float) pa_nil)))) (pss_one (ps_ret (pv 0))) pss_nil)
  (pss_one (ps_ret (pe_fn c_nearest (hr.mono (by decide)) pass0 (pa_cons (pe_fn c_signof (hr.mono (by decide)) pass0 (pa_cons (pe_cmpR op_oLt (pv 0) pe_int (nomark _)) pa_nil)) (pa_cons (pe_callB call_abs (by rfl) B.abs (by decide +kernel) (pa_cons (pv 0) pa_nil)) (pa_cons pe_int pa_nil))))))), ?_⟩
    obtain ⟨t, hk, _, _⟩ := hn.kf T
    walk_at "go"
    refine g_isiF hk ?_
    walk_at "go"
    cases n with
    | f sg tp p =>
      refine iteT ?_
      walk_at "go"
      exact q
    | i k =>
      have hn : x = .int k := hn
      subst hn
      obtain ⟨hb, q⟩ := q
      refine iteF ?_
      walk_at "go"
      refine ⟨_, rfl, ?_⟩
      walk_at "go"
      have e1 : sgnB (decide (k < 0)) = tfS k := by unfold sgnB tfS; by_cases h : k < 0 <;> simp [h]
      have e2 : (if k < 0 then -k else k) = (k.natAbs : Int) := by split <;> omega
      rw [e1, e2]
      refine ⟨tfS k, k.natAbs, 1, rfl, by unfold tfS; split <;> simp, by decide, Nat.le_trans (bits_le hb) (by decide), by decide, q⟩
theorem mul_small {i j : Int} (hi : i.natAbs < 2 ^ 100000) (hj : j.natAbs < 2 ^ 100000) : IntMulOk i j := (mulx_ok hi hj (by decide)).ok
theorem natAbs_mul_lt {x y : Int} {a b : Nat} (hx : x.natAbs < 2 ^ a) (hy : y.natAbs < 2 ^ b) : (x * y).natAbs < 2 ^ (a + b) := by
  rw [Int.natAbs_mul, Nat.pow_add]
  exact Nat.mul_lt_mul'' hx hy
theorem sgn_abs {s : Int} (hs : s = 1 ∨ s = -1) (x : Int) : (s * x).natAbs = x.natAbs := by
  rw [Int.natAbs_mul]; rcases hs with rfl | rfl <;> simp
theorem tf_mk (k : Int) : MkOk (tfS k) (nearV k.natAbs 1).1 (nearV k.natAbs 1).2 := near_mk (by unfold tfS; split <;> simp) (by decide)
/-- a float made again of its own parts -/
theorem mk_again {s : Int} {t : V} {p : Int} (h : FlOk s t p) : MkOk s t p := by
  obtain ⟨hs, h⟩ := h
  rcases h with ⟨rfl, h1, rfl⟩ | ⟨rfl, rfl⟩ | ⟨n, rfl, f1, f2, f3, f4, f5⟩
  · exact ⟨hs, .inl ⟨rfl, h1, rfl⟩⟩
  · exact ⟨hs, .inr (.inl ⟨rfl, rfl⟩)⟩
  · obtain ⟨k, rfl⟩ := Int.eq_ofNat_of_zero_le f1
    rw [intBits_nat] at f4
    exact mk_of_flok hs (by omega) f3 f4
theorem small64 {k : Int} (h1 : -(2 ^ 65) ≤ k) (h2 : k ≤ 2 ^ 65) : k.natAbs < 2 ^ 1000 := lt_pow_mono (a := 66) (by omega) (by decide)
theorem big64 {k : Int} (h1 : -(2 ^ 65) ≤ k) (h2 : k ≤ 2 ^ 65) : bigOk k := lt_pow_mono (a := 66) (by omega) (by decide)
end
end Up

set_option Elab.async false
set_option linter.all false
set_option maxRecDepth 100000
set_option maxHeartbeats 4000000
set_option exponentiation.threshold 200000
namespace Up
open PySem PySem.Spec PyProof.Rows L2
local macro_rules | `(tactic| walk_at "u") => `(tactic| first
  | with_reducible refine g_seq ?_
  | with_reducible refine g_asg ?_
  | with_reducible refine g_op ?_
  | ((with_reducible show tVar _ _ _ _); apply g_var; exact rfl)
  | with_reducible refine g_c ?_
  | with_reducible refine g_name ?_
  | with_reducible refine g_ifs ?_
  | with_reducible refine g_tt ?_
  | with_reducible refine g_tB ?_
  | with_reducible refine g_bl ?_
  | with_reducible refine g_ret ?_
  | with_reducible refine g_cb ?_
  | with_reducible refine g_cons ?_
  | with_reducible refine g_nil ?_
  | with_reducible refine g_call ?_
  | with_reducible refine g_and ?_
  | with_reducible refine g_or ?_
  | with_reducible refine g_not ?_
  | with_reducible refine g_andV ?_
  | with_reducible refine g_orV ?_
  | with_reducible refine g_notV ?_
  | with_reducible refine g_if ?_
  | with_reducible refine g_un ?_
  | with_reducible refine g_neg ?_
  | with_reducible refine g_addI ?_
  | with_reducible refine g_subI ?_
  | with_reducible refine g_subB ?_
  | with_reducible refine g_I0 ?_
  | with_reducible refine g_cmpI ?_
  | with_reducible refine g_eqI ?_
  | with_reducible refine g_neI ?_
  | with_reducible refine g_eqS ?_
  | with_reducible refine g_neS ?_
  | with_reducible refine g_eqB ?_
  | with_reducible refine g_neB ?_
  | with_reducible refine g_bits ?_
  | with_reducible refine g_bitsI ?_
  | with_reducible refine g_fld ?_
  | with_reducible refine g_tup ?_
  | with_reducible refine g_lst ?_
  | with_reducible refine g_gtup ?_
  | with_reducible refine g_make ?_
  | with_reducible refine g_lc ?_
  | with_reducible refine g_yesT ?_
  | with_reducible refine g_intI ?_
  | with_reducible refine g_intB ?_
  | with_reducible refine g_max2 ?_
  | with_reducible refine g_abs1 ?_
  | with_reducible refine g_for ?_
  | with_reducible refine g_iList ?_
  | with_reducible refine g_iTup ?_
  | with_reducible refine g_iRng1 ?_
  | with_reducible refine g_iEnum ?_
  | with_reducible refine g_slice ?_
  | with_reducible refine g_po0 ?_
  | with_reducible refine g_po1 ?_
  | with_reducible refine g_gsub ?_
  | with_reducible refine g_par ?_
  | with_reducible refine g_par2 ?_
  | with_reducible refine g_rfl ?_
  | with_reducible refine g_meth ?_
  | with_reducible refine g_gcons ?_
  | with_reducible refine g_gnil ?_
  | with_reducible refine g_gfld ?_
  | with_reducible refine g_sfld ?_
  | with_reducible refine g_drop ?_
  | with_reducible refine g_next ?_
  | with_reducible refine iteT ?_
  | with_reducible refine iteF ?_)
local macro_rules | `(tactic| walk_at "go") => `(tactic| (repeat walk_at "u"))

section
variable {P : Program} {w : World} {K : PySem.W.Frag} {mg : Str → Option Value} {base : Heap} {C : Addr}
/-! is_number -/
abbrev s_isnumber : Stmt := top 20
theorem sc_isnumber : FnScope ["thing"] ["thing"] (defScope s_isnumber) := ⟨rfl, rfl, rfl, by decide +kernel, rfl, by decide +kernel, by decide +kernel⟩
def sp_isnumber (K : PySem.W.Frag) (C : Addr) : Sp := fun vs H Q _ => ∃ x t b, vs = [x] ∧ KnF K C H x t b ∧ Q (.bl (b || isI x)) H
theorem ok_isnumber {f : Addr} {fd : FuncData} (F : FunD K "is_number" "is_number" (defArgs s_isnumber) (defBody s_isnumber) (defScope s_isnumber) [] [] f fd) (B : Blt mg) (T : FlC K mg C) (c_isplain : Fn P w K mg base CX0 1 "is_plain" ["number"] [] (sp_isplain K)) : FnOk P w K mg base CX0 2 f fd ["thing"] (sp_isnumber K C) := by
  have g_Float : mg "Float" = some (.ref C) := T.mg
  refine F.ok sc_isnumber (fun vs H Q E h => ?_) (fun cdv A outer s H vs Q E hr h => ?_)
  · obtain ⟨x, t, b, rfl, _⟩ := h; rfl
  · obtain ⟨x, t, b, rfl, hk, q⟩ := h
    refine ⟨_, PSs.nox (pss_one (ps_ret (pe_or (pe_callB call_isi (by rfl) B.isinstance (by decide +kernel) (pa_cons (pv 0) (pa_cons (pe_gref g_Float) pa_nil))) (pe_one (pe_fn c_isplain (hr.mono (by decide)) pass0 (pa_cons (pv 0) pa_nil)))))), ?_⟩
    walk_at "go"
    refine g_isiF hk ?_
    walk_at "go"
    cases b
    · refine iteF ?_
      walk_at "go"
      exact ⟨x, t, rfl, hk.kn, q⟩
    · refine iteT ?_
      exact q
/-! place_of -/
abbrev s_placeof : Stmt := top 34
theorem sc_placeof : FnScope ["number"] ["number"] (defScope s_placeof) := ⟨rfl, rfl, rfl, by decide +kernel, rfl, by decide +kernel, by decide +kernel⟩
def plc : Nm → Option (Int × Int)
  | .i k => some (k, 1)
  | .f s (.int m) p => some (ratN s m p, ratD p)
  | .f s (.str x) _ => if x = "nan" then none else some (s * 2 ^ 1025, 1)
  | .f _ _ _ => none
def RetO (H : Hp) (o : Option (Int × Int)) (Q : VK) : Prop := match o with
  | none => ∀ H', Same H H' → Q .non H'
  | some (x, y) => RetT H [.int x, .int y] Q
def sp_placeof (C : Addr) : Sp := fun vs H Q _ => ∃ v n, vs = [v] ∧ NumAt C H v n ∧ RetO H (plc n) Q
theorem ok_placeof {f : Addr} {fd : FuncData} (F : FunD K "place_of" "place_of" (defArgs s_placeof) (defBody s_placeof) (defScope s_placeof) [] [] f fd) (B : Blt mg) (T : FlC K mg C) (i_TOO_GREAT : ∃ t, mg "TOO_GREAT" = some (.int 1024 t)) (c_isfinite : Mt P w K mg base CX0 1 C "is_finite" ["self"] (sp_isfinite C)) (c_ratio : Mt P w K mg base CX0 1 C "ratio" ["self"] (sp_ratio C)) :
    FnOk P w K mg base CX0 2 f fd ["number"] (sp_placeof C) := by
  have g_Float : mg "Float" = some (.ref C) := T.mg
  refine F.ok sc_placeof (fun vs H Q E h => ?_) (fun cdv A outer s H vs Q E hr h => ?_)
  · obtain ⟨x, n, rfl, _⟩ := h; rfl
  · obtain ⟨x, n, rfl, hn, q⟩ := h
    refine ⟨_, PSs.nox (pss_cons (ps_if (pt_not (pt_val (pe_callB call_isi (by rfl) B.isinstance (by decide +kernel) (pa_cons (pv 0) (pa_cons (pe_gref g_Float) pa_nil))))) (pss_one (ps_ret (pe_tupN (pa_cons (pv 0) (pa_cons pe_int pa_nil))))) pss_nil)
  (pss_cons (ps_if (pt_val (pe_mt0 c_isfinite (hr.mono (by decide)) pass0 (pv 0))) (pss_one (ps_ret (pe_mt0 c_ratio (hr.mono (by decide)) pass0 (pv 0)))) pss_nil)
  (pss_one (ps_ret (pe_ifExp (pt_cmpR (op_oEq hr.units) (pe_fld (pv 0) rfl) pe_str (nomark _)) pe_non (pe_tupN (pa_cons (pe_op op_oShl (pe_fld (pv 0) rfl) (pe_op op_oAdd (pe_gint i_TOO_GREAT) pe_int)) (pa_cons pe_int pa_nil)))))))), ?_⟩
    obtain ⟨t, hk, _, _⟩ := hn.kf T
    walk_at "go"
    refine g_isiF hk ?_
    walk_at "go"
    cases n with
    | i k =>
      have hn : x = .int k := hn
      subst hn
      refine iteT ?_
      walk_at "go"
      exact g_new (sz rfl) fun a H1 na s1 ha _ => q _ _ na s1 ha
    | f sg tp p =>
      obtain ⟨a, rfl, hf, ho⟩ := hn
      refine iteF ?_
      walk_at "go"
      obtain ⟨dx, hd⟩ := id hf
      refine ⟨a, dx, _, rfl, hd, rfl, ?_⟩
      walk_at "go"
      refine ⟨a, sg, tp, p, rfl, hf, ho, ?_⟩
      walk_at "go"
      rcases id ho.2 with ⟨rfl, _, _⟩ | ⟨rfl, _⟩ | ⟨m, rfl, hfin⟩
      · refine iteF ?_
        walk_at "go"
        refine ⟨a, C, dx, _, _, rfl, hd, T.own.cl, T.nT, fl_top _ _ _, ?_⟩
        walk_at "go"
        refine g_yes rfl ?_
        walk_at "go"
        exact q H (Same.refl _)
      · refine iteF ?_
        walk_at "go"
        refine ⟨a, C, dx, _, _, rfl, hd, T.own.cl, T.nT, fl_top _ _ _, ?_⟩
        walk_at "go"
        refine g_no (by decide +kernel) ?_
        walk_at "go"
        refine ⟨a, C, dx, _, _, rfl, hd, T.own.cl, T.nS, fl_sign _ _ _, ?_⟩
        walk_at "go"
        refine g_II (shl_small (by decide) (by decide) (by rcases ho.1 with rfl | rfl <;> exact lt_pow_mono (a := 1) (by decide) (by decide))) ?_
        walk_at "go"
        have e : plc (.f sg (.str "inf") p) = some (sg * 2 ^ 1025, 1) := by
          show (if ("inf" : Str) = "nan" then none else some (sg * 2 ^ 1025, (1 : Int))) = _
          rw [if_neg (by decide +kernel)]
        rw [e] at q
        exact g_new (sz rfl) fun b H1 nb s1 hb _ => q _ _ nb s1 hb
      · refine iteT ?_
        walk_at "go"
        refine ⟨a, dx, _, rfl, hd, rfl, ?_⟩
        walk_at "go"
        exact ⟨a, sg, m, p, rfl, hf, ho, q⟩
/-! order_of -/
abbrev s_orderof : Stmt := top 33
theorem sc_orderof : FnScope ["one", "other", "first", "second", "gap"] ["one", "other"] (defScope s_orderof) := ⟨rfl, rfl, rfl, by decide +kernel, rfl, by decide +kernel, by decide +kernel⟩
def gapO : Option (Int × Int) → Option (Int × Int) → Option Int
  | some (a, b), some (c, d) => some (a * d - c * b)
  | _, _ => none
def ordN (n m : Nm) : Option Int := (gapO (plc n) (plc m)).map fun g => b2i (decide (0 < g)) - b2i (decide (g < 0))
def oV : Option Int → V
  | none => .non
  | some i => .int i
def nOk : Nm → Prop
  | .i k => bigOk k
  | .f s t p => FlOk s t p
theorem plc_small {n : Nm} (h : nOk n) : ∀ x y, plc n = some (x, y) → x.natAbs < 2 ^ 5000 ∧ y.natAbs < 2 ^ 5000 ∧ 0 < y := by
  intro x y e
  cases n with
  | i k =>
    have e : some (k, (1 : Int)) = some (x, y) := e
    injection e with e
    injection e with e1 e2
    subst e1 e2
    exact ⟨h, lt_pow_mono (a := 1) (by decide) (by decide), by decide⟩
  | f s t p =>
    obtain ⟨hs, h2⟩ := id h
    rcases h2 with ⟨rfl, _, _⟩ | ⟨rfl, _⟩ | ⟨m, rfl, hf⟩
    · have e : (if ("nan" : Str) = "nan" then none else some (s * 2 ^ 1025, (1 : Int))) = some (x, y) := e
      rw [if_pos rfl] at e
      cases e
    · have e : (if ("inf" : Str) = "nan" then none else some (s * 2 ^ 1025, (1 : Int))) = some (x, y) := e
      rw [if_neg (by decide +kernel)] at e
      injection e with e
      injection e with e1 e2
      subst e1 e2
      refine ⟨?_, lt_pow_mono (a := 1) (by decide) (by decide), by decide⟩
      rw [sgn_abs hs, Int.natAbs_pow]
      exact Nat.pow_lt_pow_right (by decide) (by decide)
    · have e : some (ratN s m p, ratD p) = some (x, y) := e
      injection e with e
      injection e with e1 e2
      subst e1 e2
      have hhi := hf.hi
      obtain ⟨f1, f2, f3, f4, f5⟩ := hf
      have hm : m.natAbs < 2 ^ 53 := by omega
      unfold ratN ratD
      by_cases hp : p < 0
      · rw [if_pos hp, if_pos hp, sgn_abs hs]
        refine ⟨lt_pow_mono hm (by decide), ?_, Int.pow_pos (by decide)⟩
        rw [Int.natAbs_pow]
        exact Nat.pow_lt_pow_right (by decide) (by omega)
      · rw [if_neg hp, if_neg hp, sgn_abs hs]
        refine ⟨?_, lt_pow_mono (a := 1) (by decide) (by decide), by decide⟩
        rw [Int.natAbs_mul, Int.natAbs_pow]
        have h1 : m.natAbs * Int.natAbs 2 ^ p.toNat < 2 ^ 53 * 2 ^ p.toNat := Nat.mul_lt_mul_of_pos_right hm (Nat.two_pow_pos _)
        rw [← Nat.pow_add] at h1
        exact lt_pow_mono h1 (by omega)
def sp_orderof (C : Addr) : Sp := fun vs H Q _ => ∃ v u n m, vs = [v, u] ∧ NumAt C H v n ∧ NumAt C H u m ∧ nOk n ∧ nOk m ∧ ∀ H', Same H H' → Q (oV (ordN n m)) H'
theorem ok_orderof {f : Addr} {fd : FuncData} (F : FunD K "order_of" "order_of" (defArgs s_orderof) (defBody s_orderof) (defScope s_orderof) [] [] f fd) (B : Blt mg) (c_placeof : Fn P w K mg base CX0 2 "place_of" ["number"] [] (sp_placeof C)) : FnOk P w K mg base CX0 3 f fd ["one", "other"] (sp_orderof C) := by
  refine F.ok sc_orderof (fun vs H Q E h => ?_) (fun cdv A outer s H vs Q E hr h => ?_)
  · obtain ⟨_, _, _, _, rfl, _⟩ := h; rfl
  · obtain ⟨v, u, n, m, rfl, hn, hm, on, om, q⟩ := h
    refine ⟨_, PSs.nox (pss_cons (ps_par (i := 2) (j := 3) rfl sc_orderof.nd rfl rfl (by decide) rfl rfl (pa_cons (pe_fn c_placeof (hr.mono (by decide)) pass0 (pa_cons (pv 0) pa_nil)) (pa_cons (pe_fn c_placeof (hr.mono (by decide)) pass0 (pa_cons (pv 1) pa_nil)) pa_nil)) (by rfl))
  (pss_cons (ps_if (PW.pt (pw_or (pt_cmpR op_isN (pv 2) pe_non (nomark _)) (pw_or1 (pt_cmpR op_isN (pv 3) pe_non (nomark _))))) (pss_one (ps_ret pe_non)) pss_nil)
  (pss_cons (ps_set (i := 4) sc_orderof.nd rfl (Or.inl rfl) (pe_op op_oSub (pe_op op_oMul (pe_ix ix_seq (pv 2) pe_int (fun _ _ => rfl)) (pe_ix ix_seq (pv 3) pe_int (fun _ _ => rfl))) (pe_op op_oMul (pe_ix ix_seq (pv 3) pe_int (fun _ _ => rfl)) (pe_ix ix_seq (pv 2) pe_int (fun _ _ => rfl)))))
  (pss_one (ps_ret (pe_op op_oSub (pe_cmpR op_oGt (pv 4) pe_int (nomark _)) (pe_cmpR op_oLt (pv 4) pe_int (nomark _)))))))), ?_⟩
    walk_at "go"
    refine ⟨v, n, rfl, hn, ?_⟩
    unfold ordN at q
    have sn := plc_small on
    have sm := plc_small om
    cases en : plc n with
    | none =>
      rw [en] at q
      intro H1 s1
      walk_at "go"
      refine ⟨u, m, rfl, hm.same s1, ?_⟩
      cases em : plc m with
      | none =>
        intro H2 s2
        walk_at "go"
        refine g_yes rfl ?_
        walk_at "go"
        exact q _ (s1.trans s2)
      | some xy =>
        intro H2 a2 na2 s2 ha2
        walk_at "go"
        refine g_yes rfl ?_
        walk_at "go"
        exact q _ (s1.trans s2)
    | some xy =>
      rw [en] at q
      intro H1 a1 na1 s1 ha1
      walk_at "go"
      refine ⟨u, m, rfl, hm.same s1, ?_⟩
      cases em : plc m with
      | none =>
        rw [em] at q
        intro H2 s2
        walk_at "go"
        refine g_no (fun z => nomatch z) ?_
        walk_at "go"
        refine g_yes rfl ?_
        walk_at "go"
        exact q _ (s1.trans s2)
      | some zw =>
        rw [em] at q
        intro H2 a2 na2 s2 ha2
        obtain ⟨p1, p2, p3⟩ := sn _ _ en
        obtain ⟨r1, r2, r3⟩ := sm _ _ em
        have hb := s2 _ _ ha1
        walk_at "go"
        refine g_no (fun z => nomatch z) ?_
        walk_at "go"
        refine g_no (fun z => nomatch z) ?_
        walk_at "go"
        refine g_ixT hb rfl ?_
        walk_at "go"
        refine g_ixT ha2 rfl ?_
        refine g_mulI (mul_small (lt_pow_mono p1 (by decide)) (lt_pow_mono r2 (by decide))) ?_
        walk_at "go"
        refine g_ixT ha2 rfl ?_
        walk_at "go"
        refine g_ixT hb rfl ?_
        refine g_mulI (mul_small (lt_pow_mono r1 (by decide)) (lt_pow_mono p2 (by decide))) ?_
        walk_at "go"
        exact q _ (s1.trans s2)
/-! compare -/
abbrev s_compare : Stmt := top 35
theorem sc_compare : FnScope ["word", "one", "other", "order"] ["word", "one", "other"] (defScope s_compare) := ⟨rfl, rfl, rfl, by decide +kernel, rfl, by decide +kernel, by decide +kernel⟩
def cmpN (x : Str) (n m : Nm) : Bool := match ordN n m with
  | none => false
  | some o => if x = "lt" then decide (o < 0) else decide (o ≤ 0)
def sp_compare (C : Addr) : Sp := fun vs H Q _ => ∃ x v u n m, vs = [.str x, v, u] ∧ NumAt C H v n ∧ NumAt C H u m ∧ nOk n ∧ nOk m ∧ ∀ H', Same H H' → Q (.bl (cmpN x n m)) H'
theorem ok_compare {f : Addr} {fd : FuncData} (F : FunD K "compare" "compare" (defArgs s_compare) (defBody s_compare) (defScope s_compare) [] [] f fd) (B : Blt mg) (c_orderof : Fn P w K mg base CX0 3 "order_of" ["one", "other"] [] (sp_orderof C)) : FnOk P w K mg base CX0 4 f fd ["word", "one", "other"] (sp_compare C) := by
  refine F.ok sc_compare (fun vs H Q E h => ?_) (fun cdv A outer s H vs Q E hr h => ?_)
  · obtain ⟨_, _, _, _, _, rfl, _⟩ := h; rfl
  · obtain ⟨x, v, u, n, m, rfl, hn, hm, on, om, q⟩ := h
    refine ⟨_, PSs.nox (pss_cons (ps_set (i := 3) sc_compare.nd rfl (Or.inl rfl) (pe_fn c_orderof (hr.mono (by decide)) pass0 (pa_cons (pv 1) (pa_cons (pv 2) pa_nil))))
  (pss_cons (ps_if (pt_cmpR op_isN (pv 3) pe_non (nomark _)) (pss_one (ps_ret pe_bl)) pss_nil)
  (pss_one (ps_ret (pe_ifExp (pt_cmpR (op_oEq hr.units) (pv 0) pe_str (nomark _)) (pe_cmpR op_oLt (pv 3) pe_int (nomark _)) (pe_cmpR op_oLe (pv 3) pe_int (nomark _))))))), ?_⟩
    walk_at "go"
    refine ⟨v, u, n, m, rfl, hn, hm, on, om, fun H1 s1 => ?_⟩
    walk_at "go"
    unfold cmpN at q
    cases eo : ordN n m with
    | none =>
      rw [eo] at q
      refine g_yes rfl ?_
      walk_at "go"
      exact q _ s1
    | some o =>
      rw [eo] at q
      refine g_no (fun z => nomatch z) ?_
      walk_at "go"
      refine g_ite (fun hx => ?_) fun hx => ?_
      · walk_at "go"
        have q' := q _ s1
        simp only [hx, if_true] at q'
        exact q'
      · walk_at "go"
        have q' := q _ s1
        simp only [hx, if_false] at q'
        exact q'
end
end Up

set_option Elab.async false
set_option linter.all false
set_option maxRecDepth 100000
set_option maxHeartbeats 4000000
set_option exponentiation.threshold 200000
namespace Up
open PySem PySem.Spec PyProof.Rows L2
local macro_rules | `(tactic| walk_at "u") => `(tactic| first
  | with_reducible refine g_seq ?_
  | with_reducible refine g_asg ?_
  | with_reducible refine g_op ?_
  | ((with_reducible show tVar _ _ _ _); apply g_var; exact rfl)
  | with_reducible refine g_c ?_
  | with_reducible refine g_name ?_
  | with_reducible refine g_ifs ?_
  | with_reducible refine g_tt ?_
  | with_reducible refine g_tB ?_
  | with_reducible refine g_bl ?_
  | with_reducible refine g_ret ?_
  | with_reducible refine g_cb ?_
  | with_reducible refine g_cons ?_
  | with_reducible refine g_nil ?_
  | with_reducible refine g_call ?_
  | with_reducible refine g_and ?_
  | with_reducible refine g_or ?_
  | with_reducible refine g_not ?_
  | with_reducible refine g_andV ?_
  | with_reducible refine g_orV ?_
  | with_reducible refine g_notV ?_
  | with_reducible refine g_if ?_
  | with_reducible refine g_un ?_
  | with_reducible refine g_neg ?_
  | with_reducible refine g_addI ?_
  | with_reducible refine g_subI ?_
  | with_reducible refine g_subB ?_
  | with_reducible refine g_I0 ?_
  | with_reducible refine g_cmpI ?_
  | with_reducible refine g_eqI ?_
  | with_reducible refine g_neI ?_
  | with_reducible refine g_eqS ?_
  | with_reducible refine g_neS ?_
  | with_reducible refine g_eqB ?_
  | with_reducible refine g_neB ?_
  | with_reducible refine g_bits ?_
  | with_reducible refine g_bitsI ?_
  | with_reducible refine g_fld ?_
  | with_reducible refine g_tup ?_
  | with_reducible refine g_lst ?_
  | with_reducible refine g_gtup ?_
  | with_reducible refine g_make ?_
  | with_reducible refine g_lc ?_
  | with_reducible refine g_yesT ?_
  | with_reducible refine g_intI ?_
  | with_reducible refine g_intB ?_
  | with_reducible refine g_max2 ?_
  | with_reducible refine g_abs1 ?_
  | with_reducible refine g_for ?_
  | with_reducible refine g_iList ?_
  | with_reducible refine g_iTup ?_
  | with_reducible refine g_iRng1 ?_
  | with_reducible refine g_iEnum ?_
  | with_reducible refine g_slice ?_
  | with_reducible refine g_po0 ?_
  | with_reducible refine g_po1 ?_
  | with_reducible refine g_gsub ?_
  | with_reducible refine g_par ?_
  | with_reducible refine g_par2 ?_
  | with_reducible refine g_rfl ?_
  | with_reducible refine g_meth ?_
  | with_reducible refine g_gcons ?_
  | with_reducible refine g_gnil ?_
  | with_reducible refine g_gfld ?_
  | with_reducible refine g_sfld ?_
  | with_reducible refine g_drop ?_
  | with_reducible refine g_next ?_
  | with_reducible refine iteT ?_
  | with_reducible refine iteF ?_)
local macro_rules | `(tactic| walk_at "go") => `(tactic| (repeat walk_at "u"))

/-! ### floats by their parts -/
structure FL where
  s : Int
  t : V
  p : Int
def FL.ok (x : FL) : Prop := FlOk x.s x.t x.p
def FA (C : Addr) (H : Hp) (v : V) (x : FL) : Prop := ∃ a, v = .ref a ∧ FlAt C H a x.s x.t x.p
theorem FA.same {C : Addr} {H H' : Hp} {v : V} {x : FL} (h : FA C H v x) (e : Same H H') : FA C H' v x := by
  obtain ⟨a, rfl, h⟩ := h
  exact ⟨a, rfl, h.same e⟩
def RetN (C : Addr) (H : Hp) (x : FL) (Q : VK) : Prop := ∀ H' v, Same H H' → FA C H' v x → Q v H'
theorem RetN.later {C : Addr} {H H1 : Hp} {x : FL} {Q : VK} (q : RetN C H x Q) (s : Same H H1) : RetN C H1 x Q := fun H' v s' h => q H' v (s.trans s') h
theorem RetN.to {C : Addr} {H : Hp} {x : FL} {Q : VK} (q : RetN C H x Q) : RetF C H x.s x.t x.p Q := fun H' a _ s h => q H' _ s ⟨a, rfl, h⟩
def mkL (s : Int) (v : V × Int) : FL := ⟨s, (redV v.1 v.2).1, (redV v.1 v.2).2⟩
def nanL : FL := ⟨1, .str "nan", 0⟩
def infL (s : Int) : FL := ⟨s, .str "inf", 0⟩
def zeroL (s : Int) : FL := ⟨s, .int 0, 0⟩
def nearL (s : Int) (t b : Nat) : FL := mkL s (nearV t b)
theorem near_zero (s : Int) (b : Nat) : nearL s 0 b = zeroL s := rfl
theorem mkL_ok {s : Int} {v : V × Int} (h : MkOk s v.1 v.2) : (mkL s v).ok := mk_flok h
theorem near_ok {s : Int} {t b : Nat} (hs : s = 1 ∨ s = -1) (hb : 0 < b) : (nearL s t b).ok := mkL_ok (near_mk hs hb)
theorem nan_ok : nanL.ok := ⟨.inl rfl, .inl ⟨rfl, rfl, rfl⟩⟩
theorem inf_ok {s : Int} (hs : s = 1 ∨ s = -1) : (infL s).ok := ⟨hs, .inr (.inl ⟨rfl, rfl⟩)⟩
theorem zero_mk {s : Int} (hs : s = 1 ∨ s = -1) : MkOk s (.int 0) 0 := mk_of_flok (n := 0) hs (by decide) (by decide) (by decide)
theorem zero_ok {s : Int} (hs : s = 1 ∨ s = -1) : (zeroL s).ok := mkL_ok (v := (.int 0, 0)) (zero_mk hs)
theorem FL.ok.is {x : FL} (h : x.ok) : IS x.t := by
  rcases h.2 with ⟨e, _⟩ | ⟨e, _⟩ | ⟨n, e, _⟩
  · exact .inr ⟨_, e⟩
  · exact .inr ⟨_, e⟩
  · exact .inl ⟨_, e⟩
theorem FL.ok.fin {x : FL} (h : x.ok) (h1 : x.t ≠ .str "nan") (h2 : x.t ≠ .str "inf") : ∃ n, x.t = .int n ∧ FinOk n x.p := by
  rcases h.2 with ⟨e, _⟩ | ⟨e, _⟩ | h
  · exact absurd e h1
  · exact absurd e h2
  · exact h
/-- made again of its own parts it is the same -/
theorem red_again {s : Int} {t : V} {p : Int} (h : FlOk s t p) : redV t p = (t, p) := by
  rcases h.2 with ⟨rfl, _, rfl⟩ | ⟨rfl, rfl⟩ | ⟨n, rfl, f1, f2, f3, f4, f5, f6⟩
  · rfl
  · rfl
  · by_cases h0 : n = 0
    · subst h0
      rw [f5 rfl]; rfl
    · obtain ⟨k, rfl⟩ := Int.eq_ofNat_of_zero_le f1
      have ho : k % 2 = 1 := by have := f6 h0; omega
      rw [red_nat (by omega), tz_odd ho]
      simp
def nI : V → Int
  | .int n => n
  | _ => 0
def nx (x : FL) : Int := ratN x.s (nI x.t) x.p
def dx (x : FL) : Int := ratD x.p
theorem rat_small {s n p : Int} (h : FlOk s (.int n) p) : (ratN s n p).natAbs < 2 ^ 1100 ∧ (ratD p).natAbs < 2 ^ 1100 ∧ 0 < ratD p := by
  have hf := fin_of h
  have hs := h.1
  have hhi := hf.hi
  obtain ⟨f1, f2, f3, f4, f5⟩ := hf
  have hm : n.natAbs < 2 ^ 53 := by omega
  unfold ratN ratD
  by_cases hp : p < 0
  · rw [if_pos hp, if_pos hp, sgn_abs hs]
    refine ⟨lt_pow_mono hm (by decide), ?_, Int.pow_pos (by decide)⟩
    rw [Int.natAbs_pow]
    exact Nat.pow_lt_pow_right (by decide) (by omega)
  · rw [if_neg hp, if_neg hp, sgn_abs hs]
    refine ⟨?_, lt_pow_mono (a := 1) (by decide) (by decide), by decide⟩
    rw [Int.natAbs_mul, Int.natAbs_pow]
    have h1 : n.natAbs * Int.natAbs 2 ^ p.toNat < 2 ^ 53 * 2 ^ p.toNat := Nat.mul_lt_mul_of_pos_right hm (Nat.two_pow_pos _)
    rw [← Nat.pow_add] at h1
    exact lt_pow_mono h1 (by omega)
theorem FL.ok.small {x : FL} (h : x.ok) {n : Int} (e : x.t = .int n) : (nx x).natAbs < 2 ^ 1100 ∧ (dx x).natAbs < 2 ^ 1100 ∧ 0 < dx x := by
  have h : FlOk x.s x.t x.p := h
  unfold nx dx
  rw [e] at h ⊢
  exact rat_small h
def maxI (i j : Int) : Int := if j > i then j else i
theorem maxI_sgn {i j : Int} (hi : i = 1 ∨ i = -1) (hj : j = 1 ∨ j = -1) : maxI i j = 1 ∨ maxI i j = -1 := by
  unfold maxI; split
  · exact hj
  · exact hi
theorem tfS_sgn (k : Int) : tfS k = 1 ∨ tfS k = -1 := by unfold tfS; split <;> simp
theorem mul_sgn {i j : Int} (hi : i = 1 ∨ i = -1) (hj : j = 1 ∨ j = -1) : i * j = 1 ∨ i * j = -1 := by
  rcases hi with rfl | rfl <;> rcases hj with rfl | rfl <;> simp
/-! what is reckoned -/
def addL (x y : FL) : FL :=
  if x.t = .str "inf" ∨ y.t = .str "inf" then (if x.t = y.t ∧ x.s ≠ y.s then nanL else if x.t = .str "inf" then x else y)
  else if x.t = .int 0 ∧ y.t = .int 0 then zeroL (maxI x.s y.s)
  else nearL (tfS (nx x * dx y + nx y * dx x)) (nx x * dx y + nx y * dx x).natAbs (dx x * dx y).natAbs
def mulL (x y : FL) : FL :=
  if x.t = .str "inf" ∨ y.t = .str "inf" then (if x.t = .int 0 ∨ y.t = .int 0 then nanL else infL (x.s * y.s))
  else nearL (x.s * y.s) (nx x * nx y).natAbs (dx x * dx y).natAbs
def divL (x y : FL) : FL :=
  if x.t = .str "inf" then (if y.t = .str "inf" then nanL else infL (x.s * y.s))
  else if y.t = .str "inf" then zeroL (x.s * y.s)
  else if y.t = .int 0 then (if x.t = .int 0 then nanL else infL (x.s * y.s))
  else nearL (x.s * y.s) (nx x * dx y).natAbs (dx x * nx y).natAbs
def negL (x : FL) : FL := ⟨0 - x.s, x.t, x.p⟩
def byL (c : Str) (x y : FL) : FL :=
  if x.t = .str "nan" ∨ y.t = .str "nan" then nanL
  else if c = "add" then addL x y else if c = "sub" then addL x (negL y) else if c = "mul" then mulL x y else divL x y
section
variable {P : Program} {w : World} {K : PySem.W.Frag} {mg : Str → Option Value} {base : Heap} {C : Addr}
section
variable {H : Hp} {a : Addr} {s : Int} {t : V} {p : Int} {T : V → Prop}
theorem show_ex {p : Addr → Prop} (h : ∃ a, p a) : ∃ a, p a := h
theorem fS (O : FlC K mg C) (h : FlAt C H a s t p) (q : T (.int s)) : ∃ a' C' dx fs v, V.ref a = .ref a' ∧ H a' = some (.ins C' dx fs) ∧ Cls K C' ∧ NoAttr K C' "sign" ∧ fs.lookup ("sign" : Str) = some v ∧ T v := by
  obtain ⟨dx, h⟩ := h
  exact ⟨a, C, dx, _, _, rfl, h, O.own.cl, O.nS, fl_sign _ _ _, q⟩
theorem fT (O : FlC K mg C) (h : FlAt C H a s t p) (q : T t) : ∃ a' C' dx fs v, V.ref a = .ref a' ∧ H a' = some (.ins C' dx fs) ∧ Cls K C' ∧ NoAttr K C' "top" ∧ fs.lookup ("top" : Str) = some v ∧ T v := by
  obtain ⟨dx, h⟩ := h
  exact ⟨a, C, dx, _, _, rfl, h, O.own.cl, O.nT, fl_top _ _ _, q⟩
theorem fP (O : FlC K mg C) (h : FlAt C H a s t p) (q : T (.int p)) : ∃ a' C' dx fs v, V.ref a = .ref a' ∧ H a' = some (.ins C' dx fs) ∧ Cls K C' ∧ NoAttr K C' "power" ∧ fs.lookup ("power" : Str) = some v ∧ T v := by
  obtain ⟨dx, h⟩ := h
  exact ⟨a, C, dx, _, _, rfl, h, O.own.cl, O.nP, fl_power _ _ _, q⟩
theorem g_rat {Q : VK} {E : XK} {n : Int} (h : FlAt C H a s (.int n) p) (o : FlOk s (.int n) p) (q : RetT H [.int (ratN s n p), .int (ratD p)] Q) :
    ∃ a' dx fs, V.ref a = .ref a' ∧ H a' = some (.ins C dx fs) ∧ fs.lookup ("ratio" : Str) = none ∧ tNil [] H fun vs H2 => sp_ratio C (V.ref a :: (vs ++ [])) H2 Q E := by
  obtain ⟨d, h'⟩ := id h
  exact ⟨a, d, _, rfl, h', rfl, a, s, n, p, rfl, h, o, q⟩
end
/-- Float(..) -/
theorem mkN {H : Hp} {Q : VK} {E : XK} {s : Int} {top : V} {p : Int} (hk : MkOk s top p) (q : RetN C H (mkL s (top, p)) Q) : MakeR C (sp_Finit C) ([.int s, top, .int p] ++ []) H Q E := mkF hk q.to
end
end Up

set_option Elab.async false
set_option linter.all false
set_option maxRecDepth 100000
set_option maxHeartbeats 4000000
set_option exponentiation.threshold 200000
namespace Up
open PySem PySem.Spec PyProof.Rows L2
local macro_rules | `(tactic| walk_at "u") => `(tactic| first
  | with_reducible refine g_seq ?_
  | with_reducible refine g_asg ?_
  | with_reducible refine g_op ?_
  | ((with_reducible show tVar _ _ _ _); apply g_var; exact rfl)
  | with_reducible refine g_c ?_
  | with_reducible refine g_name ?_
  | with_reducible refine g_ifs ?_
  | with_reducible refine g_tt ?_
  | with_reducible refine g_tB ?_
  | with_reducible refine g_bl ?_
  | with_reducible refine g_ret ?_
  | with_reducible refine g_cb ?_
  | with_reducible refine g_cons ?_
  | with_reducible refine g_nil ?_
  | with_reducible refine g_call ?_
  | with_reducible refine g_and ?_
  | with_reducible refine g_or ?_
  | with_reducible refine g_not ?_
  | with_reducible refine g_andV ?_
  | with_reducible refine g_orV ?_
  | with_reducible refine g_notV ?_
  | with_reducible refine g_if ?_
  | with_reducible refine g_un ?_
  | with_reducible refine g_neg ?_
  | with_reducible refine g_addI ?_
  | with_reducible refine g_subI ?_
  | with_reducible refine g_subB ?_
  | with_reducible refine g_I0 ?_
  | with_reducible refine g_cmpI ?_
  | with_reducible refine g_eqI ?_
  | with_reducible refine g_neI ?_
  | with_reducible refine g_eqS ?_
  | with_reducible refine g_neS ?_
  | with_reducible refine g_eqB ?_
  | with_reducible refine g_neB ?_
  | with_reducible refine g_bits ?_
  | with_reducible refine g_bitsI ?_
  | with_reducible refine g_fld ?_
  | with_reducible refine g_tup ?_
  | with_reducible refine g_lst ?_
  | with_reducible refine g_gtup ?_
  | with_reducible refine g_make ?_
  | with_reducible refine g_lc ?_
  | with_reducible refine g_yesT ?_
  | with_reducible refine g_intI ?_
  | with_reducible refine g_intB ?_
  | with_reducible refine g_max2 ?_
  | with_reducible refine g_abs1 ?_
  | with_reducible refine g_for ?_
  | with_reducible refine g_iList ?_
  | with_reducible refine g_iTup ?_
  | with_reducible refine g_iRng1 ?_
  | with_reducible refine g_iEnum ?_
  | with_reducible refine g_slice ?_
  | with_reducible refine g_po0 ?_
  | with_reducible refine g_po1 ?_
  | with_reducible refine g_gsub ?_
  | with_reducible refine g_par ?_
  | with_reducible refine g_par2 ?_
  | with_reducible refine g_rfl ?_
  | with_reducible refine g_meth ?_
  | with_reducible refine g_gcons ?_
  | with_reducible refine g_gnil ?_
  | with_reducible refine g_gfld ?_
  | with_reducible refine g_sfld ?_
  | with_reducible refine g_drop ?_
  | with_reducible refine g_next ?_
  | with_reducible refine iteT ?_
  | with_reducible refine iteF ?_)
local macro_rules | `(tactic| walk_at "go") => `(tactic| (repeat walk_at "u"))
local macro_rules | `(tactic| walk_at "f") => `(tactic| (repeat (first
  | walk_at "u"
  | with_reducible refine g_chain ?_
  | with_reducible refine g_par3 ?_
  | with_reducible refine g_par3' ?_
  | ((with_reducible refine show_ex ?_); first
    | refine fT (by assumption) (by assumption) ?_
    | refine fS (by assumption) (by assumption) ?_
    | refine fP (by assumption) (by assumption) ?_))))

section
variable {P : Program} {w : World} {K : PySem.W.Frag} {mg : Str → Option Value} {base : Heap} {C : Addr}
/-! nan -/
abbrev s_nan : Stmt := top 17
theorem sc_nan : FnScope [] [] (defScope s_nan) := ⟨rfl, rfl, rfl, by decide +kernel, rfl, by decide +kernel, by decide +kernel⟩
theorem nan_mk : MkOk 1 (.str "nan") 0 := ⟨.inl rfl, .inl ⟨rfl, rfl, rfl⟩⟩
def sp_nan (C : Addr) : Sp := fun vs H Q _ => vs = [] ∧ RetN C H nanL Q
theorem ok_nan {f : Addr} {fd : FuncData} (F : FunD K "nan" "nan" (defArgs s_nan) (defBody s_nan) (defScope s_nan) [] [] f fd) (c_Float : CnF P w K mg base C) : FnOk P w K mg base CX0 4 f fd [] (sp_nan C) := by
  refine F.ok sc_nan (fun vs H Q E h => ?_) (fun cdv A outer s H vs Q E hr h => ?_)
  · obtain ⟨rfl, _⟩ := h; rfl
  · obtain ⟨rfl, q⟩ := h
    refine ⟨_, PSs.nox (pss_one (ps_ret (pe_cn c_Float (hr.mono (by decide)) pass0 (pa_cons pe_int (pa_cons pe_str (pa_cons pe_int pa_nil)))))), ?_⟩
    walk_at "go"
    exact mkN nan_mk q
/-! Float.__eq__ -/
abbrev s_Float_eq : Stmt := inClass (top 12) 2
theorem sc_Float_eq : FnScope ["self", "other"] ["self", "other"] (defScope s_Float_eq) := ⟨rfl, rfl, rfl, by decide +kernel, rfl, by decide +kernel, by decide +kernel⟩
def eqL (x y : FL) : Bool := decide (x.s = y.s) && (decide (x.t = y.t) && decide (x.p = y.p))
theorem eqL_refl (x : FL) : eqL x x = true := by unfold eqL; simp
def tpD (x : FL) : PyData := .tuple [.int x.s, dV x.t, .int x.p]
theorem tp_shape {x : FL} (h : x.ok) : SeqAt.shaped (tpD x) = true := by
  have h : FlOk x.s x.t x.p := h
  unfold tpD
  rcases h.2 with ⟨e, _⟩ | ⟨e, _⟩ | ⟨n, e, _⟩
  · rw [e]; show SeqAt.shaped (.tuple [.int x.s, .str "nan", .int x.p]) = true; unfold SeqAt.shaped; simp only [PyData.canLay0, PyData.canLayAll0, Bool.true_and, Bool.and_true, Bool.and_eq_true, decide_eq_true_eq]; exact ⟨by decide +kernel, by simp [PyData.depth, PyData.depthAll]⟩
  · rw [e]; show SeqAt.shaped (.tuple [.int x.s, .str "inf", .int x.p]) = true; unfold SeqAt.shaped; simp only [PyData.canLay0, PyData.canLayAll0, Bool.true_and, Bool.and_true, Bool.and_eq_true, decide_eq_true_eq]; exact ⟨by decide +kernel, by simp [PyData.depth, PyData.depthAll]⟩
  · rw [e]; rfl
theorem tp_eqv {x y : FL} (hx : x.ok) (hy : y.ok) : PyData.eqv (tpD x) (tpD y) = eqL x y := by
  unfold tpD eqL
  simp only [PyData.eqv, PyData.eqvAll, hx.is.eqv hy.is, Bool.and_true]
  have e : ∀ i j : Int, (i == j) = decide (i = j) := fun i j => by by_cases h : i = j <;> simp [h]
  rw [e, e]
def sp_Feq (C : Addr) : Sp := fun vs H Q _ => ∃ v u x y, vs = [v, u] ∧ FA C H v x ∧ FA C H u y ∧ x.ok ∧ y.ok ∧ ∀ H', Same H H' → Q (.bl (eqL x y)) H'
theorem ok_Feq {f : Addr} {fd : FuncData} (F : FunD K "__eq__" "Float.__eq__" (defArgs s_Float_eq) (defBody s_Float_eq) (defScope s_Float_eq) [] [] f fd) (B : Blt mg) (T : FlC K mg C) : FnOk P w K mg base CX0 1 f fd ["self", "other"] (sp_Feq C) := by
  have g_Float : mg "Float" = some (.ref C) := T.mg
  refine F.ok sc_Float_eq (fun vs H Q E h => ?_) (fun cdv A outer s H vs Q E hr h => ?_)
  · obtain ⟨_, _, _, _, rfl, _⟩ := h; rfl
  · obtain ⟨_, _, x, y, rfl, ⟨a, rfl, ha⟩, ⟨b, rfl, hb⟩, ox, oy, q⟩ := h
    refine ⟨_, PSs.nox (pss_cons (ps_if (pt_not (pt_val (pe_callB call_isi (by rfl) B.isinstance (by decide +kernel) (pa_cons (pv 1) (pa_cons (pe_gref g_Float) pa_nil))))) (pss_one ps_never) pss_nil)
  (pss_one (ps_ret (pe_cmpR (op_oEq hr.units) (pe_tupN (pa_cons (pe_fld (pv 0) rfl) (pa_cons (pe_fld (pv 0) rfl) (pa_cons (pe_fld (pv 0) rfl) pa_nil)))) (pe_tupN (pa_cons (pe_fld (pv 1) rfl) (pa_cons (pe_fld (pv 1) rfl) (pa_cons (pe_fld (pv 1) rfl) pa_nil)))) (nomark _))))), ?_⟩
    walk_at "f"
    refine g_isiF (kf_fl T hb) ?_
    walk_at "f"
    refine iteF ?_
    walk_at "f"
    refine g_new (sz rfl) fun c H1 n1 s1 h1 _ => ?_
    have ha := ha.same s1
    have hb := hb.same s1
    walk_at "f"
    refine g_new (sz rfl) fun d H2 n2 s2 h2 _ => ?_
    refine .inr ⟨tpD x, tpD y, .tup (SqT.of (s2 _ _ h1)) (.cons (.int _) (.cons ox.is.dp (.cons (.int _) .nil))), .tup (SqT.of h2) (.cons (.int _) (.cons oy.is.dp (.cons (.int _) .nil))), tp_shape ox, tp_shape oy, ?_⟩
    rw [tp_eqv ox oy]
    exact q _ (s1.trans s2)
/-! added -/
abbrev s_added : Stmt := top 28
theorem sc_added : FnScope ["one", "other", "first", "second", "top"] ["one", "other"] (defScope s_added) := ⟨rfl, rfl, rfl, by decide +kernel, rfl, by decide +kernel, by decide +kernel⟩
theorem cast_abs {k : Int} (h : 0 < k) : ((k.natAbs : Nat) : Int) = k := by omega
theorem abs_if (k : Int) : (if k < 0 then -k else k) = (k.natAbs : Int) := by split <;> omega
theorem add_lt {x y : Int} {a : Nat} (hx : x.natAbs < 2 ^ a) (hy : y.natAbs < 2 ^ a) : (x + y).natAbs < 2 ^ (a + 1) := by
  rw [Nat.pow_succ]; omega
theorem dd_pos {x y : Int} (hx : 0 < x) (hy : 0 < y) : 0 < (x * y).natAbs := by
  have := Int.mul_pos hx hy
  omega
theorem bits6 {n a : Nat} (h : n < 2 ^ a) (ha : a ≤ 6000) : bitsN n ≤ 6000 := Nat.le_trans (bits_le h) ha
def sp_added (C : Addr) : Sp := fun vs H Q _ => ∃ v u x y, vs = [v, u] ∧ FA C H v x ∧ FA C H u y ∧ x.ok ∧ y.ok ∧ x.t ≠ .str "nan" ∧ y.t ≠ .str "nan" ∧ RetN C H (addL x y) Q
abbrev CNear (P : Program) (w : World) (K : PySem.W.Frag) (mg : Str → Option Value) (base : Heap) (C : Addr) : Prop := Fn P w K mg base CX0 5 "nearest" ["sign", "top", "bottom"] [] (sp_nearest C)
abbrev CSign (P : Program) (w : World) (K : PySem.W.Frag) (mg : Str → Option Value) (base : Heap) : Prop := Fn P w K mg base CX0 1 "sign_of" ["is_negative"] [] sp_signof
abbrev CRat (P : Program) (w : World) (K : PySem.W.Frag) (mg : Str → Option Value) (base : Heap) (C : Addr) : Prop := Mt P w K mg base CX0 1 C "ratio" ["self"] (sp_ratio C)
abbrev CNan (P : Program) (w : World) (K : PySem.W.Frag) (mg : Str → Option Value) (base : Heap) (C : Addr) : Prop := Fn P w K mg base CX0 4 "nan" [] [] (sp_nan C)
abbrev CInf (P : Program) (w : World) (K : PySem.W.Frag) (mg : Str → Option Value) (base : Heap) (C : Addr) : Prop := Fn P w K mg base CX0 4 "infinity" ["sign"] [] (sp_infinity C)
theorem ok_added {f : Addr} {fd : FuncData} (F : FunD K "added" "added" (defArgs s_added) (defBody s_added) (defScope s_added) [] [] f fd) (B : Blt mg) (T : FlC K mg C) (c_Float : CnF P w K mg base C) (c_nan : CNan P w K mg base C) (c_ratio : CRat P w K mg base C) (c_nearest : CNear P w K mg base C) (c_signof : CSign P w K mg base) :
    FnOk P w K mg base CX0 6 f fd ["one", "other"] (sp_added C) := by
  refine F.ok sc_added (fun vs H Q E h => ?_) (fun cdv A outer s H vs Q E hr h => ?_)
  · obtain ⟨_, _, _, _, rfl, _⟩ := h; rfl
  · obtain ⟨_, _, x, y, rfl, ⟨a, rfl, ha⟩, ⟨b, rfl, hb⟩, ox, oy, nx1, ny1, q⟩ := h
    refine ⟨_, PSs.nox (pss_cons (ps_if (PW.pt (pw_or (pt_cmpR (op_oEq hr.units) (pe_fld (pv 0) rfl) pe_str (nomark _)) (pw_or1 (pt_cmpR (op_oEq hr.units) (pe_fld (pv 1) rfl) pe_str (nomark _))))) (pss_cons (ps_if (PW.pt (pw_and (pt_cmpR (op_oEq hr.units) (pe_fld (pv 0) rfl) (pe_fld (pv 1) rfl) (nomark _)) (pw_and1 (pt_cmpR (op_oNe hr.units) (pe_fld (pv 0) rfl) (pe_fld (pv 1) rfl) (nomark _))))) (pss_one (ps_ret (pe_fn0 c_nan (hr.mono (by decide)) pass0))) pss_nil)
  (pss_one (ps_ret (pe_ifExp (pt_cmpR (op_oEq hr.units) (pe_fld (pv 0) rfl) pe_str (nomark _)) (pv 0) (pv 1))))) pss_nil)
  (C8.pss_cut (ps_if (PW.pt (pw_and (pt_cmpR (op_oEq hr.units) (pe_fld (pv 0) rfl) pe_int (nomark _)) (pw_and1 (pt_cmpR (op_oEq hr.units) (pe_fld (pv 1) rfl) pe_int (nomark _))))) (pss_one (ps_ret (pe_cn c_Float (hr.mono (by decide)) pass0 (pa_cons (pe_callB (call_max2 rfl) (by rfl) B.max (by decide +kernel) (pa_cons (pe_fld (pv 0) rfl) (pa_cons (pe_fld (pv 1) rfl) pa_nil))) (pa_cons pe_int (pa_cons pe_int pa_nil)))))) pss_nil)
  (pss_cons (ps_par (i := 2) (j := 3) rfl sc_added.nd rfl rfl (by decide) rfl rfl (pa_cons (pe_mt0 c_ratio (hr.mono (by decide)) pass0 (pv 0)) (pa_cons (pe_mt0 c_ratio (hr.mono (by decide)) pass0 (pv 1)) pa_nil)) (by rfl))
  (pss_cons (ps_set (i := 4) sc_added.nd rfl (Or.inl rfl) (pe_op op_oAdd (pe_op op_oMul (pe_ix ix_seq (pv 2) pe_int (fun _ _ => rfl)) (pe_ix ix_seq (pv 3) pe_int (fun _ _ => rfl))) (pe_op op_oMul (pe_ix ix_seq (pv 3) pe_int (fun _ _ => rfl)) (pe_ix ix_seq (pv 2) pe_int (fun _ _ => rfl)))))
  (pss_one (ps_ret (pe_fn c_nearest (hr.mono (by decide)) pass0 (pa_cons (pe_fn c_signof (hr.mono (by decide)) pass0 (pa_cons (pe_cmpR op_oLt (pv 4) pe_int (nomark _)) pa_nil)) (pa_cons (pe_callB call_abs (by rfl) B.abs (by decide +kernel) (pa_cons (pv 4) pa_nil)) (pa_cons (pe_op op_oMul (pe_ix ix_seq (pv 2) pe_int (fun _ _ => rfl)) (pe_ix ix_seq (pv 3) pe_int (fun _ _ => rfl))) pa_nil)))))))))), ?_⟩
    unfold addL at q
    have fin : (¬ x.t = .str "inf") → (¬ y.t = .str "inf") → ¬ (x.t = .int 0 ∧ y.t = .int 0) → RetN C H (nearL (tfS (nx x * dx y + nx y * dx x)) (nx x * dx y + nx y * dx x).natAbs (dx x * dx y).natAbs) Q := fun h1 h2 h3 => by
      rw [if_neg (fun z => z.elim h1 h2), if_neg h3] at q; exact q
    have inf : (x.t = .str "inf" ∨ y.t = .str "inf") → RetN C H (if x.t = y.t ∧ x.s ≠ y.s then nanL else if x.t = .str "inf" then x else y) Q := fun h => by rw [if_pos h] at q; exact q
    walk_at "f"
    refine g_eqV (ox.is.scal (.str _)) ?_
    walk_at "f"
    have infw : (x.t = .str "inf" ∨ y.t = .str "inf") → RetN C H (if x.t = y.t ∧ x.s ≠ y.s then nanL else if x.t = .str "inf" then x else y) Q := inf
    refine g_ite (fun h1 => ?_) fun h1 => ?_
    · walk_at "f"
      refine g_eqV (ox.is.scal oy.is) ?_
      walk_at "f"
      have q := inf (.inl h1)
      refine g_ite (fun h2 => ?_) fun h2 => ?_
      · walk_at "f"
        refine g_iten (fun h3 => ?_) fun h3 => ?_
        · walk_at "f"
          rw [if_pos ⟨h2, h3⟩] at q
          exact ⟨rfl, q⟩
        · walk_at "f"
          refine g_eqV (ox.is.scal (.str _)) ?_
          walk_at "f"
          refine g_yes h1 ?_
          walk_at "f"
          rw [if_neg (fun z => z.2 h3), if_pos h1] at q
          exact q _ _ (Same.refl _) ⟨a, rfl, ha⟩
      · walk_at "f"
        refine g_eqV (ox.is.scal (.str _)) ?_
        walk_at "f"
        refine g_yes h1 ?_
        walk_at "f"
        rw [if_neg (fun z => h2 z.1), if_pos h1] at q
        exact q _ _ (Same.refl _) ⟨a, rfl, ha⟩
    · walk_at "f"
      refine g_eqV (oy.is.scal (.str _)) ?_
      walk_at "f"
      refine g_ite (fun h1' => ?_) fun h1' => ?_
      · walk_at "f"
        refine g_eqV (ox.is.scal oy.is) ?_
        walk_at "f"
        have q := inf (.inr h1')
        refine g_no (fun z => h1 (z.trans h1')) ?_
        walk_at "f"
        refine g_eqV (ox.is.scal (.str _)) ?_
        walk_at "f"
        refine g_no h1 ?_
        walk_at "f"
        rw [if_neg (fun z => h1 (z.1.trans h1')), if_neg h1] at q
        exact q _ _ (Same.refl _) ⟨b, rfl, hb⟩
      · obtain ⟨n, en, fn⟩ := ox.fin nx1 h1
        obtain ⟨m, em, fm⟩ := oy.fin ny1 h1'
        obtain ⟨x1, x2, x3⟩ := ox.small en
        obtain ⟨y1, y2, y3⟩ := oy.small em
        have q' := q
        rw [if_neg (fun z => z.elim h1 h1')] at q'
        walk_at "f"
        refine g_cut (fun σ' H2 => σ' = [some (.ref a), some (.ref b), none, none, none] ∧ H2 = H ∧ ¬ (x.t = .int 0 ∧ y.t = .int 0)) ?_ ?_
        · walk_at "f"
          refine g_eqV (ox.is.scal (.int _)) ?_
          walk_at "f"
          refine g_ite (fun h2 => ?_) fun h2 => ?_
          · walk_at "f"
            refine g_eqV (oy.is.scal (.int _)) ?_
            walk_at "f"
            refine g_ite (fun h3 => ?_) fun h3 => ?_
            · walk_at "f"
              rw [if_pos ⟨h2, h3⟩] at q'
              exact mkN (zero_mk (maxI_sgn ox.1 oy.1)) q'
            · walk_at "f"
              exact ⟨rfl, rfl, fun z => h3 z.2⟩
          · walk_at "f"
            exact ⟨rfl, rfl, fun z => h2 z.1⟩
        · rintro _ _ ⟨rfl, rfl, hz⟩
          rw [if_neg hz] at q'
          rw [en] at ha
          rw [em] at hb
          have ox' : FlOk x.s (.int n) x.p := en ▸ ox
          have oy' : FlOk y.s (.int m) y.p := em ▸ oy
          have enx : ratN x.s n x.p = nx x := by unfold nx; rw [en]; rfl
          have eny : ratN y.s m y.p = nx y := by unfold nx; rw [em]; rfl
          walk_at "f"
          refine g_rat ha ox' fun H1 c n1 s1 h1c => ?_
          rw [enx] at h1c
          walk_at "f"
          refine g_rat (hb.same s1) oy' fun H2 d n2 s2 h2d => ?_
          rw [eny] at h2d
          have h1c := s2 _ _ h1c
          walk_at "f"
          refine g_ixT h1c rfl ?_
          walk_at "f"
          refine g_ixT h2d rfl ?_
          refine g_mulI (mul_small (lt_pow_mono x1 (by decide)) (lt_pow_mono y2 (by decide))) ?_
          walk_at "f"
          refine g_ixT h2d rfl ?_
          walk_at "f"
          refine g_ixT h1c rfl ?_
          refine g_mulI (mul_small (lt_pow_mono y1 (by decide)) (lt_pow_mono x2 (by decide))) ?_
          walk_at "f"
          refine ⟨_, rfl, ?_⟩
          walk_at "f"
          refine g_ixT h1c rfl ?_
          walk_at "f"
          refine g_ixT h2d rfl ?_
          refine g_mulI (mul_small (lt_pow_mono x2 (by decide)) (lt_pow_mono y2 (by decide))) ?_
          walk_at "f"
          have ez : ratD x.p * ratD y.p = (((dx x * dx y).natAbs : Nat) : Int) := (cast_abs (Int.mul_pos x3 y3)).symm
          have es : sgnB (decide (nx x * ratD y.p + nx y * ratD x.p < 0)) = tfS (nx x * dx y + nx y * dx x) := by unfold sgnB tfS; by_cases h : nx x * dx y + nx y * dx x < 0 <;> simp [h] <;> simpa [dx] using h
          rw [es, abs_if, ez]
          exact ⟨_, _, _, rfl, tfS_sgn _, dd_pos x3 y3, bits6 (add_lt (natAbs_mul_lt x1 y2) (natAbs_mul_lt y1 x2)) (by decide), bits6 (natAbs_mul_lt x2 y2) (by decide), (q'.later (s1.trans s2)).to⟩
/-! multiplied -/
abbrev s_multiplied : Stmt := top 29
theorem sc_multiplied : FnScope ["one", "other", "sign", "first", "second"] ["one", "other"] (defScope s_multiplied) := ⟨rfl, rfl, rfl, by decide +kernel, rfl, by decide +kernel, by decide +kernel⟩
def sp_multiplied (C : Addr) : Sp := fun vs H Q _ => ∃ v u x y, vs = [v, u] ∧ FA C H v x ∧ FA C H u y ∧ x.ok ∧ y.ok ∧ x.t ≠ .str "nan" ∧ y.t ≠ .str "nan" ∧ RetN C H (mulL x y) Q
theorem inf_to {H : Hp} {Q : VK} {E : XK} {s : Int} (hs : s = 1 ∨ s = -1) (q : RetN C H (infL s) Q) : sp_infinity C ([.int s] ++ []) H Q E := ⟨s, rfl, hs, q.to⟩
theorem ok_multiplied {f : Addr} {fd : FuncData} (F : FunD K "multiplied" "multiplied" (defArgs s_multiplied) (defBody s_multiplied) (defScope s_multiplied) [] [] f fd) (B : Blt mg) (T : FlC K mg C) (c_nan : CNan P w K mg base C) (c_infinity : CInf P w K mg base C) (c_ratio : CRat P w K mg base C) (c_nearest : CNear P w K mg base C) :
    FnOk P w K mg base CX0 6 f fd ["one", "other"] (sp_multiplied C) := by
  refine F.ok sc_multiplied (fun vs H Q E h => ?_) (fun cdv A outer s H vs Q E hr h => ?_)
  · obtain ⟨_, _, _, _, rfl, _⟩ := h; rfl
  · obtain ⟨_, _, x, y, rfl, ⟨a, rfl, ha⟩, ⟨b, rfl, hb⟩, ox, oy, nx1, ny1, q⟩ := h
    refine ⟨_, PSs.nox (pss_cons (ps_set (i := 2) sc_multiplied.nd rfl (Or.inl rfl) (pe_op op_oMul (pe_fld (pv 0) rfl) (pe_fld (pv 1) rfl)))
  (C8.pss_cut (ps_if (PW.pt (pw_or (pt_cmpR (op_oEq hr.units) (pe_fld (pv 0) rfl) pe_str (nomark _)) (pw_or1 (pt_cmpR (op_oEq hr.units) (pe_fld (pv 1) rfl) pe_str (nomark _))))) (pss_one (ps_ret (pe_ifExp (pt_cmpR op_in_seq pe_int (pe_tupN (pa_cons (pe_fld (pv 0) rfl) (pa_cons (pe_fld (pv 1) rfl) pa_nil))) (by rfl)) (pe_fn0 c_nan (hr.mono (by decide)) pass0) (pe_fn c_infinity (hr.mono (by decide)) pass0 (pa_cons (pv 2) pa_nil))))) pss_nil)
  (pss_cons (ps_par (i := 3) (j := 4) rfl sc_multiplied.nd rfl rfl (by decide) rfl rfl (pa_cons (pe_mt0 c_ratio (hr.mono (by decide)) pass0 (pv 0)) (pa_cons (pe_mt0 c_ratio (hr.mono (by decide)) pass0 (pv 1)) pa_nil)) (by rfl))
  (pss_one (ps_ret (pe_fn c_nearest (hr.mono (by decide)) pass0 (pa_cons (pv 2) (pa_cons (pe_callB call_abs (by rfl) B.abs (by decide +kernel) (pa_cons (pe_op op_oMul (pe_ix ix_seq (pv 3) pe_int (fun _ _ => rfl)) (pe_ix ix_seq (pv 4) pe_int (fun _ _ => rfl))) pa_nil)) (pa_cons (pe_op op_oMul (pe_ix ix_seq (pv 3) pe_int (fun _ _ => rfl)) (pe_ix ix_seq (pv 4) pe_int (fun _ _ => rfl))) pa_nil))))))))), ?_⟩
    unfold mulL at q
    have hs := mul_sgn ox.1 oy.1
    walk_at "f"
    refine g_mulI (sgn_mul ox.1) ?_
    walk_at "f"
    refine g_cut (fun σ' H2 => σ' = [some (.ref a), some (.ref b), some (.int (x.s * y.s)), none, none] ∧ H2 = H ∧ ¬ (x.t = .str "inf" ∨ y.t = .str "inf")) ?_ ?_
    · have inf : (x.t = .str "inf" ∨ y.t = .str "inf") → RetN C H (if x.t = .int 0 ∨ y.t = .int 0 then nanL else infL (x.s * y.s)) Q := fun h => by rw [if_pos h] at q; exact q
      walk_at "f"
      refine g_eqV (ox.is.scal (.str _)) ?_
      walk_at "f"
      refine g_ite (fun h1 => ?_) fun h1 => ?_
      · have q := inf (.inl h1)
        walk_at "f"
        refine g_new (sz rfl) fun c H1 n1 s1 h1c _ => ?_
        refine g_in2 h1c (.int _) ox.is oy.is ?_
        walk_at "f"
        refine g_ite (fun h2 => ?_) fun h2 => ?_
        · walk_at "f"
          rw [if_pos h2] at q
          exact ⟨rfl, q.later s1⟩
        · walk_at "f"
          rw [if_neg h2] at q
          exact inf_to hs (q.later s1)
      · walk_at "f"
        refine g_eqV (oy.is.scal (.str _)) ?_
        walk_at "f"
        refine g_ite (fun h1' => ?_) fun h1' => ?_
        · have q := inf (.inr h1')
          walk_at "f"
          refine g_new (sz rfl) fun c H1 n1 s1 h1c _ => ?_
          refine g_in2 h1c (.int _) ox.is oy.is ?_
          walk_at "f"
          refine g_ite (fun h2 => ?_) fun h2 => ?_
          · walk_at "f"
            rw [if_pos h2] at q
            exact ⟨rfl, q.later s1⟩
          · walk_at "f"
            rw [if_neg h2] at q
            exact inf_to hs (q.later s1)
        · walk_at "f"
          exact ⟨rfl, rfl, fun z => z.elim h1 h1'⟩
    · rintro _ _ ⟨rfl, rfl, hz⟩
      rw [if_neg hz] at q
      obtain ⟨n, en, fn⟩ := ox.fin nx1 fun z => hz (.inl z)
      obtain ⟨m, em, fm⟩ := oy.fin ny1 fun z => hz (.inr z)
      obtain ⟨x1, x2, x3⟩ := ox.small en
      obtain ⟨y1, y2, y3⟩ := oy.small em
      rw [en] at ha
      rw [em] at hb
      have ox' : FlOk x.s (.int n) x.p := en ▸ ox
      have oy' : FlOk y.s (.int m) y.p := em ▸ oy
      have enx : ratN x.s n x.p = nx x := by unfold nx; rw [en]; rfl
      have eny : ratN y.s m y.p = nx y := by unfold nx; rw [em]; rfl
      walk_at "f"
      refine g_rat ha ox' fun H1 c n1 s1 h1c => ?_
      rw [enx] at h1c
      walk_at "f"
      refine g_rat (hb.same s1) oy' fun H2 d n2 s2 h2d => ?_
      rw [eny] at h2d
      have h1c := s2 _ _ h1c
      walk_at "f"
      refine g_ixT h1c rfl ?_
      walk_at "f"
      refine g_ixT h2d rfl ?_
      refine g_mulI (mul_small (lt_pow_mono x1 (by decide)) (lt_pow_mono y1 (by decide))) ?_
      walk_at "f"
      refine g_ixT h1c rfl ?_
      walk_at "f"
      refine g_ixT h2d rfl ?_
      refine g_mulI (mul_small (lt_pow_mono x2 (by decide)) (lt_pow_mono y2 (by decide))) ?_
      walk_at "f"
      have ez : ratD x.p * ratD y.p = (((dx x * dx y).natAbs : Nat) : Int) := (cast_abs (Int.mul_pos x3 y3)).symm
      rw [abs_if, ez]
      exact ⟨_, _, _, rfl, hs, dd_pos x3 y3, bits6 (natAbs_mul_lt x1 y1) (by decide), bits6 (natAbs_mul_lt x2 y2) (by decide), (q.later (s1.trans s2)).to⟩
/-! divided -/
abbrev s_divided : Stmt := top 30
theorem sc_divided : FnScope ["one", "other", "sign", "first", "second"] ["one", "other"] (defScope s_divided) := ⟨rfl, rfl, rfl, by decide +kernel, rfl, by decide +kernel, by decide +kernel⟩
def sp_divided (C : Addr) : Sp := fun vs H Q _ => ∃ v u x y, vs = [v, u] ∧ FA C H v x ∧ FA C H u y ∧ x.ok ∧ y.ok ∧ x.t ≠ .str "nan" ∧ y.t ≠ .str "nan" ∧ RetN C H (divL x y) Q
theorem nx_zero {x : FL} (h : x.ok) {n : Int} (e : x.t = .int n) (h0 : ¬ x.t = .int 0) : nx x ≠ 0 := by
  have hn : n ≠ 0 := fun z => h0 (by rw [e, z])
  have hs : x.s ≠ 0 := by rcases h.1 with z | z <;> rw [z] <;> decide
  unfold nx ratN
  rw [e]
  show (if x.p < 0 then x.s * n else x.s * (n * 2 ^ x.p.toNat)) ≠ 0
  have hp : (2 : Int) ^ x.p.toNat ≠ 0 := Int.ne_of_gt (Int.pow_pos (by decide))
  split
  · exact Int.mul_ne_zero hs hn
  · exact Int.mul_ne_zero hs (Int.mul_ne_zero hn hp)
theorem ok_divided {f : Addr} {fd : FuncData} (F : FunD K "divided" "divided" (defArgs s_divided) (defBody s_divided) (defScope s_divided) [] [] f fd) (B : Blt mg) (T : FlC K mg C) (c_Float : CnF P w K mg base C) (c_nan : CNan P w K mg base C) (c_infinity : CInf P w K mg base C) (c_ratio : CRat P w K mg base C) (c_nearest : CNear P w K mg base C) :
    FnOk P w K mg base CX0 6 f fd ["one", "other"] (sp_divided C) := by
  refine F.ok sc_divided (fun vs H Q E h => ?_) (fun cdv A outer s H vs Q E hr h => ?_)
  · obtain ⟨_, _, _, _, rfl, _⟩ := h; rfl
  · obtain ⟨_, _, x, y, rfl, ⟨a, rfl, ha⟩, ⟨b, rfl, hb⟩, ox, oy, nx1, ny1, q⟩ := h
    refine ⟨_, PSs.nox (pss_cons (ps_set (i := 2) sc_divided.nd rfl (Or.inl rfl) (pe_op op_oMul (pe_fld (pv 0) rfl) (pe_fld (pv 1) rfl)))
  (pss_cons (ps_if (pt_cmpR (op_oEq hr.units) (pe_fld (pv 0) rfl) pe_str (nomark _)) (pss_one (ps_ret (pe_ifExp (pt_cmpR (op_oEq hr.units) (pe_fld (pv 1) rfl) pe_str (nomark _)) (pe_fn0 c_nan (hr.mono (by decide)) pass0) (pe_fn c_infinity (hr.mono (by decide)) pass0 (pa_cons (pv 2) pa_nil))))) pss_nil)
  (pss_cons (ps_if (pt_cmpR (op_oEq hr.units) (pe_fld (pv 1) rfl) pe_str (nomark _)) (pss_one (ps_ret (pe_cn c_Float (hr.mono (by decide)) pass0 (pa_cons (pv 2) (pa_cons pe_int (pa_cons pe_int pa_nil)))))) pss_nil)
  (pss_cons (ps_if (pt_cmpR (op_oEq hr.units) (pe_fld (pv 1) rfl) pe_int (nomark _)) (pss_one (ps_ret (pe_ifExp (pt_cmpR (op_oEq hr.units) (pe_fld (pv 0) rfl) pe_int (nomark _)) (pe_fn0 c_nan (hr.mono (by decide)) pass0) (pe_fn c_infinity (hr.mono (by decide)) pass0 (pa_cons (pv 2) pa_nil))))) pss_nil)
  (pss_cons (ps_par (i := 3) (j := 4) rfl sc_divided.nd rfl rfl (by decide) rfl rfl (pa_cons (pe_mt0 c_ratio (hr.mono (by decide)) pass0 (pv 0)) (pa_cons (pe_mt0 c_ratio (hr.mono (by decide)) pass0 (pv 1)) pa_nil)) (by rfl))
  (pss_one (ps_ret (pe_fn c_nearest (hr.mono (by decide)) pass0 (pa_cons (pv 2) (pa_cons (pe_callB call_abs (by rfl) B.abs (by decide +kernel) (pa_cons (pe_op op_oMul (pe_ix ix_seq (pv 3) pe_int (fun _ _ => rfl)) (pe_ix ix_seq (pv 4) pe_int (fun _ _ => rfl))) pa_nil)) (pa_cons (pe_callB call_abs (by rfl) B.abs (by decide +kernel) (pa_cons (pe_op op_oMul (pe_ix ix_seq (pv 3) pe_int (fun _ _ => rfl)) (pe_ix ix_seq (pv 4) pe_int (fun _ _ => rfl))) pa_nil)) pa_nil))))))))))), ?_⟩
    unfold divL at q
    have hs := mul_sgn ox.1 oy.1
    walk_at "f"
    refine g_mulI (sgn_mul ox.1) ?_
    walk_at "f"
    refine g_eqV (ox.is.scal (.str _)) ?_
    walk_at "f"
    refine g_ite (fun h1 => ?_) fun h1 => ?_
    · walk_at "f"
      rw [if_pos h1] at q
      refine g_eqV (oy.is.scal (.str _)) ?_
      walk_at "f"
      refine g_ite (fun h2 => ?_) fun h2 => ?_
      · walk_at "f"
        rw [if_pos h2] at q
        exact ⟨rfl, q⟩
      · walk_at "f"
        rw [if_neg h2] at q
        exact inf_to hs q
    · rw [if_neg h1] at q
      walk_at "f"
      refine g_eqV (oy.is.scal (.str _)) ?_
      walk_at "f"
      refine g_ite (fun h2 => ?_) fun h2 => ?_
      · rw [if_pos h2] at q
        walk_at "f"
        exact mkN (zero_mk hs) q
      · rw [if_neg h2] at q
        walk_at "f"
        refine g_eqV (oy.is.scal (.int _)) ?_
        walk_at "f"
        refine g_ite (fun h3 => ?_) fun h3 => ?_
        · rw [if_pos h3] at q
          walk_at "f"
          refine g_eqV (ox.is.scal (.int _)) ?_
          walk_at "f"
          refine g_ite (fun h4 => ?_) fun h4 => ?_
          · walk_at "f"
            rw [if_pos h4] at q
            exact ⟨rfl, q⟩
          · walk_at "f"
            rw [if_neg h4] at q
            exact inf_to hs q
        · rw [if_neg h3] at q
          obtain ⟨n, en, fn⟩ := ox.fin nx1 h1
          obtain ⟨m, em, fm⟩ := oy.fin ny1 h2
          obtain ⟨x1, x2, x3⟩ := ox.small en
          obtain ⟨y1, y2, y3⟩ := oy.small em
          have y4 := nx_zero oy em h3
          rw [en] at ha
          rw [em] at hb
          have ox' : FlOk x.s (.int n) x.p := en ▸ ox
          have oy' : FlOk y.s (.int m) y.p := em ▸ oy
          have enx : ratN x.s n x.p = nx x := by unfold nx; rw [en]; rfl
          have eny : ratN y.s m y.p = nx y := by unfold nx; rw [em]; rfl
          walk_at "f"
          refine g_rat ha ox' fun H1 c n1 s1 h1c => ?_
          rw [enx] at h1c
          walk_at "f"
          refine g_rat (hb.same s1) oy' fun H2 d n2 s2 h2d => ?_
          rw [eny] at h2d
          have h1c := s2 _ _ h1c
          walk_at "f"
          refine g_ixT h1c rfl ?_
          walk_at "f"
          refine g_ixT h2d rfl ?_
          refine g_mulI (mul_small (lt_pow_mono x1 (by decide)) (lt_pow_mono y2 (by decide))) ?_
          walk_at "f"
          refine g_ixT h1c rfl ?_
          walk_at "f"
          refine g_ixT h2d rfl ?_
          refine g_mulI (mul_small (lt_pow_mono x2 (by decide)) (lt_pow_mono y1 (by decide))) ?_
          walk_at "f"
          rw [abs_if, abs_if]
          refine ⟨_, _, _, rfl, hs, ?_, bits6 (natAbs_mul_lt x1 y2) (by decide), bits6 (natAbs_mul_lt x2 y1) (by decide), (q.later (s1.trans s2)).to⟩
          have : ratD x.p * nx y ≠ 0 := Int.mul_ne_zero (Int.ne_of_gt x3) y4
          omega
/-! made with the other sign -/
theorem neg_sgn {s : Int} (hs : s = 1 ∨ s = -1) : 0 - s = 1 ∨ 0 - s = -1 := by rcases hs with rfl | rfl <;> simp
theorem neg_mk {x : FL} (h : x.ok) (h1 : x.t ≠ .str "nan") : MkOk (0 - x.s) x.t x.p ∧ mkL (0 - x.s) (x.t, x.p) = negL x := by
  have h' : FlOk x.s x.t x.p := h
  refine ⟨?_, ?_⟩
  · have hs := neg_sgn h'.1
    rcases h'.2 with ⟨e, _⟩ | ⟨e, e2⟩ | ⟨n, e, f1, f2, f3, f4, f5⟩
    · exact absurd e h1
    · exact ⟨hs, .inr (.inl ⟨e, e2⟩)⟩
    · obtain ⟨k, rfl⟩ := Int.eq_ofNat_of_zero_le f1
      rw [intBits_nat] at f4
      rw [e]
      exact mk_of_flok hs (by omega) f3 f4
  · unfold mkL negL
    rw [red_again h']
theorem neg_ok {x : FL} (h : x.ok) (h1 : x.t ≠ .str "nan") : (negL x).ok := by
  obtain ⟨a, b⟩ := neg_mk h h1
  rw [← b]
  exact mkL_ok a
def toL : Nm → FL
  | .i k => nearL (tfS k) k.natAbs 1
  | .f s t p => ⟨s, t, p⟩
def nBig : Nm → Prop
  | .i k => bigOk k
  | .f _ _ _ => True
theorem NumAt.tok {H : Hp} {v : V} : ∀ {n : Nm}, NumAt C H v n → (toL n).ok
  | .i k, _ => near_ok (tfS_sgn k) (by decide)
  | .f _ _ _, ⟨_, _, _, h⟩ => h
theorem g_tofl {H : Hp} {v : V} {Q : VK} {E : XK} : ∀ {n : Nm}, NumAt C H v n → nBig n → RetN C H (toL n) Q → sp_tofloat C ([v] ++ []) H Q E
  | .i k, h, b, q => ⟨v, .i k, rfl, h, b, q.to⟩
  | .f s t p, h, _, q => ⟨v, .f s t p, rfl, h, by
    obtain ⟨a, e, h, _⟩ := h
    exact q _ _ (Same.refl _) ⟨a, e, h⟩⟩
end
end Up

set_option Elab.async false
set_option linter.all false
set_option maxRecDepth 100000
set_option maxHeartbeats 4000000
set_option exponentiation.threshold 200000
namespace Up
open PySem PySem.Spec PyProof.Rows L2
local macro_rules | `(tactic| walk_at "u") => `(tactic| first
  | with_reducible refine g_seq ?_
  | with_reducible refine g_asg ?_
  | with_reducible refine g_op ?_
  | ((with_reducible show tVar _ _ _ _); apply g_var; exact rfl)
  | with_reducible refine g_c ?_
  | with_reducible refine g_name ?_
  | with_reducible refine g_ifs ?_
  | with_reducible refine g_tt ?_
  | with_reducible refine g_tB ?_
  | with_reducible refine g_bl ?_
  | with_reducible refine g_ret ?_
  | with_reducible refine g_cb ?_
  | with_reducible refine g_cons ?_
  | with_reducible refine g_nil ?_
  | with_reducible refine g_call ?_
  | with_reducible refine g_and ?_
  | with_reducible refine g_or ?_
  | with_reducible refine g_not ?_
  | with_reducible refine g_andV ?_
  | with_reducible refine g_orV ?_
  | with_reducible refine g_notV ?_
  | with_reducible refine g_if ?_
  | with_reducible refine g_un ?_
  | with_reducible refine g_neg ?_
  | with_reducible refine g_addI ?_
  | with_reducible refine g_subI ?_
  | with_reducible refine g_subB ?_
  | with_reducible refine g_I0 ?_
  | with_reducible refine g_cmpI ?_
  | with_reducible refine g_eqI ?_
  | with_reducible refine g_neI ?_
  | with_reducible refine g_eqS ?_
  | with_reducible refine g_neS ?_
  | with_reducible refine g_eqB ?_
  | with_reducible refine g_neB ?_
  | with_reducible refine g_bits ?_
  | with_reducible refine g_bitsI ?_
  | with_reducible refine g_fld ?_
  | with_reducible refine g_tup ?_
  | with_reducible refine g_lst ?_
  | with_reducible refine g_gtup ?_
  | with_reducible refine g_make ?_
  | with_reducible refine g_lc ?_
  | with_reducible refine g_yesT ?_
  | with_reducible refine g_intI ?_
  | with_reducible refine g_intB ?_
  | with_reducible refine g_max2 ?_
  | with_reducible refine g_abs1 ?_
  | with_reducible refine g_for ?_
  | with_reducible refine g_iList ?_
  | with_reducible refine g_iTup ?_
  | with_reducible refine g_iRng1 ?_
  | with_reducible refine g_iEnum ?_
  | with_reducible refine g_slice ?_
  | with_reducible refine g_po0 ?_
  | with_reducible refine g_po1 ?_
  | with_reducible refine g_gsub ?_
  | with_reducible refine g_par ?_
  | with_reducible refine g_par2 ?_
  | with_reducible refine g_rfl ?_
  | with_reducible refine g_meth ?_
  | with_reducible refine g_gcons ?_
  | with_reducible refine g_gnil ?_
  | with_reducible refine g_gfld ?_
  | with_reducible refine g_sfld ?_
  | with_reducible refine g_drop ?_
  | with_reducible refine g_next ?_
  | with_reducible refine iteT ?_
  | with_reducible refine iteF ?_)
local macro_rules | `(tactic| walk_at "go") => `(tactic| (repeat walk_at "u"))
local macro_rules | `(tactic| walk_at "f") => `(tactic| (repeat (first
  | walk_at "u"
  | with_reducible refine g_chain ?_
  | with_reducible refine g_par3 ?_
  | with_reducible refine g_par3' ?_
  | ((with_reducible refine show_ex ?_); first
    | refine fT (by assumption) (by assumption) ?_
    | refine fS (by assumption) (by assumption) ?_
    | refine fP (by assumption) (by assumption) ?_))))

section
variable {P : Program} {w : World} {K : PySem.W.Frag} {mg : Str → Option Value} {base : Heap} {C : Addr}
/-! by_floats -/
abbrev s_byfloats : Stmt := top 27
theorem sc_byfloats : FnScope ["word", "one", "other", "found"] ["word", "one", "other"] (defScope s_byfloats) := ⟨rfl, rfl, rfl, by decide +kernel, rfl, by decide +kernel, by decide +kernel⟩
def Wd (c : Str) : Prop := c = "add" ∨ c = "sub" ∨ c = "mul" ∨ c = "div"
def sp_byfloats (C : Addr) : Sp := fun vs H Q _ => ∃ c v u x y, vs = [.str c, v, u] ∧ Wd c ∧ FA C H v x ∧ FA C H u y ∧ x.ok ∧ y.ok ∧ RetN C H (byL c x y) Q
theorem ok_byfloats {f : Addr} {fd : FuncData} (F : FunD K "by_floats" "by_floats" (defArgs s_byfloats) (defBody s_byfloats) (defScope s_byfloats) [] [] f fd) (B : Blt mg) (T : FlC K mg C) (c_Float : CnF P w K mg base C) (c_nan : CNan P w K mg base C) (c_added : Fn P w K mg base CX0 6 "added" ["one", "other"] [] (sp_added C)) (c_multiplied : Fn P w K mg base CX0 6 "multiplied" ["one", "other"] [] (sp_multiplied C)) (c_divided : Fn P w K mg base CX0 6 "divided" ["one", "other"] [] (sp_divided C)) :
    FnOk P w K mg base CX0 7 f fd ["word", "one", "other"] (sp_byfloats C) := by
  refine F.ok sc_byfloats (fun vs H Q E h => ?_) (fun cdv A outer s H vs Q E hr h => ?_)
  · obtain ⟨_, _, _, _, _, rfl, _⟩ := h; rfl
  · obtain ⟨c, _, _, x, y, rfl, hc, ⟨a, rfl, ha⟩, ⟨b, rfl, hb⟩, ox, oy, q⟩ := h
    refine ⟨_, PSs.nox (pss_cons (ps_if (pt_cmpR op_in_seq pe_str (pe_tupN (pa_cons (pe_fld (pv 1) rfl) (pa_cons (pe_fld (pv 2) rfl) pa_nil))) (by rfl)) (pss_one (ps_ret (pe_fn0 c_nan (hr.mono (by decide)) pass0))) pss_nil)
  (pss_cons (ps_if (pt_cmpR (op_oEq hr.units) (pv 0) pe_str (nomark _)) (pss_one (ps_ret (pe_fn c_added (hr.mono (by decide)) pass0 (pa_cons (pv 1) (pa_cons (pv 2) pa_nil))))) pss_nil)
  (pss_cons (ps_if (pt_cmpR (op_oEq hr.units) (pv 0) pe_str (nomark _)) (pss_one (ps_ret (pe_fn c_added (hr.mono (by decide)) pass0 (pa_cons (pv 1) (pa_cons (pe_cn c_Float (hr.mono (by decide)) pass0 (pa_cons (pe_op op_oSub pe_int (pe_fld (pv 2) rfl)) (pa_cons (pe_fld (pv 2) rfl) (pa_cons (pe_fld (pv 2) rfl) pa_nil)))) pa_nil))))) pss_nil)
  (pss_cons (ps_if (pt_cmpR (op_oEq hr.units) (pv 0) pe_str (nomark _)) (pss_one (ps_ret (pe_fn c_multiplied (hr.mono (by decide)) pass0 (pa_cons (pv 1) (pa_cons (pv 2) pa_nil))))) pss_nil)
  (pss_cons (ps_if (pt_cmpR (op_oEq hr.units) (pv 0) pe_str (nomark _)) pss_never pss_nil)
  (pss_cons (ps_set (i := 3) sc_byfloats.nd rfl (Or.inl rfl) (pe_fn c_divided (hr.mono (by decide)) pass0 (pa_cons (pv 1) (pa_cons (pv 2) pa_nil))))
  (pss_one (ps_ret (pe_ifExp (pt_cmpR (op_oEq hr.units) (pv 0) pe_str (nomark _)) pe_never (pv 3)))))))))), ?_⟩
    unfold byL at q
    walk_at "f"
    refine g_new (sz rfl) fun k H1 n1 s1 h1 _ => ?_
    refine g_in2 h1 (.str _) ox.is oy.is ?_
    have q := q.later s1
    have ha := ha.same s1
    have hb := hb.same s1
    walk_at "f"
    refine g_ite (fun h2 => ?_) fun h2 => ?_
    · rw [if_pos h2] at q
      walk_at "f"
      exact ⟨rfl, q⟩
    · rw [if_neg h2] at q
      have nx1 : x.t ≠ .str "nan" := fun z => h2 (.inl z)
      have ny1 : y.t ≠ .str "nan" := fun z => h2 (.inr z)
      walk_at "f"
      refine g_ite (fun h3 => ?_) fun h3 => ?_
      · rw [if_pos h3] at q
        walk_at "f"
        exact ⟨_, _, x, y, rfl, ⟨a, rfl, ha⟩, ⟨b, rfl, hb⟩, ox, oy, nx1, ny1, q⟩
      · rw [if_neg h3] at q
        walk_at "f"
        refine g_ite (fun h4 => ?_) fun h4 => ?_
        · rw [if_pos h4] at q
          walk_at "f"
          obtain ⟨k1, k2⟩ := neg_mk oy ny1
          refine mkN k1 fun H2 v s2 h5 => ?_
          rw [k2] at h5
          walk_at "f"
          exact ⟨_, _, x, negL y, rfl, ⟨a, rfl, ha.same s2⟩, h5, ox, neg_ok oy ny1, nx1, ny1, q.later s2⟩
        · rw [if_neg h4] at q
          walk_at "f"
          refine g_ite (fun h5 => ?_) fun h5 => ?_
          · rw [if_pos h5] at q
            walk_at "f"
            exact ⟨_, _, x, y, rfl, ⟨a, rfl, ha⟩, ⟨b, rfl, hb⟩, ox, oy, nx1, ny1, q⟩
          · rw [if_neg h5] at q
            have hd : c = "div" := by rcases hc with z | z | z | z <;> first | exact absurd z h3 | exact absurd z h4 | exact absurd z h5 | exact z
            walk_at "f"
            refine g_no (by rw [hd]; decide +kernel) ?_
            walk_at "f"
            refine ⟨_, _, x, y, rfl, ⟨a, rfl, ha⟩, ⟨b, rfl, hb⟩, ox, oy, nx1, ny1, fun H2 v s2 h6 => ?_⟩
            walk_at "f"
            refine g_no (by rw [hd]; decide +kernel) ?_
            walk_at "f"
            exact q _ _ s2 h6
/-! arith -/
abbrev s_arith : Stmt := top 24
theorem sc_arith : FnScope ["word", "one", "other"] ["word", "one", "other"] (defScope s_arith) := ⟨rfl, rfl, rfl, by decide +kernel, rfl, by decide +kernel, by decide +kernel⟩
def sp_arith (C : Addr) : Sp := fun vs H Q _ => ∃ c v u n m, vs = [.str c, v, u] ∧ Wd c ∧ NumAt C H v n ∧ NumAt C H u m ∧ nBig n ∧ nBig m ∧ (c = "div" ∨ isF n = true ∨ isF m = true) ∧ RetN C H (byL c (toL n) (toL m)) Q
theorem ok_arith {f : Addr} {fd : FuncData} (F : FunD K "arith" "arith" (defArgs s_arith) (defBody s_arith) (defScope s_arith) [] [] f fd) (B : Blt mg) (T : FlC K mg C) (c_byfloats : Fn P w K mg base CX0 7 "by_floats" ["word", "one", "other"] [] (sp_byfloats C)) (c_tofloat : Fn P w K mg base CX0 6 "to_float" ["number"] [] (sp_tofloat C)) :
    FnOk P w K mg base CX0 8 f fd ["word", "one", "other"] (sp_arith C) := by
  have g_Float : mg "Float" = some (.ref C) := T.mg
  refine F.ok sc_arith (fun vs H Q E h => ?_) (fun cdv A outer s H vs Q E hr h => ?_)
  · obtain ⟨_, _, _, _, _, rfl, _⟩ := h; rfl
  · obtain ⟨c, v, u, n, m, rfl, hc, hn, hm, bn, bm, hf, q⟩ := h
    refine ⟨_, PSs.nox (pss_cons (ps_if (pt_cmpR op_in_seq (pv 0) (pe_tupN (pa_cons pe_str (pa_cons pe_str (pa_cons pe_str (pa_cons pe_str (pa_cons pe_str pa_nil)))))) (by rfl)) pss_never pss_nil)
  (pss_cons (ps_if (pt_cut (PW.pt (pw_or (pt_cmpR (op_oEq hr.units) (pv 0) pe_str (nomark _)) (pw_or (pt_val (pe_callB call_isi (by rfl) B.isinstance (by decide +kernel) (pa_cons (pv 1) (pa_cons (pe_gref g_Float) pa_nil)))) (pw_or1 (pt_val (pe_callB call_isi (by rfl) B.isinstance (by decide +kernel) (pa_cons (pv 2) (pa_cons (pe_gref g_Float) pa_nil))))))))) (pss_one (ps_ret (pe_fn c_byfloats (hr.mono (by decide)) pass0 (pa_cons (pv 0) (pa_cons (pe_fn c_tofloat (hr.mono (by decide)) pass0 (pa_cons (pv 1) pa_nil)) (pa_cons (pe_fn c_tofloat (hr.mono (by decide)) pass0 (pa_cons (pv 2) pa_nil)) pa_nil)))))) pss_nil)
  pss_never)), ?_⟩
    walk_at "f"
    refine g_new (sz rfl) fun k H1 n1 s1 h1 _ => ?_
    refine ⟨k, _, rfl, .inr (SqT.of h1), rfl, rfl, ?_⟩
    have hin : inV (.str c) [.str "band", .str "bor", .str "bxor", .str "shl", .str "shr"] = false := by rcases hc with rfl | rfl | rfl | rfl <;> decide +kernel
    walk_at "f"
    refine g_iteb (fun z => absurd (hin.symm.trans z) (by decide)) fun _ => ?_
    have q := q.later s1
    have hn := hn.same s1
    have hm := hm.same s1
    obtain ⟨t1, k1, _, _⟩ := hn.kf T
    obtain ⟨t2, k2, _, _⟩ := hm.kf T
    walk_at "f"
    refine g_cutT (fun b H' => b = true ∧ H' = H1) ?_ ?_
    · walk_at "f"
      refine g_ite (fun h2 => ?_) fun h2 => ?_
      · exact ⟨rfl, rfl⟩
      · walk_at "f"
        refine g_isiF k1 ?_
        walk_at "f"
        refine g_iteb (fun h3 => ?_) fun h3 => ?_
        · exact ⟨rfl, rfl⟩
        · walk_at "f"
          refine g_isiF k2 ?_
          walk_at "f"
          rcases hf with z | z | z
          · exact absurd z h2
          · rw [h3] at z; cases z
          · exact ⟨z, rfl⟩
    · rintro _ _ ⟨rfl, rfl⟩
      walk_at "f"
      refine g_tofl hn bn fun H2 v2 s2 f2 => ?_
      walk_at "f"
      refine g_tofl (hm.same s2) bm fun H3 v3 s3 f3 => ?_
      walk_at "f"
      exact ⟨c, _, _, _, _, rfl, hc, f2.same s3, f3, hn.tok, hm.tok, q.later (s2.trans s3)⟩
end
end Up

set_option Elab.async false
set_option linter.all false
set_option maxRecDepth 100000
set_option maxHeartbeats 4000000
set_option exponentiation.threshold 200000
namespace Up
open PySem PySem.Spec PyProof.Rows L2
local macro_rules | `(tactic| walk_at "u") => `(tactic| first
  | with_reducible refine g_seq ?_
  | with_reducible refine g_asg ?_
  | with_reducible refine g_op ?_
  | ((with_reducible show tVar _ _ _ _); apply g_var; exact rfl)
  | with_reducible refine g_c ?_
  | with_reducible refine g_name ?_
  | with_reducible refine g_ifs ?_
  | with_reducible refine g_tt ?_
  | with_reducible refine g_tB ?_
  | with_reducible refine g_bl ?_
  | with_reducible refine g_ret ?_
  | with_reducible refine g_cb ?_
  | with_reducible refine g_cons ?_
  | with_reducible refine g_nil ?_
  | with_reducible refine g_call ?_
  | with_reducible refine g_and ?_
  | with_reducible refine g_or ?_
  | with_reducible refine g_not ?_
  | with_reducible refine g_andV ?_
  | with_reducible refine g_orV ?_
  | with_reducible refine g_notV ?_
  | with_reducible refine g_if ?_
  | with_reducible refine g_un ?_
  | with_reducible refine g_neg ?_
  | with_reducible refine g_addI ?_
  | with_reducible refine g_subI ?_
  | with_reducible refine g_subB ?_
  | with_reducible refine g_I0 ?_
  | with_reducible refine g_cmpI ?_
  | with_reducible refine g_eqI ?_
  | with_reducible refine g_neI ?_
  | with_reducible refine g_eqS ?_
  | with_reducible refine g_neS ?_
  | with_reducible refine g_eqB ?_
  | with_reducible refine g_neB ?_
  | with_reducible refine g_bits ?_
  | with_reducible refine g_bitsI ?_
  | with_reducible refine g_fld ?_
  | with_reducible refine g_tup ?_
  | with_reducible refine g_lst ?_
  | with_reducible refine g_gtup ?_
  | with_reducible refine g_make ?_
  | with_reducible refine g_lc ?_
  | with_reducible refine g_yesT ?_
  | with_reducible refine g_intI ?_
  | with_reducible refine g_intB ?_
  | with_reducible refine g_max2 ?_
  | with_reducible refine g_abs1 ?_
  | with_reducible refine g_for ?_
  | with_reducible refine g_iList ?_
  | with_reducible refine g_iTup ?_
  | with_reducible refine g_iRng1 ?_
  | with_reducible refine g_iEnum ?_
  | with_reducible refine g_slice ?_
  | with_reducible refine g_po0 ?_
  | with_reducible refine g_po1 ?_
  | with_reducible refine g_gsub ?_
  | with_reducible refine g_par ?_
  | with_reducible refine g_par2 ?_
  | with_reducible refine g_rfl ?_
  | with_reducible refine g_meth ?_
  | with_reducible refine g_gcons ?_
  | with_reducible refine g_gnil ?_
  | with_reducible refine g_gfld ?_
  | with_reducible refine g_sfld ?_
  | with_reducible refine g_drop ?_
  | with_reducible refine g_next ?_
  | with_reducible refine iteT ?_
  | with_reducible refine iteF ?_)
local macro_rules | `(tactic| walk_at "go") => `(tactic| (repeat walk_at "u"))

section
variable {P : Program} {w : World} {K : PySem.W.Frag} {mg : Str → Option Value} {base : Heap} {C : Addr}
/-! _law_well -/
abbrev s_Lwell : Stmt := top 42
theorem sc_Lwell : FnScope ["_law_cell"] ["_law_cell"] (defScope s_Lwell) := ⟨rfl, rfl, rfl, by decide +kernel, rfl, by decide +kernel, by decide +kernel⟩
def sp_Lwell : Sp := fun vs H Q _ => ∃ n, vs = [.int n] ∧ ∀ a H', H a = none → Same H H' → Well H' a → Q (.ref a) H'
theorem fmod_lt {x m : Int} (h : 0 < m) : 0 ≤ x.fmod m ∧ x.fmod m < m := by
  rw [Int.fmod_eq_emod_of_nonneg _ (by omega)]
  exact ⟨Int.emod_nonneg _ (by omega), Int.emod_lt_of_pos _ h⟩
theorem fdiv_nn {x m : Int} (hx : 0 ≤ x) (h : 0 < m) : 0 ≤ x.fdiv m := by
  rw [Int.fdiv_eq_ediv_of_nonneg _ (by omega)]
  exact Int.ediv_nonneg hx (by omega)
theorem ok_Lwell {f : Addr} {fd : FuncData} (F : FunD K "_law_well" "_law_well" (defArgs s_Lwell) (defBody s_Lwell) (defScope s_Lwell) [] [] f fd) (B : Blt mg) : FnOk P w K mg base CX0 1 f fd ["_law_cell"] sp_Lwell := by
  refine F.ok sc_Lwell (fun vs H Q E h => ?_) (fun cdv A outer s H vs Q E hr h => ?_)
  · obtain ⟨n, rfl, _⟩ := h; rfl
  · obtain ⟨n, rfl, q⟩ := h
    refine ⟨_, PSs.nox (pss_one (ps_ret (pe_lstN (pa_cons (pe_op op_oMul (pv 0) (pe_callTy call_int1 (by rfl) B.int (by decide +kernel) (pa_cons (pe_cmpR op_oGe (pv 0) (pe_op op_oPow pe_int pe_int) (nomark _)) pa_nil))) (pa_cons (pe_op op_oMod (pe_callTy call_int1 (by rfl) B.int (by decide +kernel) (pa_cons (pv 0) pa_nil)) pe_int) (pa_cons pe_int pa_nil)))))), ?_⟩
    walk_at "go"
    refine g_II ⟨by decide, by decide, by decide⟩ ?_
    walk_at "go"
    refine g_mulI (.of_right (by by_cases h : ((10 : Int) ^ (18 : Int).toNat ≤ n) <;> simp only [h, decide_true, decide_false] <;> decide)) ?_
    walk_at "go"
    refine g_modI (by decide) ?_
    walk_at "go"
    refine g_new (sz rfl) fun a H1 na s1 ha _ => ?_
    refine q a H1 na s1 ⟨_, _, _, ha, ?_, (fmod_lt (by decide)).1, (fmod_lt (by decide)).2, by decide⟩
    by_cases h : ((10 : Int) ^ (18 : Int).toNat ≤ n)
    · simp only [h, decide_true, if_true]
      have : (0 : Int) ≤ 10 ^ (18 : Int).toNat := by decide
      omega
    · rw [if_neg (by simpa using h), Int.mul_zero]
      decide
/-! _law_draw -/
abbrev s_Ldraw : Stmt := top 43
theorem sc_Ldraw : FnScope ["_law_well_here", "_law_many", "_law_digit", "_law_number_here"] ["_law_well_here", "_law_many"] (defScope s_Ldraw) := ⟨rfl, rfl, rfl, by decide +kernel, rfl, by decide +kernel, by decide +kernel⟩
def sp_Ldraw : Sp := fun vs H Q _ => ∃ (a : Addr) (m : Int), vs = [.ref a, .int m] ∧ 0 < m ∧ m < 2 ^ 62 ∧ Well H a ∧ ∀ k H', 0 ≤ k → k < m → Stp a H H' → Well H' a → Q (.int k) H'
theorem small_div {m : Int} (h : 0 < m) (h2 : m < 2 ^ 62) : m.natAbs.log2 < 9000 := Nat.lt_trans (log2_lt (k := 62) (by omega) (by decide)) (by decide)
theorem sm31 {x : Int} (h0 : 0 ≤ x) (h1 : x < 2147483648) (y : Int) : IntMulOk x y := .of_left (intBits_le_64 (by omega) (by omega))
theorem sm31r {x : Int} (h0 : 0 ≤ x) (h1 : x < 2147483648) (y : Int) : IntMulOk y x := .of_right (intBits_le_64 (by omega) (by omega))
theorem ok_Ldraw {f : Addr} {fd : FuncData} (F : FunD K "_law_draw" "_law_draw" (defArgs s_Ldraw) (defBody s_Ldraw) (defScope s_Ldraw) [] [] f fd) (B : Blt mg) : FnOk P w K mg base CX0 1 f fd ["_law_well_here", "_law_many"] sp_Ldraw := by
  refine F.ok sc_Ldraw (fun vs H Q E h => ?_) (fun cdv A outer s H vs Q E hr h => ?_)
  · obtain ⟨a, m, rfl, _⟩ := h; rfl
  · obtain ⟨a, m, rfl, m0, m1, ⟨x, y, z, hw, x0, y0, y1, z0⟩, q⟩ := h
    refine ⟨_, PSs.nox (pss_cons (ps_if (pt_cmpR op_oGt (pe_ix ix_seq (pv 0) pe_int (fun _ _ => rfl)) pe_int (nomark _)) (pss_cons (ps_set (i := 2) sc_Ldraw.nd rfl (Or.inl rfl) (pe_op op_oMod (pe_callTy call_int1 (by rfl) B.int (by decide +kernel) (pa_cons (pe_ix ix_seq (pv 0) pe_int (fun _ _ => rfl)) pa_nil)) (pv 1)))
  (pss_cons (ps_asg (pe_op op_oDiv (pe_ix ix_seq (pv 0) pe_int (fun _ _ => rfl)) (pv 1)) (pg_sub (pv 0) pe_int set_list))
  (pss_one (ps_ret (pv 2))))) pss_nil)
  (pss_cons (ps_asg (pe_op op_oAdd (pe_ix ix_seq (pv 0) pe_int (fun _ _ => rfl)) pe_int) (pg_sub (pv 0) pe_int set_list))
  (pss_cons (ps_set (i := 3) sc_Ldraw.nd rfl (Or.inl rfl) (pe_op op_oMod (pe_callTy call_int1 (by rfl) B.int (by decide +kernel) (pa_cons (pe_op op_oAdd (pe_op op_oAdd (pe_op op_oMul (pe_ix ix_seq (pv 0) pe_int (fun _ _ => rfl)) pe_int) (pe_op op_oMul pe_int (pe_ix ix_seq (pv 0) pe_int (fun _ _ => rfl)))) pe_int) pa_nil)) pe_int))
  (pss_cons (ps_set (i := 3) sc_Ldraw.nd rfl (Or.inl rfl) (pe_op op_oMod (pe_callTy call_int1 (by rfl) B.int (by decide +kernel) (pa_cons (pe_op op_oMul (pv 3) (pe_op op_oAdd (pe_op op_oDiv (pv 3) pe_int) pe_int)) pa_nil)) pe_int))
  (pss_cons (ps_set (i := 3) sc_Ldraw.nd rfl (Or.inl rfl) (pe_op op_oMod (pe_callTy call_int1 (by rfl) B.int (by decide +kernel) (pa_cons (pe_op op_oMul (pv 3) (pe_op op_oAdd (pe_op op_oAdd (pe_op op_oDiv (pv 3) pe_int) pe_int) (pe_ix ix_seq (pv 0) pe_int (fun _ _ => rfl)))) pa_nil)) pe_int))
  (pss_one (ps_ret (pe_op op_oMod (pe_callTy call_int1 (by rfl) B.int (by decide +kernel) (pa_cons (pe_op op_oDiv (pv 3) pe_int) pa_nil)) (pv 1))))))))), ?_⟩
    walk_at "go"
    refine g_ixL hw rfl ?_
    walk_at "go"
    refine g_ite (fun hx => ?_) fun hx => ?_
    · walk_at "go"
      refine g_ixL hw rfl ?_
      walk_at "go"
      refine g_modI (by omega) ?_
      walk_at "go"
      refine g_ixL hw rfl ?_
      walk_at "go"
      refine g_divI (by omega) (small_div m0 m1) ?_
      walk_at "go"
      refine g_setL hw rfl fun H1 h1 k1 => ?_
      walk_at "go"
      exact q _ H1 (fmod_lt m0).1 (fmod_lt m0).2 (fun b o n e => (k1 b n).trans e) ⟨_, _, _, h1, fdiv_nn x0 m0, y0, y1, z0⟩
    · walk_at "go"
      refine g_ixL hw rfl ?_
      walk_at "go"
      refine g_setL hw rfl fun H1 h1 k1 => ?_
      walk_at "go"
      refine g_ixL h1 rfl ?_
      walk_at "go"
      refine g_mulI (.of_right (by decide)) ?_
      walk_at "go"
      refine g_ixL h1 rfl ?_
      refine g_mulI (.of_left (by decide)) ?_
      walk_at "go"
      refine g_modI (by decide) ?_
      walk_at "go"
      have b1 := fmod_lt (x := y * 48271 + 30103 * (z + 1) + 11) (m := 2147483647) (by decide)
      refine g_divI (by decide) (by decide) ?_
      walk_at "go"
      refine g_mulI (sm31 b1.1 (by omega) _) ?_
      walk_at "go"
      refine g_modI (by decide) ?_
      walk_at "go"
      generalize (y * 48271 + 30103 * (z + 1) + 11).fmod 2147483647 = u1 at *
      have b2 := fmod_lt (x := u1 * (u1.fdiv 1009 + 69621)) (m := 2147483629) (by decide)
      refine g_divI (by decide) (by decide) ?_
      walk_at "go"
      refine g_ixL h1 rfl ?_
      walk_at "go"
      refine g_mulI (sm31 b2.1 (by omega) _) ?_
      walk_at "go"
      refine g_modI (by decide) ?_
      walk_at "go"
      refine g_divI (by decide) (by decide) ?_
      walk_at "go"
      refine g_modI (by omega) ?_
      exact q _ H1 (fmod_lt m0).1 (fmod_lt m0).2 (fun b o n e => (k1 b n).trans e) ⟨_, _, _, h1, x0, y0, y1, by omega⟩
/-! _law_one -/
abbrev s_Lone : Stmt := top 44
theorem sc_Lone : FnScope ["_law_well_here", "_law_some"] ["_law_well_here", "_law_some"] (defScope s_Lone) := ⟨rfl, rfl, rfl, by decide +kernel, rfl, by decide +kernel, by decide +kernel⟩
def sp_Lone : Sp := fun vs H Q _ => ∃ (a l : Addr) (xs : List V), vs = [.ref a, .ref l] ∧ Well H a ∧ H l = some (.lst xs) ∧ l ≠ a ∧ 0 < xs.length ∧ xs.length < 1000 ∧ ∀ v H', v ∈ xs → Stp a H H' → Well H' a → Q v H'
theorem ok_Lone {f : Addr} {fd : FuncData} (F : FunD K "_law_one" "_law_one" (defArgs s_Lone) (defBody s_Lone) (defScope s_Lone) [] [] f fd) (B : Blt mg) (c_Ldraw : Fn P w K mg base CX0 1 "_law_draw" ["_law_well_here", "_law_many"] [] sp_Ldraw) : FnOk P w K mg base CX0 2 f fd ["_law_well_here", "_law_some"] sp_Lone := by
  refine F.ok sc_Lone (fun vs H Q E h => ?_) (fun cdv A outer s H vs Q E hr h => ?_)
  · obtain ⟨a, l, xs, rfl, _⟩ := h; rfl
  · obtain ⟨a, l, xs, rfl, hw, hl, ne, x0, x1, q⟩ := h
    refine ⟨_, PSs.nox (pss_one (ps_ret (pe_ix ix_seq (pv 1) (pe_fn c_Ldraw (hr.mono (by decide)) pass0 (pa_cons (pv 0) (pa_cons (pe_callB call_len_seq (by rfl) B.len (by decide +kernel) (pa_cons (pv 1) pa_nil)) pa_nil))) (fun _ _ => rfl)))), ?_⟩
    walk_at "go"
    refine g_lenL hl ?_
    walk_at "go"
    refine ⟨a, _, rfl, by omega, by omega, hw, fun k H1 k0 k1 s1 hw1 => ?_⟩
    have hi : k.toNat < xs.length := by omega
    refine g_ixL (s1 _ _ ne hl) (v := xs[k.toNat]) ?_ (q _ _ (List.getElem_mem hi) s1 hw1)
    have e : ixN xs.length k = some k.toNat := by unfold ixN; rw [if_pos k0, if_pos k1]
    unfold atI
    rw [e]
    simp [hi]
/-! _law_great -/
abbrev s_Lgreat : Stmt := top 45
theorem sc_Lgreat : FnScope ["_law_well_here", "_law_bits", "_law_number_here", "_law_k"] ["_law_well_here", "_law_bits"] (defScope s_Lgreat) := ⟨rfl, rfl, rfl, by decide +kernel, rfl, by decide +kernel, by decide +kernel⟩
def sp_Lgreat : Sp := fun vs H Q _ => ∃ (a : Addr) (m : Int), vs = [.ref a, .int m] ∧ 0 ≤ m ∧ m ≤ 1000 ∧ Well H a ∧ ∀ k H', 0 ≤ k → k < 2 ^ m.toNat → Stp a H H' → Well H' a → Q (.int k) H'
theorem ok_Lgreat {f : Addr} {fd : FuncData} (F : FunD K "_law_great" "_law_great" (defArgs s_Lgreat) (defBody s_Lgreat) (defScope s_Lgreat) [] [] f fd) (B : Blt mg) (c_Ldraw : Fn P w K mg base CX0 1 "_law_draw" ["_law_well_here", "_law_many"] [] sp_Ldraw) : FnOk P w K mg base CX0 2 f fd ["_law_well_here", "_law_bits"] sp_Lgreat := by
  refine F.ok sc_Lgreat (fun vs H Q E h => ?_) (fun cdv A outer s H vs Q E hr h => ?_)
  · obtain ⟨a, m, rfl, _⟩ := h; rfl
  · obtain ⟨a, m, rfl, m0, m1, hw, q⟩ := h
    refine ⟨_, PSs.nox (pss_cons (ps_set (i := 2) sc_Lgreat.nd rfl (Or.inl rfl) pe_int)
  (pss_cons (ps_for PassesOwn.never rfl (pi_range1 (by rfl) B.range (pa_cons (pe_op op_oAdd pe_int (pe_op op_oDiv (pv 1) pe_int)) pa_nil)) (pg_name (i := 3) sc_Lgreat.nd rfl (Or.inl rfl))
    (pss_one (ps_set (i := 2) sc_Lgreat.nd rfl (Or.inl rfl) (pe_op op_oAdd (pe_op op_oMul (pv 2) pe_int) (pe_fn c_Ldraw (hr.mono (by decide)) pass0 (pa_cons (pv 0) (pa_cons pe_int pa_nil)))))))
  (pss_one (ps_ret (pe_op op_oMod (pe_callTy call_int1 (by rfl) B.int (by decide +kernel) (pa_cons (pv 2) pa_nil)) (pe_op op_oShl pe_int (pv 1))))))), ?_⟩
    walk_at "go"
    refine g_divI (by decide) (by decide) ?_
    walk_at "go"
    have e0 : m.fdiv 20 = m / 20 := Int.fdiv_eq_ediv_of_nonneg _ (by decide)
    refine ⟨by omega, by omega, ?_⟩
    refine for_range (fun i σ' H' => ∃ (n : Int) (v : Option V), σ' = [some (.ref a), some (.int m), some (.int n), v] ∧ Stp a H H' ∧ Well H' a) ⟨0, none, rfl, Stp.refl _ _, hw⟩ ?_ ?_
    · rintro i _ H1 hi ⟨n, v, rfl, s1, hw1⟩
      walk_at "go"
      refine g_mulI (.of_right (by decide)) ?_
      walk_at "go"
      refine ⟨a, _, rfl, by decide, by decide, hw1, fun k H2 k0 k1 s2 hw2 => ?_⟩
      walk_at "go"
      exact ⟨_, _, rfl, s1.trans s2, hw2⟩
    · rintro _ H1 ⟨n, v, rfl, s1, hw1⟩
      walk_at "go"
      refine g_II (shl_small m0 (by omega) (lt_pow_mono (a := 1) (by decide) (by decide))) ?_
      rw [Int.one_mul]
      have hp : (0 : Int) < 2 ^ m.toNat := Int.pow_pos (by decide)
      refine g_modI (by omega) ?_
      exact q _ H1 (fmod_lt hp).1 (fmod_lt hp).2 s1 hw1
end
end Up

set_option Elab.async false
set_option linter.all false
set_option maxRecDepth 100000
set_option maxHeartbeats 4000000
set_option exponentiation.threshold 200000
namespace Up
open PySem PySem.Spec PyProof.Rows L2
local macro_rules | `(tactic| walk_at "u") => `(tactic| first
  | with_reducible refine g_seq ?_
  | with_reducible refine g_asg ?_
  | with_reducible refine g_op ?_
  | ((with_reducible show tVar _ _ _ _); apply g_var; exact rfl)
  | with_reducible refine g_c ?_
  | with_reducible refine g_name ?_
  | with_reducible refine g_ifs ?_
  | with_reducible refine g_tt ?_
  | with_reducible refine g_tB ?_
  | with_reducible refine g_bl ?_
  | with_reducible refine g_ret ?_
  | with_reducible refine g_cb ?_
  | with_reducible refine g_cons ?_
  | with_reducible refine g_nil ?_
  | with_reducible refine g_call ?_
  | with_reducible refine g_and ?_
  | with_reducible refine g_or ?_
  | with_reducible refine g_not ?_
  | with_reducible refine g_andV ?_
  | with_reducible refine g_orV ?_
  | with_reducible refine g_notV ?_
  | with_reducible refine g_if ?_
  | with_reducible refine g_un ?_
  | with_reducible refine g_neg ?_
  | with_reducible refine g_addI ?_
  | with_reducible refine g_subI ?_
  | with_reducible refine g_subB ?_
  | with_reducible refine g_I0 ?_
  | with_reducible refine g_cmpI ?_
  | with_reducible refine g_eqI ?_
  | with_reducible refine g_neI ?_
  | with_reducible refine g_eqS ?_
  | with_reducible refine g_neS ?_
  | with_reducible refine g_eqB ?_
  | with_reducible refine g_neB ?_
  | with_reducible refine g_bits ?_
  | with_reducible refine g_bitsI ?_
  | with_reducible refine g_fld ?_
  | with_reducible refine g_tup ?_
  | with_reducible refine g_lst ?_
  | with_reducible refine g_gtup ?_
  | with_reducible refine g_make ?_
  | with_reducible refine g_lc ?_
  | with_reducible refine g_yesT ?_
  | with_reducible refine g_intI ?_
  | with_reducible refine g_intB ?_
  | with_reducible refine g_max2 ?_
  | with_reducible refine g_abs1 ?_
  | with_reducible refine g_for ?_
  | with_reducible refine g_iList ?_
  | with_reducible refine g_iTup ?_
  | with_reducible refine g_iRng1 ?_
  | with_reducible refine g_iEnum ?_
  | with_reducible refine g_slice ?_
  | with_reducible refine g_po0 ?_
  | with_reducible refine g_po1 ?_
  | with_reducible refine g_gsub ?_
  | with_reducible refine g_par ?_
  | with_reducible refine g_par2 ?_
  | with_reducible refine g_rfl ?_
  | with_reducible refine g_meth ?_
  | with_reducible refine g_gcons ?_
  | with_reducible refine g_gnil ?_
  | with_reducible refine g_gfld ?_
  | with_reducible refine g_sfld ?_
  | with_reducible refine g_drop ?_
  | with_reducible refine g_next ?_
  | with_reducible refine iteT ?_
  | with_reducible refine iteF ?_)
local macro_rules | `(tactic| walk_at "go") => `(tactic| (repeat walk_at "u"))

section
variable {P : Program} {w : World} {K : PySem.W.Frag} {mg : Str → Option Value} {base : Heap} {C : Addr}
/-! _law_finite -/
abbrev s_Lfinite : Stmt := top 46
theorem sc_Lfinite : FnScope ["_law_well_here", "_law_sign", "_law_way", "_law_some"] ["_law_well_here"] (defScope s_Lfinite) := ⟨rfl, rfl, rfl, by decide +kernel, rfl, by decide +kernel, by decide +kernel⟩
def FinD (s t p : Int) : Prop := (s = 1 ∨ s = -1) ∧ 0 ≤ t ∧ t < 2 ^ 53 ∧ -1074 ≤ p ∧ p ≤ 971
def sp_Lfinite : Sp := fun vs H Q _ => ∃ (a : Addr), vs = [.ref a] ∧ Well H a ∧ ∀ b H' s t p, H b = none → Stp a H H' → Well H' a → H' b = some (.tup [.int s, .int t, .int p]) → FinD s t p → Q (.ref b) H'
theorem pow53 {k : Int} {n : Nat} (h : k < 2 ^ n) (hn : n ≤ 53) : k < 2 ^ 53 := by
  have : (2 : Int) ^ n ≤ 2 ^ 53 := by exact_mod_cast Nat.pow_le_pow_right (show 0 < 2 by decide) hn
  omega
theorem ok_Lfinite {f : Addr} {fd : FuncData} (F : FunD K "_law_finite" "_law_finite" (defArgs s_Lfinite) (defBody s_Lfinite) (defScope s_Lfinite) [] [] f fd) (B : Blt mg) (c_Ldraw : Fn P w K mg base CX0 1 "_law_draw" ["_law_well_here", "_law_many"] [] sp_Ldraw) (c_Lone : Fn P w K mg base CX0 2 "_law_one" ["_law_well_here", "_law_some"] [] sp_Lone)
    (c_Lgreat : Fn P w K mg base CX0 2 "_law_great" ["_law_well_here", "_law_bits"] [] sp_Lgreat) : FnOk P w K mg base CX0 3 f fd ["_law_well_here"] sp_Lfinite := by
  refine F.ok sc_Lfinite (fun vs H Q E h => ?_) (fun cdv A outer s H vs Q E hr h => ?_)
  · obtain ⟨a, rfl, _⟩ := h; rfl
  · obtain ⟨a, rfl, hw, q⟩ := h
    refine ⟨_, PSs.nox (pss_cons (ps_par (i := 1) (j := 2) rfl sc_Lfinite.nd rfl rfl (by decide) rfl rfl (pa_cons (pe_fn c_Lone (hr.mono (by decide)) pass0 (pa_cons (pv 0) (pa_cons (pe_lstN (pa_cons pe_int (pa_cons (pe_un un_neg pe_int) pa_nil))) pa_nil))) (pa_cons (pe_fn c_Ldraw (hr.mono (by decide)) pass0 (pa_cons (pv 0) (pa_cons pe_int pa_nil))) pa_nil)) (by rfl))
  (pss_cons (ps_if (pt_cmpR (op_oEq hr.units) (pv 2) pe_int (nomark _)) (pss_one (ps_ret (pe_tupN (pa_cons (pv 1) (pa_cons pe_int (pa_cons pe_int pa_nil)))))) pss_nil)
  (pss_cons (ps_if (pt_cmpR op_oLt (pv 2) pe_int (nomark _)) (pss_one (ps_ret (pe_tupN (pa_cons (pv 1) (pa_cons (pe_fn c_Ldraw (hr.mono (by decide)) pass0 (pa_cons (pv 0) (pa_cons pe_int pa_nil))) (pa_cons (pe_fn c_Lone (hr.mono (by decide)) pass0 (pa_cons (pv 0) (pa_cons (pe_lstN (pa_cons pe_int (pa_cons pe_int (pa_cons (pe_un un_neg pe_int) (pa_cons (pe_un un_neg pe_int) pa_nil))))) pa_nil))) pa_nil)))))) pss_nil)
  (pss_cons (ps_set (i := 3) sc_Lfinite.nd rfl (Or.inl rfl) (pe_lstN (pa_cons (pe_op op_oSub (pe_fn c_Ldraw (hr.mono (by decide)) pass0 (pa_cons (pv 0) (pa_cons pe_int pa_nil))) pe_int) (pa_cons (pe_op op_oSub pe_int (pe_fn c_Ldraw (hr.mono (by decide)) pass0 (pa_cons (pv 0) (pa_cons pe_int pa_nil)))) (pa_cons (pe_fn c_Ldraw (hr.mono (by decide)) pass0 (pa_cons (pv 0) (pa_cons pe_int pa_nil))) (pa_cons (pe_op op_oSub pe_int (pe_fn c_Ldraw (hr.mono (by decide)) pass0 (pa_cons (pv 0) (pa_cons pe_int pa_nil)))) pa_nil))))))
  (pss_cons (ps_set (i := 3) sc_Lfinite.nd rfl (Or.inl rfl) (pe_op op_oAdd (pv 3) (pe_lstN (pa_cons (pe_op op_oSub (pe_un un_neg pe_int) (pe_fn c_Ldraw (hr.mono (by decide)) pass0 (pa_cons (pv 0) (pa_cons pe_int pa_nil)))) (pa_cons (pe_op op_oSub (pe_fn c_Ldraw (hr.mono (by decide)) pass0 (pa_cons (pv 0) (pa_cons pe_int pa_nil))) pe_int) pa_nil)))))
  (pss_one (ps_ret (pe_tupN (pa_cons (pv 1) (pa_cons (pe_fn c_Lgreat (hr.mono (by decide)) pass0 (pa_cons (pv 0) (pa_cons (pe_fn c_Lone (hr.mono (by decide)) pass0 (pa_cons (pv 0) (pa_cons (pe_lstN (pa_cons pe_int (pa_cons pe_int (pa_cons pe_int (pa_cons pe_int pa_nil))))) pa_nil))) pa_nil))) (pa_cons (pe_callB (call_min2 rfl) (by rfl) B.min (by decide +kernel) (pa_cons pe_int (pa_cons (pe_fn c_Lone (hr.mono (by decide)) pass0 (pa_cons (pv 0) (pa_cons (pv 3) pa_nil))) pa_nil))) pa_nil))))))))))), ?_⟩
    walk_at "go"
    refine g_new (sz rfl) fun l1 H1 n1 s1 h1 _ => ?_
    refine ⟨a, l1, _, rfl, hw.same s1, h1, hw.ne_none n1, by decide, by decide, fun v H2 hv s2 hw2 => ?_⟩
    have S2 := (Stp.of (w := a) s1).trans s2
    obtain ⟨sg, rfl, hs⟩ : ∃ sg, v = .int sg ∧ (sg = 1 ∨ sg = -1) := by
      simp only [List.mem_cons, List.not_mem_nil, or_false] at hv
      rcases hv with rfl | rfl
      · exact ⟨_, rfl, .inl rfl⟩
      · exact ⟨_, rfl, .inr rfl⟩
    walk_at "go"
    refine ⟨a, _, rfl, by decide, by decide, hw2, fun k H3 k0 k1 s3 hw3 => ?_⟩
    have S3 := S2.trans s3
    walk_at "go"
    refine g_ite (fun hk => ?_) fun hk => ?_
    · walk_at "go"
      refine g_new (sz rfl) fun b H4 n4 s4 h4 _ => ?_
      exact q b H4 _ _ _ (S3.free hw3 n4) (S3.trans (Stp.of s4)) (hw3.same s4) h4 ⟨hs, by decide, by decide, by decide, by decide⟩
    · walk_at "go"
      refine g_ite (fun hk4 => ?_) fun hk4 => ?_
      · walk_at "go"
        refine ⟨a, _, rfl, by decide, by decide, hw3, fun t H4 t0 t1 s4 hw4 => ?_⟩
        have S4 := S3.trans s4
        walk_at "go"
        refine g_new (sz rfl) fun l5 H5 n5 s5 h5 _ => ?_
        refine ⟨a, l5, _, rfl, hw4.same s5, h5, hw4.ne_none n5, by decide, by decide, fun v H6 hv s6 hw6 => ?_⟩
        have S6 := (S4.trans (Stp.of s5)).trans s6
        obtain ⟨p, rfl, hp⟩ : ∃ p, v = .int p ∧ -1074 ≤ p ∧ p ≤ 971 := by
          simp only [List.mem_cons, List.not_mem_nil, or_false] at hv
          rcases hv with rfl | rfl | rfl | rfl <;> exact ⟨_, rfl, by decide, by decide⟩
        walk_at "go"
        refine g_new (sz rfl) fun b H7 n7 s7 h7 _ => ?_
        exact q b H7 _ _ _ (S6.free hw6 n7) (S6.trans (Stp.of s7)) (hw6.same s7) h7 ⟨hs, t0, by omega, hp.1, hp.2⟩
      · walk_at "go"
        refine ⟨a, _, rfl, by decide, by decide, hw3, fun d1 H4 a1 b1 s4 hw4 => ?_⟩
        walk_at "go"
        refine ⟨a, _, rfl, by decide, by decide, hw4, fun d2 H5 a2 b2 s5 hw5 => ?_⟩
        walk_at "go"
        refine ⟨a, _, rfl, by decide, by decide, hw5, fun d3 H6 a3 b3 s6 hw6 => ?_⟩
        walk_at "go"
        refine ⟨a, _, rfl, by decide, by decide, hw6, fun d4 H7 a4 b4 s7 hw7 => ?_⟩
        have S7 := (((S3.trans s4).trans s5).trans s6).trans s7
        walk_at "go"
        refine g_new (sz rfl) fun l8 H8 n8 s8 h8 _ => ?_
        have S8 := S7.trans (Stp.of s8)
        have hw8 := hw7.same s8
        have l8a := hw7.ne_none n8
        walk_at "go"
        refine ⟨a, _, rfl, by decide, by decide, hw8, fun d5 H9 a5 b5 s9 hw9 => ?_⟩
        walk_at "go"
        refine ⟨a, _, rfl, by decide, by decide, hw9, fun d6 H10 a6 b6 s10 hw10 => ?_⟩
        have S10 := (S8.trans s9).trans s10
        have h8b := s10 _ _ l8a (s9 _ _ l8a h8)
        walk_at "go"
        refine g_new (sz rfl) fun l11 H11 n11 s11 h11 _ => ?_
        refine .inl ⟨l8, l11, _, _, rfl, rfl, SqL.of (s11 _ _ h8b), SqL.of h11, sz rfl, fun l12 H12 n12 s12 h12 _ => ?_⟩
        have S12 := (S10.trans (Stp.of s11)).trans (Stp.of s12)
        have hw12 := (hw10.same s11).same s12
        have l12a := (hw10.same s11).ne_none n12
        walk_at "go"
        refine g_new (sz rfl) fun l13 H13 n13 s13 h13 _ => ?_
        refine ⟨a, l13, _, rfl, hw12.same s13, h13, hw12.ne_none n13, by decide, by decide, fun v H14 hv s14 hw14 => ?_⟩
        have S14 := (S12.trans (Stp.of s13)).trans s14
        obtain ⟨p, rfl, hp⟩ : ∃ p, v = .int p ∧ 0 ≤ p ∧ p ≤ 53 := by
          simp only [List.mem_cons, List.not_mem_nil, or_false] at hv
          rcases hv with rfl | rfl | rfl | rfl <;> exact ⟨_, rfl, by decide, by decide⟩
        walk_at "go"
        refine ⟨a, p, rfl, hp.1, by omega, hw14, fun t H15 t0 t1 s15 hw15 => ?_⟩
        have S15 := S14.trans s15
        have h12b := s15 _ _ l12a (s14 _ _ l12a (s13 _ _ h12))
        walk_at "go"
        refine ⟨a, l12, _, rfl, hw15, h12b, l12a, Nat.lt_of_lt_of_le (by decide : 0 < 6) (Nat.le_refl _), Nat.lt_of_le_of_lt (Nat.le_refl 6) (by decide), fun v H16 hv s16 hw16 => ?_⟩
        have S16 := S15.trans s16
        obtain ⟨u, rfl, hu⟩ : ∃ u, v = .int u ∧ -1074 ≤ u ∧ u ≤ 971 := by
          simp only [List.mem_append, List.mem_cons, List.not_mem_nil, or_false] at hv
          rcases hv with (rfl | rfl | rfl | rfl) | (rfl | rfl) <;> exact ⟨_, rfl, by omega, by omega⟩
        walk_at "go"
        refine g_new (sz rfl) fun b H17 n17 s17 h17 _ => ?_
        refine q b H17 _ _ _ (S16.free hw16 n17) (S16.trans (Stp.of s17)) (hw16.same s17) h17 ⟨hs, t0, pow53 t1 (by omega), ?_, ?_⟩
        · split <;> omega
        · split <;> omega
/-! _law_float -/
abbrev s_Lfloat : Stmt := top 47
theorem sc_Lfloat : FnScope ["_law_well_here", "_law_sign", "_law_top", "_law_power"] ["_law_well_here"] (defScope s_Lfloat) := ⟨rfl, rfl, rfl, by decide +kernel, rfl, by decide +kernel, by decide +kernel⟩
theorem FlAt.stp {a b : Addr} {H H' : Hp} {s : Int} {t : V} {p : Int} (h : FlAt C H b s t p) (hw : Well H a) (e : Stp a H H') : FlAt C H' b s t p := by
  obtain ⟨dx, h⟩ := h
  exact ⟨dx, e.ins hw h⟩
theorem NumAt.stp {a : Addr} {H H' : Hp} {v : V} (hw : Well H a) (e : Stp a H H') : ∀ {n : Nm}, NumAt C H v n → NumAt C H' v n
  | .i _, h => h
  | .f _ _ _, ⟨b, z, h, k⟩ => ⟨b, z, h.stp hw e, k⟩
theorem mk_nan : MkOk 1 (.str "nan") 0 := ⟨.inl rfl, .inl ⟨rfl, rfl, rfl⟩⟩
theorem FinD.mk {s t p : Int} (h : FinD s t p) : MkOk s (.int t) p := by
  obtain ⟨hs, t0, t1, p0, p1⟩ := h
  obtain ⟨n, rfl⟩ := Int.eq_ofNat_of_zero_le t0
  have hb : bitsN n ≤ 53 := bits_le (by omega)
  exact mk_of_flok hs (by omega) p0 (by omega)
def sp_Lfloat (C : Addr) : Sp := fun vs H Q _ => ∃ (a : Addr), vs = [.ref a] ∧ Well H a ∧ ∀ v H' s t p, Stp a H H' → Well H' a → NumAt C H' v (.f s t p) → Q v H'
theorem ok_Lfloat {f : Addr} {fd : FuncData} (F : FunD K "_law_float" "_law_float" (defArgs s_Lfloat) (defBody s_Lfloat) (defScope s_Lfloat) [] [] f fd) (B : Blt mg) (c_Float : CnF P w K mg base C) (c_Ldraw : Fn P w K mg base CX0 1 "_law_draw" ["_law_well_here", "_law_many"] [] sp_Ldraw) (c_Lone : Fn P w K mg base CX0 2 "_law_one" ["_law_well_here", "_law_some"] [] sp_Lone)
    (c_Lfinite : Fn P w K mg base CX0 3 "_law_finite" ["_law_well_here"] [] sp_Lfinite) : FnOk P w K mg base CX0 4 f fd ["_law_well_here"] (sp_Lfloat C) := by
  refine F.ok sc_Lfloat (fun vs H Q E h => ?_) (fun cdv A outer s H vs Q E hr h => ?_)
  · obtain ⟨a, rfl, _⟩ := h; rfl
  · obtain ⟨a, rfl, hw, q⟩ := h
    refine ⟨_, PSs.nox (pss_cons (ps_if (pt_cmpR (op_oEq hr.units) (pe_fn c_Ldraw (hr.mono (by decide)) pass0 (pa_cons (pv 0) (pa_cons pe_int pa_nil))) pe_int (nomark _)) (pss_one (ps_ret (pe_fn c_Lone (hr.mono (by decide)) pass0 (pa_cons (pv 0) (pa_cons (pe_lstN (pa_cons (pe_cn c_Float (hr.mono (by decide)) pass0 (pa_cons pe_int (pa_cons pe_str (pa_cons pe_int pa_nil)))) (pa_cons (pe_cn c_Float (hr.mono (by decide)) pass0 (pa_cons (pe_un un_neg pe_int) (pa_cons pe_str (pa_cons pe_int pa_nil)))) (pa_cons (pe_cn c_Float (hr.mono (by decide)) pass0 (pa_cons pe_int (pa_cons pe_str (pa_cons pe_int pa_nil)))) pa_nil)))) pa_nil))))) pss_nil)
  (pss_cons (ps_asg (pe_fn c_Lfinite (hr.mono (by decide)) pass0 (pa_cons (pv 0) pa_nil)) (pg_tup rfl (pgs_cons (pg_name (i := 1) sc_Lfloat.nd rfl (Or.inl rfl)) (pgs_cons (pg_name (i := 2) sc_Lfloat.nd rfl (Or.inl rfl)) (pgs_cons (pg_name (i := 3) sc_Lfloat.nd rfl (Or.inl rfl)) pgs_nil)))))
  (pss_one (ps_ret (pe_cn c_Float (hr.mono (by decide)) pass0 (pa_cons (pv 1) (pa_cons (pv 2) (pa_cons (pv 3) pa_nil)))))))), ?_⟩
    walk_at "go"
    refine ⟨a, _, rfl, by decide, by decide, hw, fun k H1 k0 k1 s1 hw1 => ?_⟩
    walk_at "go"
    refine g_ite (fun hk => ?_) fun hk => ?_
    · walk_at "go"
      refine mkF (mk_inf (.inl rfl)) fun H2 x2 n2 s2 h2 => ?_
      walk_at "go"
      refine mkF (mk_inf (.inr rfl)) fun H3 x3 n3 s3 h3 => ?_
      walk_at "go"
      refine mkF mk_nan fun H4 x4 n4 s4 h4 => ?_
      walk_at "go"
      refine g_new (sz rfl) fun l5 H5 n5 s5 h5 _ => ?_
      have S5 := ((s2.trans s3).trans s4).trans s5
      have hw4 := hw1.same ((s2.trans s3).trans s4)
      refine ⟨a, l5, _, rfl, hw4.same s5, h5, hw4.ne_none n5, by simp, by simp, fun v H6 hv s6 hw6 => ?_⟩
      have g : ∀ x (sg : Int) (tp : V) (p : Int), MkOk sg tp p → FlAt C H5 x sg (redV tp p).1 (redV tp p).2 → NumAt C H6 (.ref x) (.f sg (redV tp p).1 (redV tp p).2) := fun x sg tp p hm h => ⟨x, rfl, h.stp (hw4.same s5) s6, mk_flok hm⟩
      have T6 := (s1.trans (Stp.of S5)).trans s6
      simp only [List.mem_cons, List.not_mem_nil, or_false] at hv
      rcases hv with rfl | rfl | rfl
      · exact q _ _ _ _ _ T6 hw6 (g _ _ _ _ (mk_inf (.inl rfl)) (h2.same ((s3.trans s4).trans s5)))
      · exact q _ _ _ _ _ T6 hw6 (g _ _ _ _ (mk_inf (.inr rfl)) (h3.same (s4.trans s5)))
      · exact q _ _ _ _ _ T6 hw6 (g _ _ _ _ mk_nan (h4.same s5))
    · walk_at "go"
      refine ⟨a, rfl, hw1, fun b H2 sg t p n2 s2 hw2 h2 hd => ?_⟩
      walk_at "go"
      refine ⟨b, _, rfl, SqT.of h2, rfl, ?_⟩
      walk_at "go"
      refine mkF hd.mk fun H3 x3 n3 s3 h3 => ?_
      exact q _ _ _ _ _ ((s1.trans s2).trans (Stp.of s3)) (hw2.same s3) ⟨x3, rfl, h3, mk_flok hd.mk⟩
end
end Up

set_option Elab.async false
set_option linter.all false
set_option pp.maxSteps 600
set_option maxRecDepth 100000
set_option maxHeartbeats 4000000
set_option exponentiation.threshold 200000
namespace Up
open PySem PySem.Spec PyProof.Rows L2
local macro_rules | `(tactic| walk_at "u") => `(tactic| first
  | with_reducible refine g_seq ?_
  | with_reducible refine g_asg ?_
  | with_reducible refine g_op ?_
  | ((with_reducible show tVar _ _ _ _); apply g_var; exact rfl)
  | with_reducible refine g_c ?_
  | with_reducible refine g_name ?_
  | with_reducible refine g_ifs ?_
  | with_reducible refine g_tt ?_
  | with_reducible refine g_tB ?_
  | with_reducible refine g_bl ?_
  | with_reducible refine g_ret ?_
  | with_reducible refine g_cb ?_
  | with_reducible refine g_cons ?_
  | with_reducible refine g_nil ?_
  | with_reducible refine g_call ?_
  | with_reducible refine g_and ?_
  | with_reducible refine g_or ?_
  | with_reducible refine g_not ?_
  | with_reducible refine g_andV ?_
  | with_reducible refine g_orV ?_
  | with_reducible refine g_notV ?_
  | with_reducible refine g_if ?_
  | with_reducible refine g_un ?_
  | with_reducible refine g_neg ?_
  | with_reducible refine g_addI ?_
  | with_reducible refine g_subI ?_
  | with_reducible refine g_subB ?_
  | with_reducible refine g_I0 ?_
  | with_reducible refine g_cmpI ?_
  | with_reducible refine g_eqI ?_
  | with_reducible refine g_neI ?_
  | with_reducible refine g_eqS ?_
  | with_reducible refine g_neS ?_
  | with_reducible refine g_eqB ?_
  | with_reducible refine g_neB ?_
  | with_reducible refine g_bits ?_
  | with_reducible refine g_bitsI ?_
  | with_reducible refine g_fld ?_
  | with_reducible refine g_tup ?_
  | with_reducible refine g_lst ?_
  | with_reducible refine g_gtup ?_
  | with_reducible refine g_make ?_
  | with_reducible refine g_lc ?_
  | with_reducible refine g_yesT ?_
  | with_reducible refine g_intI ?_
  | with_reducible refine g_intB ?_
  | with_reducible refine g_max2 ?_
  | with_reducible refine g_abs1 ?_
  | with_reducible refine g_for ?_
  | with_reducible refine g_iList ?_
  | with_reducible refine g_iTup ?_
  | with_reducible refine g_iRng1 ?_
  | with_reducible refine g_iEnum ?_
  | with_reducible refine g_slice ?_
  | with_reducible refine g_po0 ?_
  | with_reducible refine g_po1 ?_
  | with_reducible refine g_gsub ?_
  | with_reducible refine g_par ?_
  | with_reducible refine g_par2 ?_
  | with_reducible refine g_rfl ?_
  | with_reducible refine g_meth ?_
  | with_reducible refine g_gcons ?_
  | with_reducible refine g_gnil ?_
  | with_reducible refine g_gfld ?_
  | with_reducible refine g_sfld ?_
  | with_reducible refine g_drop ?_
  | with_reducible refine g_next ?_
  | with_reducible refine iteT ?_
  | with_reducible refine iteF ?_)
local macro_rules | `(tactic| walk_at "go") => `(tactic| (repeat walk_at "u"))

/-! ### what is thrown -/
section
variable {P : Program} {w : World} {K : PySem.W.Frag} {mg : Str → Option Value} {base : Heap} {C CT : Addr}
structure ThK (K : PySem.W.Frag) (mg : Str → Option Value) (C : Addr) : Prop where
  ax : AxC K C
  nV : PySem.W.findIn K (.ref C) "value" = some none
  nL : PySem.W.findIn K (.ref C) "level" = some none
  xf : XfC K C
  te : PySem.W.exmOne K (.ref C) (.ref C) = some true
  ae : mg "ArithmeticError" = none
  vV : PySem.W.findCls K (.type "ArithmeticError") (.type "type") "__init__" = some (.val (.builtin "ArithmeticError.__init__"))
  mg : mg "Thrown" = some (.ref C)
abbrev s_Thrown_init : Stmt := inClass (top 5) 0
theorem sc_Thrown_init : FnScope ["self", "value", "level"] ["self", "value", "level"] (defScope s_Thrown_init) := ⟨rfl, rfl, rfl, by decide +kernel, rfl, by decide +kernel, by decide +kernel⟩
abbrev thrF (v l : V) : List (Str × V) := [("level", l), ("value", v)]
def sp_Tinit (C : Addr) : Sp := fun vs H Q _ => ∃ (a : Addr) (v l : V), vs = [.ref a, v, l] ∧ H a = some (exo a C none) ∧ ∀ d H', H d = none → d ≠ a → H' a = some (exo a C (some d)) → H' d = some (exd d (thrF v l)) → (∀ b, b ≠ a → b ≠ d → H' b = H b) → Q .non H'
theorem ok_Tinit {f : Addr} {fd : FuncData} (F : FunD K "__init__" "Thrown.__init__" (defArgs s_Thrown_init) (defBody s_Thrown_init) (defScope s_Thrown_init) [.int 1] [] f fd) (T : ThK K mg CT) : FnOk P w K mg base CX0 1 f fd ["self", "value", "level"] (sp_Tinit CT) := by
  refine F.ok sc_Thrown_init (fun vs H Q E h => ?_) (fun cdv A outer s H vs Q E hr h => ?_)
  · obtain ⟨_, _, _, rfl, _⟩ := h; rfl
  · obtain ⟨a, v, l, rfl, ha, q⟩ := h
    refine ⟨_, PSs.nox (pss_cons (ps_expr (pe_axI T.ae T.vV (pa_cons (pv 0) (pa_cons (pv 1) pa_nil)))) (pss_cons (ps_axS (pv 0) (pv 1)) (pss_one (ps_axS (pv 0) (pv 2))))), ?_⟩
    refine g_seq (g_drop ?_)
    refine ⟨_, rfl, _, rfl, a, CT, [v], rfl, by simp, T.ax, ha, ?_⟩
    refine g_seq ?_
    refine ⟨_, rfl, _, rfl, a, CT, rfl, T.ax, T.nV, .inl ⟨ha, fun d H1 nd ne h1 h2 kp => ?_⟩⟩
    refine ⟨_, rfl, _, rfl, a, CT, rfl, T.ax, T.nL, .inr ⟨d, _, h1, h2, by simp, fun H2 h3 kp2 => ?_⟩⟩
    exact q d H2 nd ne ((kp2 a (Ne.symm ne)).trans h1) h3 fun b b1 b2 => (kp2 b b2).trans (kp b b1 b2)
def CThr (P : Program) (w : World) (K : PySem.W.Frag) (mg : Str → Option Value) (base : Heap) (C : Addr) : Prop := ThK K mg C ∧ ∃ fI fd ds, PySem.W.findIn K (.ref C) "__init__" = some (some (.ref fI)) ∧ PySem.W.typeIn K (.ref fI) = some (.type "function") ∧
  FnOk P w K mg base CX0 1 fI fd ["self", "value", "level"] (sp_Tinit C) ∧ Binds K fd ["self", "value", "level"] ds ∧ Vals [.int 1] ds
/-! raise, made of a reading -/
def tRai (t : L2.St → Hp → XK → Prop) (W : WX) : TS := fun _ σ H => t σ H fun cls d H' => W cls d σ H'
theorem g_rai {t : L2.St → Hp → XK → Prop} {W : WX} {D : Ends} {σ : L2.St} {H : Hp} (h : t σ H fun cls d H' => W cls d σ H') : tRai t W D σ H := h
def MkOR (C : Addr) (sp : Sp) (dvs : List V) (Q : XK) (vs : List V) (H1 : Hp) : Prop := vs.length ≤ 1000 ∧ ∀ a, H1 a = none → sp (.ref a :: (vs ++ dvs)) (upd H1 a (exo a C none))
  (fun v H2 => v = .non ∧ ∃ (d : Addr) (fs : List (Str × V)), H2 a = some (exo a C (some d)) ∧ H2 d = some (exd d fs) ∧ H1 d = none ∧ Q (.ref C) (some d) (upd (del H2 a) d (.xd fs))) (fun _ _ _ => False)
theorem g_mko {sp : Sp} {dvs : List V} {ta : TA} {σ : L2.St} {H : Hp} {Q : XK} (h : ta σ H fun vs H1 => MkOR C sp dvs Q vs H1) : tMkO C sp dvs ta σ H Q := h
def ThrR (C : Addr) (v : V) (H : Hp) (E : XK) : Prop := ∀ d H', Same H H' → H' d = some (.xd (thrF v (.int 1))) → E (.ref C) (some d) H'
theorem ThrR.later {v : V} {H H1 : Hp} {E : XK} (q : ThrR C v H E) (s : Same H H1) : ThrR C v H1 E := fun d H' s' h => q d H' (s.trans s') h
theorem g_thr {v : V} {H : Hp} {Q : XK} (q : ThrR C v H Q) : MkOR C (sp_Tinit C) [.int 1] Q [v] H := by
  refine ⟨by simp, fun a na => ?_⟩
  refine ⟨a, v, .int 1, rfl, upd_same, fun d H' nd dne ha hd kp => ⟨rfl, d, _, ha, hd, ?_, q d _ (fun b o e => ?_) upd_same⟩⟩
  · rw [upd_ne dne] at nd
    exact nd
  · rw [upd_ne dne] at nd
    have b1 := ne_of_none e na
    have b2 := ne_of_none e nd
    rw [upd_ne b2, del_ne b1, kp b b1 b2, upd_ne b1]
    exact e
theorem ps_thr {X : Cx} {W : WX} {e : Expr} {te : TE} {p pos pos2 : Pos} (T : CThr X.prog X.w X.K X.mg X.base C) (hr : Room 2 X.A) (hc : X.calm = true) (tk : Takes X W) (he : PE X e te) (hg : Gl X "Thrown" := by rfl)
    (hst : starEach (e :: []) X.env = (false, eval e X.env) :: starEach [] X.env := by rfl) (hpl : (backTo pos (starEach [] X.env)).any (·.1) = false := by rfl) :
    PS X (.Raise (some (.Call (.Name "Thrown" p) [e] [] pos)) none pos2) (tRai (tMkO C (sp_Tinit C) [.int 1] (tCons te tNil)) W) := by
  obtain ⟨T, fI, fd, ds, iC, tI, F, hb, hd⟩ := T
  exact ps_raise hc tk (pmk_ax T.ax iC tI F hr hb hd pass0 T.mg (pa_cons he pa_nil (hs := hst)) hg (by decide) hst hpl)
theorem pe_fnS {X : Cx} {CX : CXT} {k : Nat} {x : Str} {ps : List Str} {sp : Sp} {E : L2.St → XK} {p pos : Pos} {e : Expr} {es : List Expr} {t : TA} (F : Fn X.prog X.w X.K X.mg X.base CX k x ps [] sp) (hr : Room k X.A) (hx : ∀ σ, PassesAt CX X σ (E σ)) (ha : PA X (e :: es) t) (hg : Gl X x := by rfl)
    (hdb : (x == ("__debug__" : Str)) = false := by decide) (he : starEach (e :: es) X.env = (false, eval e X.env) :: starEach es X.env := by rfl) (hpl : (backTo pos (starEach es X.env)).any (·.1) = false := by rfl) :
    PE X (.Call (.Name x p) (e :: es) [] pos) (tCallS sp E t) := by
  obtain ⟨f, fd, ds, F, hm, hk, hb, hd⟩ := F
  cases hd
  exact pe_callS F hr hg hm hk hb hx ha hdb he hpl
theorem thr_value (v l : V) : (thrF v l).lookup ("value" : Str) = some v := by
  have h1 : (("value" : Str) == ("level" : Str)) = false := by decide +kernel
  have h2 : (("value" : Str) == ("value" : Str)) = true := by decide +kernel
  simp only [List.lookup, h1, h2]
end
end Up

set_option Elab.async false
set_option linter.all false
set_option pp.maxSteps 600
set_option maxRecDepth 100000
set_option maxHeartbeats 4000000
set_option exponentiation.threshold 200000
namespace Up
open PySem PySem.Spec PyProof.Rows L2
local macro_rules | `(tactic| walk_at "u") => `(tactic| first
  | with_reducible refine g_seq ?_
  | with_reducible refine g_asg ?_
  | with_reducible refine g_op ?_
  | ((with_reducible show tVar _ _ _ _); apply g_var; exact rfl)
  | with_reducible refine g_c ?_
  | with_reducible refine g_name ?_
  | with_reducible refine g_ifs ?_
  | with_reducible refine g_tt ?_
  | with_reducible refine g_tB ?_
  | with_reducible refine g_bl ?_
  | with_reducible refine g_ret ?_
  | with_reducible refine g_cb ?_
  | with_reducible refine g_cons ?_
  | with_reducible refine g_nil ?_
  | with_reducible refine g_call ?_
  | with_reducible refine g_and ?_
  | with_reducible refine g_or ?_
  | with_reducible refine g_not ?_
  | with_reducible refine g_andV ?_
  | with_reducible refine g_orV ?_
  | with_reducible refine g_notV ?_
  | with_reducible refine g_if ?_
  | with_reducible refine g_un ?_
  | with_reducible refine g_neg ?_
  | with_reducible refine g_addI ?_
  | with_reducible refine g_subI ?_
  | with_reducible refine g_subB ?_
  | with_reducible refine g_I0 ?_
  | with_reducible refine g_cmpI ?_
  | with_reducible refine g_eqI ?_
  | with_reducible refine g_neI ?_
  | with_reducible refine g_eqS ?_
  | with_reducible refine g_neS ?_
  | with_reducible refine g_eqB ?_
  | with_reducible refine g_neB ?_
  | with_reducible refine g_bits ?_
  | with_reducible refine g_bitsI ?_
  | with_reducible refine g_fld ?_
  | with_reducible refine g_tup ?_
  | with_reducible refine g_lst ?_
  | with_reducible refine g_gtup ?_
  | with_reducible refine g_make ?_
  | with_reducible refine g_lc ?_
  | with_reducible refine g_yesT ?_
  | with_reducible refine g_intI ?_
  | with_reducible refine g_intB ?_
  | with_reducible refine g_max2 ?_
  | with_reducible refine g_abs1 ?_
  | with_reducible refine g_for ?_
  | with_reducible refine g_iList ?_
  | with_reducible refine g_iTup ?_
  | with_reducible refine g_iRng1 ?_
  | with_reducible refine g_iEnum ?_
  | with_reducible refine g_slice ?_
  | with_reducible refine g_po0 ?_
  | with_reducible refine g_po1 ?_
  | with_reducible refine g_gsub ?_
  | with_reducible refine g_par ?_
  | with_reducible refine g_par2 ?_
  | with_reducible refine g_rfl ?_
  | with_reducible refine g_meth ?_
  | with_reducible refine g_gcons ?_
  | with_reducible refine g_gnil ?_
  | with_reducible refine g_gfld ?_
  | with_reducible refine g_sfld ?_
  | with_reducible refine g_drop ?_
  | with_reducible refine g_next ?_
  | with_reducible refine iteT ?_
  | with_reducible refine iteF ?_)
local macro_rules | `(tactic| walk_at "go") => `(tactic| (repeat walk_at "u"))
local macro_rules | `(tactic| walk_at "f") => `(tactic| (repeat (first
  | walk_at "u"
  | with_reducible refine g_chain ?_
  | with_reducible refine g_par3 ?_
  | with_reducible refine g_par3' ?_
  | ((with_reducible refine show_ex ?_); first
    | refine fT (by assumption) (by assumption) ?_
    | refine fS (by assumption) (by assumption) ?_
    | refine fP (by assumption) (by assumption) ?_))))

/-! ### numbers in 64 bits, and other things -/
def nIn : Nm → Prop
  | .i k => -9223372036854775808 ≤ k ∧ k < 9223372036854775808
  | .f s t p => FlOk s t p
theorem nIn.ok : ∀ {n : Nm}, nIn n → nOk n
  | .i _, h => big64 (by have := h.1; omega) (by have := h.2; omega)
  | .f _ _ _, h => h
theorem nIn.big : ∀ {n : Nm}, nIn n → nBig n
  | .i _, h => big64 (by have := h.1; omega) (by have := h.2; omega)
  | .f _ _ _, _ => trivial
inductive Th where
  | num (n : Nm)
  | oth (v : V)
def isO (u : V) : Prop := u = .non ∨ (∃ b, u = .bl b) ∨ ∃ x, u = .str x
def ThAt (C : Addr) (H : Hp) (v : V) : Th → Prop
  | .num n => NumAt C H v n ∧ nIn n
  | .oth u => v = u ∧ isO u
theorem ThAt.same {C : Addr} {H H' : Hp} {v : V} (s : Same H H') : ∀ {x : Th}, ThAt C H v x → ThAt C H' v x
  | .num _, ⟨h, o⟩ => ⟨h.same s, o⟩
  | .oth _, h => h
def isNT : Th → Bool
  | .num _ => true
  | _ => false
def isIT : Th → Bool
  | .num (.i _) => true
  | _ => false
section
variable {P : Program} {w : World} {K : PySem.W.Frag} {mg : Str → Option Value} {base : Heap} {C CT CP : Addr}
theorem ThAt.kf (T : FlC K mg C) {H : Hp} {v : V} : ∀ {x : Th}, ThAt C H v x → ∃ t b, KnF K C H v t b ∧ (b || isI v) = isNT x ∧ isI v = isIT x
  | .num n, ⟨h, _⟩ => by
    obtain ⟨t, hk, hi, _⟩ := h.kf T
    refine ⟨t, _, hk, ?_, ?_⟩
    · rw [hi]; cases n <;> rfl
    · rw [hi]; cases n <;> rfl
  | .oth u, ⟨e, h⟩ => by
    subst e
    rcases h with rfl | ⟨b, rfl⟩ | ⟨x, rfl⟩
    · exact ⟨_, _, kf_non T, rfl, rfl⟩
    · exact ⟨_, _, kf_bl T, rfl, rfl⟩
    · exact ⟨_, _, kf_str T, rfl, rfl⟩
/-! same, of numbers -/
abbrev s_same : Stmt := top 36
theorem sc_same : FnScope ["one", "other"] ["one", "other"] (defScope s_same) := ⟨rfl, rfl, rfl, by decide +kernel, rfl, by decide +kernel, by decide +kernel⟩
def sp_sameN (C : Addr) : Sp := fun vs H Q _ => ∃ v u n m, vs = [v, u] ∧ NumAt C H v n ∧ NumAt C H u m ∧ nOk n ∧ nOk m ∧ ∀ H', Same H H' → Q (.bl (decide (ordN n m = some 0))) H'
theorem ok_sameN {f : Addr} {fd : FuncData} (F : FunD K "same" "same" (defArgs s_same) (defBody s_same) (defScope s_same) [] [] f fd) (B : Blt mg) (T : FlC K mg C) (c_isnumber : Fn P w K mg base CX0 2 "is_number" ["thing"] [] (sp_isnumber K C)) (c_orderof : Fn P w K mg base CX0 3 "order_of" ["one", "other"] [] (sp_orderof C)) :
    FnOk P w K mg base CX0 4 f fd ["one", "other"] (sp_sameN C) := by
  refine F.ok sc_same (fun vs H Q E h => ?_) (fun cdv A outer s H vs Q E hr h => ?_)
  · obtain ⟨_, _, _, _, rfl, _⟩ := h; rfl
  · obtain ⟨v, u, n, m, rfl, hn, hm, on, om, q⟩ := h
    refine ⟨_, PSs.nox (pss_cons (ps_if (PW.pt (pw_and (pt_val (pe_fn c_isnumber (hr.mono (by decide)) pass0 (pa_cons (pv 0) pa_nil))) (pw_and1 (pt_val (pe_fn c_isnumber (hr.mono (by decide)) pass0 (pa_cons (pv 1) pa_nil)))))) (pss_one (ps_ret (pe_cmpR (op_oEq hr.units) (pe_fn c_orderof (hr.mono (by decide)) pass0 (pa_cons (pv 0) (pa_cons (pv 1) pa_nil))) pe_int (nomark _)))) pss_nil)
  pss_never), ?_⟩
    obtain ⟨t1, k1, i1, _⟩ := hn.kf T
    obtain ⟨t2, k2, i2, _⟩ := hm.kf T
    walk_at "go"
    refine ⟨v, t1, _, rfl, k1, ?_⟩
    have e1 : (isF n || isI v) = true := by rw [i1]; cases isF n <;> rfl
    rw [e1]
    walk_at "go"
    refine ⟨u, t2, _, rfl, k2, ?_⟩
    have e2 : (isF m || isI u) = true := by rw [i2]; cases isF m <;> rfl
    rw [e2]
    walk_at "go"
    refine ⟨v, u, n, m, rfl, hn, hm, on, om, fun H1 s1 => ?_⟩
    have q1 := q H1 s1
    walk_at "go"
    cases eo : ordN n m with
    | none =>
      rw [eo] at q1
      exact g_eqx rfl (fun z => nomatch z) q1
    | some o =>
      rw [eo] at q1
      refine g_eqI ?_
      have e2 : decide (some o = some (0 : Int)) = decide (o = 0) := by simp
      rw [e2] at q1
      exact q1
/-! is_within -/
abbrev s_iswithin : Stmt := top 38
theorem sc_iswithin : FnScope ["number", "step", "limit"] ["number", "step", "limit"] (defScope s_iswithin) := ⟨rfl, rfl, rfl, by decide +kernel, rfl, by decide +kernel, by decide +kernel⟩
def wthN (n s l : Nm) : Bool := if cmpN "lt" (.i 0) s = true then cmpN "le" n l else cmpN "le" l n
def sp_iswithin (C : Addr) : Sp := fun vs H Q _ => ∃ v u t n s l, vs = [v, u, t] ∧ NumAt C H v n ∧ NumAt C H u s ∧ NumAt C H t l ∧ nOk n ∧ nOk s ∧ nOk l ∧ ∀ H', Same H H' → Q (.bl (wthN n s l)) H'
abbrev CCmp (P : Program) (w : World) (K : PySem.W.Frag) (mg : Str → Option Value) (base : Heap) (C : Addr) : Prop := Fn P w K mg base CX0 4 "compare" ["word", "one", "other"] [] (sp_compare C)
theorem g_cmpN {H : Hp} {Q : VK} {E : XK} {x : Str} {v u : V} {n m : Nm} (hn : NumAt C H v n) (hm : NumAt C H u m) (on : nOk n) (om : nOk m) (q : ∀ H', Same H H' → Q (.bl (cmpN x n m)) H') : sp_compare C ([.str x, v, u] ++ []) H Q E := ⟨x, v, u, n, m, rfl, hn, hm, on, om, q⟩
theorem ok_iswithin {f : Addr} {fd : FuncData} (F : FunD K "is_within" "is_within" (defArgs s_iswithin) (defBody s_iswithin) (defScope s_iswithin) [] [] f fd) (B : Blt mg) (c_compare : CCmp P w K mg base C) : FnOk P w K mg base CX0 5 f fd ["number", "step", "limit"] (sp_iswithin C) := by
  refine F.ok sc_iswithin (fun vs H Q E h => ?_) (fun cdv A outer s H vs Q E hr h => ?_)
  · obtain ⟨_, _, _, _, _, _, rfl, _⟩ := h; rfl
  · obtain ⟨v, u, t, n, s, l, rfl, hn, hs, hl, on, os, ol, q⟩ := h
    unfold wthN at q
    refine ⟨_, PSs.nox (pss_one (ps_ret (pe_ifExp (pt_val (pe_fn c_compare (hr.mono (by decide)) pass0 (pa_cons pe_str (pa_cons pe_int (pa_cons (pv 1) pa_nil))))) (pe_fn c_compare (hr.mono (by decide)) pass0 (pa_cons pe_str (pa_cons (pv 0) (pa_cons (pv 2) pa_nil)))) (pe_fn c_compare (hr.mono (by decide)) pass0 (pa_cons pe_str (pa_cons (pv 2) (pa_cons (pv 0) pa_nil))))))), ?_⟩
    walk_at "go"
    refine g_cmpN (n := .i 0) rfl hs (show bigOk 0 from big64 (by decide) (by decide)) os fun H1 s1 => ?_
    walk_at "go"
    refine g_iteb (fun h1 => ?_) fun h1 => ?_
    · rw [if_pos h1] at q
      walk_at "go"
      exact g_cmpN (hn.same s1) (hl.same s1) on ol fun H2 s2 => q _ (s1.trans s2)
    · rw [if_neg (by rw [h1]; decide)] at q
      walk_at "go"
      exact g_cmpN (hl.same s1) (hn.same s1) ol on fun H2 s2 => q _ (s1.trans s2)
/-! ForPlan -/
def plF (v st l lim : V) : List (Str × V) := [("value", v), ("stride", st), ("left", l), ("limit", lim)]
theorem pl_put (v st l lim : V) : putF "limit" lim (putF "left" l (putF "stride" st (putF "value" v []))) = plF v st l lim := rfl
structure PlC (K : PySem.W.Frag) (mg : Str → Option Value) (C : Addr) : Prop where
  cl : Cls K C
  nV : NoAttr K C "value"
  nS : NoAttr K C "stride"
  nL : NoAttr K C "left"
  nM : NoAttr K C "limit"
  mg : mg "ForPlan" = some (.ref C)
abbrev s_ForPlan_init : Stmt := inClass (top 37) 0
theorem sc_ForPlan_init : FnScope ["self", "value", "step", "left", "limit"] ["self", "value", "step", "left", "limit"] (defScope s_ForPlan_init) := ⟨rfl, rfl, rfl, by decide +kernel, rfl, by decide +kernel, by decide +kernel⟩
def sp_Pinit (CP : Addr) : Sp := fun vs H Q _ => ∃ (x dx : Addr) (v st l lim : V), vs = [.ref x, v, st, l, lim] ∧ H x = some (.ins CP dx []) ∧ ∀ H', (∀ b o, b ≠ x → H b = some o → H' b = some o) → H' x = some (.ins CP dx (plF v st l lim)) → Q .non H'
theorem ok_Pinit {f : Addr} {fd : FuncData} (F : FunD K "__init__" "ForPlan.__init__" (defArgs s_ForPlan_init) (defBody s_ForPlan_init) (defScope s_ForPlan_init) [] [] f fd) (B : Blt mg) (T : PlC K mg CP) : FnOk P w K mg base CX0 1 f fd ["self", "value", "step", "left", "limit"] (sp_Pinit CP) := by
  refine F.ok sc_ForPlan_init (fun vs H Q E h => ?_) (fun cdv A outer s H vs Q E hr h => ?_)
  · obtain ⟨_, _, _, _, _, _, rfl, _⟩ := h; rfl
  · obtain ⟨x, dx, v, st, l, lim, rfl, hx, q⟩ := h
    refine ⟨_, PSs.nox (pss_cons (ps_fld (pv 0) (pv 1) rfl)
  (pss_cons (ps_fld (pv 0) (pv 2) rfl)
  (pss_cons (ps_fld (pv 0) (pv 3) rfl)
  (pss_one (ps_fld (pv 0) (pv 4) rfl))))), ?_⟩
    walk_at "go"
    refine ⟨x, CP, dx, _, rfl, hx, T.cl, T.nV, by simp, ?_⟩
    walk_at "go"
    refine ⟨x, CP, dx, _, rfl, upd_same, T.cl, T.nS, by show 1 < 1000; decide, ?_⟩
    walk_at "go"
    refine ⟨x, CP, dx, _, rfl, upd_same, T.cl, T.nL, by show 2 < 1000; decide, ?_⟩
    walk_at "go"
    refine ⟨x, CP, dx, _, rfl, upd_same, T.cl, T.nM, by show 3 < 1000; decide, ?_⟩
    walk_at "go"
    refine q _ (fun b o hb e => ?_) ?_
    · rw [upd_ne hb, upd_ne hb, upd_ne hb, upd_ne hb]; exact e
    · exact upd_same
inductive Pl where
  | I (v s k : Int)
  | F (x s l : FL)
def PlAt (C CP : Addr) (H : Hp) (a : Addr) : Pl → Prop
  | .I v s k => ∃ dx lim, H a = some (.ins CP dx (plF (.int v) (.int s) (.int k) lim))
  | .F x s l => ∃ dx vx vs vl, H a = some (.ins CP dx (plF vx vs .non vl)) ∧ FA C H vx x ∧ FA C H vs s ∧ FA C H vl l ∧ x.ok ∧ s.ok ∧ l.ok
def nmF (x : FL) : Nm := .f x.s x.t x.p
theorem FA.num {H : Hp} {v : V} {x : FL} (h : FA C H v x) (o : x.ok) : NumAt C H v (nmF x) := by
  obtain ⟨a, e, h⟩ := h
  exact ⟨a, e, h, o⟩
def plNext : Pl → Option Pl
  | .I v s k => if k = 0 then none else some (.I (v + s) s (k - 1))
  | .F x s l => if wthN (nmF (byL "add" x s)) (nmF s) (nmF l) = true then some (.F (byL "add" x s) s l) else none
/-- all but the object at a stands -/
theorem FA.stay {a : Addr} {H H' : Hp} {v : V} {x : FL} {dx : Addr} {CP : Addr} {fs : List (Str × V)} (hne : CP ≠ C) (h : FA C H v x) (ha : H a = some (.ins CP dx fs)) (s : ∀ b o, b ≠ a → H b = some o → H' b = some o) : FA C H' v x := by
  obtain ⟨b, e, d, h⟩ := h
  refine ⟨b, e, d, s _ _ (fun z => ?_) h⟩
  rw [z, ha] at h
  injection h with h
  injection h with h1 h2
  exact hne h1
theorem addL_ok {x y : FL} (ox : x.ok) (oy : y.ok) (hx : x.t ≠ .str "nan") (hy : y.t ≠ .str "nan") : (addL x y).ok := by
  unfold addL
  split
  · split
    · exact nan_ok
    · split
      · exact ox
      · exact oy
  · rename_i h1
    split
    · exact zero_ok (maxI_sgn ox.1 oy.1)
    · obtain ⟨n, en, _⟩ := ox.fin hx fun z => h1 (.inl z)
      obtain ⟨m, em, _⟩ := oy.fin hy fun z => h1 (.inr z)
      exact near_ok (tfS_sgn _) (dd_pos (ox.small en).2.2 (oy.small em).2.2)
theorem addB_ok {x y : FL} (ox : x.ok) (oy : y.ok) : (byL "add" x y).ok := by
  unfold byL
  split
  · exact nan_ok
  · rename_i hn
    rw [if_pos rfl]
    exact addL_ok ox oy (fun z => hn (.inl z)) fun z => hn (.inr z)
abbrev s_ForPlan_goeson : Stmt := inClass (top 37) 1
theorem sc_ForPlan_goeson : FnScope ["self"] ["self"] (defScope s_ForPlan_goeson) := ⟨rfl, rfl, rfl, by decide +kernel, rfl, by decide +kernel, by decide +kernel⟩
def sp_goeson (C CP : Addr) : Sp := fun vs H Q _ => ∃ (a : Addr) (p : Pl), vs = [.ref a] ∧ PlAt C CP H a p ∧ ∀ H', (∀ b o, b ≠ a → H b = some o → H' b = some o) → match plNext p with
  | none => Q (.bl false) H'
  | some p' => PlAt C CP H' a p' → Q (.bl true) H'
abbrev CAr4 (P : Program) (w : World) (K : PySem.W.Frag) (mg : Str → Option Value) (base : Heap) (C : Addr) : Prop := Fn P w K mg base CX0 8 "arith" ["word", "one", "other"] [] (sp_arith C)
theorem g_addF {H : Hp} {Q : VK} {E : XK} {v u : V} {x y : FL} (hv : FA C H v x) (hu : FA C H u y) (ox : x.ok) (oy : y.ok) (q : RetN C H (byL "add" x y) Q) : sp_arith C ([.str "add", v, u] ++ []) H Q E :=
  ⟨_, v, u, nmF x, nmF y, rfl, .inl rfl, hv.num ox, hu.num oy, trivial, trivial, .inr (.inl rfl), q⟩
theorem fPl {H : Hp} {a dx : Addr} {v st l lim : V} {f : Str} {u : V} {T : V → Prop} (O : PlC K mg CP) (ha : H a = some (.ins CP dx (plF v st l lim))) (hn : NoAttr K CP f) (e : (plF v st l lim).lookup f = some u) (q : T u) : ∃ a' C' dx fs v, V.ref a = .ref a' ∧ H a' = some (.ins C' dx fs) ∧ Cls K C' ∧ NoAttr K C' f ∧ fs.lookup f = some v ∧ T v :=
  ⟨a, CP, dx, _, _, rfl, ha, O.cl, hn, e, q⟩
theorem ok_goeson {f : Addr} {fd : FuncData} (F : FunD K "goes_on" "ForPlan.goes_on" (defArgs s_ForPlan_goeson) (defBody s_ForPlan_goeson) (defScope s_ForPlan_goeson) [] [] f fd) (B : Blt mg) (T : PlC K mg CP) (hne : CP ≠ C) (c_arith : CAr4 P w K mg base C) (c_iswithin : Fn P w K mg base CX0 5 "is_within" ["number", "step", "limit"] [] (sp_iswithin C)) : FnOk P w K mg base CX0 9 f fd ["self"] (sp_goeson C CP) := by
  refine F.ok sc_ForPlan_goeson (fun vs H Q E h => ?_) (fun cdv A outer s H vs Q E hr h => ?_)
  · obtain ⟨_, _, rfl, _⟩ := h; rfl
  · obtain ⟨a, p, rfl, hp, q⟩ := h
    refine ⟨_, PSs.nox (pss_cons (ps_if (pt_cmpR op_notN (pe_fld (pv 0) rfl) pe_non (nomark _)) (pss_cons (ps_if (pt_cmpR (op_oEq hr.units) (pe_fld (pv 0) rfl) pe_int (nomark _)) (pss_one (ps_ret pe_bl)) pss_nil)
  (pss_cons (ps_fld (pv 0) (pe_op op_oSub (pe_fld (pv 0) rfl) pe_int) rfl)
  (pss_cons (ps_fld (pv 0) (pe_op op_oAdd (pe_fld (pv 0) rfl) (pe_fld (pv 0) rfl)) rfl)
  (pss_one (ps_ret pe_bl))))) pss_nil)
  (pss_cons (ps_fld (pv 0) (pe_fn c_arith (hr.mono (by decide)) pass0 (pa_cons pe_str (pa_cons (pe_fld (pv 0) rfl) (pa_cons (pe_fld (pv 0) rfl) pa_nil)))) rfl)
  (pss_one (ps_ret (pe_fn c_iswithin (hr.mono (by decide)) pass0 (pa_cons (pe_fld (pv 0) rfl) (pa_cons (pe_fld (pv 0) rfl) (pa_cons (pe_fld (pv 0) rfl) pa_nil)))))))), ?_⟩
    cases p with
    | I v st k =>
      obtain ⟨dx, lim, ha⟩ := hp
      walk_at "go"
      refine fPl T ha T.nL rfl ?_
      walk_at "go"
      refine g_iten (fun _ => ?_) fun z => nomatch z
      walk_at "go"
      refine fPl T ha T.nL rfl ?_
      walk_at "go"
      refine g_ite (fun h0 => ?_) fun h0 => ?_
      · walk_at "go"
        have q1 := q H (fun b o _ e => e)
        rw [show plNext (.I v st k) = none from if_pos h0] at q1
        exact q1
      · walk_at "go"
        refine fPl T ha T.nL rfl ?_
        walk_at "go"
        refine ⟨a, CP, dx, _, rfl, ha, T.cl, T.nL, by show 4 < 1000; decide, ?_⟩
        walk_at "go"
        refine fPl (v := .int v) (st := .int st) (l := .int (k - 1)) (lim := lim) T upd_same T.nV rfl ?_
        walk_at "go"
        refine fPl (v := .int v) (st := .int st) (l := .int (k - 1)) (lim := lim) T upd_same T.nS rfl ?_
        walk_at "go"
        refine ⟨a, CP, dx, plF (.int v) (.int st) (.int (k - 1)) lim, rfl, upd_same, T.cl, T.nV, by show 4 < 1000; decide, ?_⟩
        walk_at "go"
        have q1 := q (upd (upd H a (.ins CP dx (plF (.int v) (.int st) (.int (k - 1)) lim))) a (.ins CP dx (plF (.int (v + st)) (.int st) (.int (k - 1)) lim))) (fun b o hb e => by rw [upd_ne hb, upd_ne hb]; exact e)
        rw [show plNext (.I v st k) = some (.I (v + st) st (k - 1)) from if_neg h0] at q1
        exact q1 ⟨dx, lim, upd_same⟩
    | F x st l =>
      obtain ⟨dx, vx, vs, vl, ha, hx, hs, hl, ox, os, ol⟩ := hp
      walk_at "go"
      refine fPl T ha T.nL rfl ?_
      walk_at "go"
      refine g_iten (fun z => absurd rfl z) fun _ => ?_
      walk_at "go"
      refine fPl T ha T.nV rfl ?_
      walk_at "go"
      refine fPl T ha T.nS rfl ?_
      walk_at "go"
      refine g_addF hx hs ox os fun H1 v1 s1 f1 => ?_
      have o1 := addB_ok ox os
      have ha1 := s1 _ _ ha
      walk_at "go"
      refine ⟨a, CP, dx, _, rfl, ha1, T.cl, T.nV, by show 4 < 1000; decide, ?_⟩
      have st2 : ∀ b o, b ≠ a → H1 b = some o → upd H1 a (.ins CP dx (plF v1 vs .non vl)) b = some o := fun b o hb e => by rw [upd_ne hb]; exact e
      have k1 := f1.stay hne ha1 st2
      have k2 := (hs.same s1).stay hne ha1 st2
      have k3 := (hl.same s1).stay hne ha1 st2
      have ep : putF "value" v1 (plF vx vs .non vl) = plF v1 vs .non vl := rfl
      rw [ep]
      walk_at "go"
      refine fPl (v := v1) (st := vs) (l := .non) (lim := vl) T upd_same T.nV rfl ?_
      walk_at "go"
      refine fPl (v := v1) (st := vs) (l := .non) (lim := vl) T upd_same T.nS rfl ?_
      walk_at "go"
      refine fPl (v := v1) (st := vs) (l := .non) (lim := vl) T upd_same T.nM rfl ?_
      walk_at "go"
      refine ⟨_, _, _, _, _, _, rfl, k1.num o1, k2.num os, k3.num ol, o1, os, ol, fun H2 s2 => ?_⟩
      have q1 := q H2 (fun b o hb e => s2 _ _ (st2 b o hb (s1 _ _ e)))
      by_cases hw : wthN (nmF (byL "add" x st)) (nmF st) (nmF l) = true
      · rw [show plNext (.F x st l) = some (.F (byL "add" x st) st l) from if_pos hw] at q1
        rw [hw]
        exact q1 ⟨dx, v1, vs, vl, s2 _ _ upd_same, k1.same s2, k2.same s2, k3.same s2, o1, os, ol⟩
      · rw [show plNext (.F x st l) = none from if_neg hw] at q1
        have hw : wthN (nmF (byL "add" x st)) (nmF st) (nmF l) = false := by simpa using hw
        rw [hw]
        exact q1
end
end Up

set_option Elab.async false
set_option linter.all false
set_option pp.maxSteps 600
set_option maxRecDepth 100000
set_option maxHeartbeats 4000000
set_option exponentiation.threshold 200000
namespace Up
open PySem PySem.Spec PyProof.Rows L2
local macro_rules | `(tactic| walk_at "u") => `(tactic| first
  | with_reducible refine g_seq ?_
  | with_reducible refine g_asg ?_
  | with_reducible refine g_op ?_
  | ((with_reducible show tVar _ _ _ _); apply g_var; exact rfl)
  | with_reducible refine g_c ?_
  | with_reducible refine g_name ?_
  | with_reducible refine g_ifs ?_
  | with_reducible refine g_tt ?_
  | with_reducible refine g_tB ?_
  | with_reducible refine g_bl ?_
  | with_reducible refine g_ret ?_
  | with_reducible refine g_cb ?_
  | with_reducible refine g_cons ?_
  | with_reducible refine g_nil ?_
  | with_reducible refine g_call ?_
  | with_reducible refine g_and ?_
  | with_reducible refine g_or ?_
  | with_reducible refine g_not ?_
  | with_reducible refine g_andV ?_
  | with_reducible refine g_orV ?_
  | with_reducible refine g_notV ?_
  | with_reducible refine g_if ?_
  | with_reducible refine g_un ?_
  | with_reducible refine g_neg ?_
  | with_reducible refine g_addI ?_
  | with_reducible refine g_subI ?_
  | with_reducible refine g_subB ?_
  | with_reducible refine g_I0 ?_
  | with_reducible refine g_cmpI ?_
  | with_reducible refine g_eqI ?_
  | with_reducible refine g_neI ?_
  | with_reducible refine g_eqS ?_
  | with_reducible refine g_neS ?_
  | with_reducible refine g_eqB ?_
  | with_reducible refine g_neB ?_
  | with_reducible refine g_bits ?_
  | with_reducible refine g_bitsI ?_
  | with_reducible refine g_fld ?_
  | with_reducible refine g_tup ?_
  | with_reducible refine g_lst ?_
  | with_reducible refine g_gtup ?_
  | with_reducible refine g_make ?_
  | with_reducible refine g_lc ?_
  | with_reducible refine g_yesT ?_
  | with_reducible refine g_intI ?_
  | with_reducible refine g_intB ?_
  | with_reducible refine g_max2 ?_
  | with_reducible refine g_abs1 ?_
  | with_reducible refine g_for ?_
  | with_reducible refine g_iList ?_
  | with_reducible refine g_iTup ?_
  | with_reducible refine g_iRng1 ?_
  | with_reducible refine g_iEnum ?_
  | with_reducible refine g_slice ?_
  | with_reducible refine g_po0 ?_
  | with_reducible refine g_po1 ?_
  | with_reducible refine g_gsub ?_
  | with_reducible refine g_par ?_
  | with_reducible refine g_par2 ?_
  | with_reducible refine g_rfl ?_
  | with_reducible refine g_meth ?_
  | with_reducible refine g_gcons ?_
  | with_reducible refine g_gnil ?_
  | with_reducible refine g_gfld ?_
  | with_reducible refine g_sfld ?_
  | with_reducible refine g_drop ?_
  | with_reducible refine g_next ?_
  | with_reducible refine iteT ?_
  | with_reducible refine iteF ?_)
local macro_rules | `(tactic| walk_at "go") => `(tactic| (repeat walk_at "u"))
local macro_rules | `(tactic| walk_at "f") => `(tactic| (repeat (first
  | walk_at "u"
  | with_reducible refine g_chain ?_
  | with_reducible refine g_par3 ?_
  | with_reducible refine g_par3' ?_
  | ((with_reducible refine show_ex ?_); first
    | refine fT (by assumption) (by assumption) ?_
    | refine fS (by assumption) (by assumption) ?_
    | refine fP (by assumption) (by assumption) ?_))))

/-! ### what a loop's head comes to -/
inductive PR where
  | err (x : Str)
  | no
  | go (p : Pl)
def lastR (j : Int) : Nm → Int
  | .i l => l
  | .f s (.int m) p => if 0 < j then (ratN s m p).fdiv (ratD p) else 0 - (0 - ratN s m p).fdiv (ratD p)
  | .f _ _ _ => if 0 < j then 9223372036854775807 else -9223372036854775808
def clampI (x : Int) : Int := if 9223372036854775807 < (if -9223372036854775808 > x then -9223372036854775808 else x) then 9223372036854775807 else (if -9223372036854775808 > x then -9223372036854775808 else x)
def zeroT : Str := "'for' step is zero"
def limT : Str := "'for' limit must be a number"
def wordT (x : Str) : Str := ("'for' " : Str) ++ x ++ " must be a number"
def wholeR (k j : Int) (l : Th) : PR := if j = 0 then .err zeroT else match l with
  | .oth _ => .err limT
  | .num L => if ordN (.i k) L = none ∨ ordN (.i k) L = some (sgnB (decide (j < 0))) then .no else .go (.I k j ((clampI (lastR j L) - k).fdiv j))
def tL : Th → FL
  | .num n => toL n
  | _ => nanL
def fltR (s l t : Th) : PR :=
  if isNT l = false then .err (wordT "limit") else if isNT t = false then .err (wordT "step") else if isNT s = false then .err (wordT "initial value")
  else if (tL t).t = .int 0 then .err zeroT
  else if ((tL s).t = .str "nan" ∨ (tL l).t = .str "nan" ∨ (tL t).t = .str "nan") ∨ wthN (nmF (tL s)) (nmF (tL t)) (nmF (tL l)) = false then .no
  else .go (.F (tL s) (tL t) (tL l))
def forR (s l t : Th) : PR := match s, t with
  | .num (.i k), .num (.i j) => wholeR k j l
  | _, _ => fltR s l t
section
variable {P : Program} {w : World} {K : PySem.W.Frag} {mg : Str → Option Value} {base : Heap} {C CT CP : Addr}
def PlanR (C CP CT : Addr) (r : PR) (H : Hp) (Q : VK) (E : XK) : Prop := match r with
  | .err x => ThrR CT (.str x) H E
  | .no => ∀ H', Same H H' → Q .non H'
  | .go p => ∀ H' a, H a = none → Same H H' → PlAt C CP H' a p → Q (.ref a) H'
theorem PlanR.later {r : PR} {H H1 : Hp} {Q : VK} {E : XK} (q : PlanR C CP CT r H Q E) (s : Same H H1) : PlanR C CP CT r H1 Q E := by
  cases r with
  | err x => exact ThrR.later q s
  | no => exact fun H' s' => q H' (s.trans s')
  | go p => exact fun H' a n s' h => q H' a (s.free n) (s.trans s') h
abbrev CPl (P : Program) (w : World) (K : PySem.W.Frag) (mg : Str → Option Value) (base : Heap) (CP : Addr) : Prop := Cn P w K mg base CX0 1 "ForPlan" CP ["self", "value", "step", "left", "limit"] [] (sp_Pinit CP)
theorem mkP {H : Hp} {Q : VK} {E : XK} {v st l lim : V} (q : ∀ H' a dx, H a = none → Same H H' → H' a = some (.ins CP dx (plF v st l lim)) → Q (.ref a) H') : MakeR CP (sp_Pinit CP) ([v, st, l, lim] ++ []) H Q E := by
  intro x dx H' nx ndx ne s1 hx _
  exact ⟨x, dx, v, st, l, lim, rfl, hx, fun H2 k h2 => ⟨rfl, q H2 x dx nx (fun b o e => k b o (ne_of_none e nx) (s1 _ _ e)) h2⟩⟩
abbrev COrd (P : Program) (w : World) (K : PySem.W.Frag) (mg : Str → Option Value) (base : Heap) (C : Addr) : Prop := Fn P w K mg base CX0 3 "order_of" ["one", "other"] [] (sp_orderof C)
abbrev CIsn (P : Program) (w : World) (K : PySem.W.Frag) (mg : Str → Option Value) (base : Heap) (C : Addr) : Prop := Fn P w K mg base CX0 2 "is_number" ["thing"] [] (sp_isnumber K C)
/-! whole_plan -/
abbrev s_wholeplan : Stmt := top 40
theorem sc_wholeplan : FnScope ["start", "limit", "step", "last", "top", "bottom"] ["start", "limit", "step"] (defScope s_wholeplan) := ⟨rfl, rfl, rfl, by decide +kernel, rfl, by decide +kernel, by decide +kernel⟩
def sp_wholeplan (C CP CT : Addr) : Sp := fun vs H Q E => ∃ (k j : Int) (u : V) (l : Th), vs = [.int k, u, .int j] ∧ nIn (.i k) ∧ nIn (.i j) ∧ ThAt C H u l ∧ PlanR C CP CT (wholeR k j l) H Q E
theorem ok_wholeplan {f : Addr} {fd : FuncData} (F : FunD K "whole_plan" "whole_plan" (defArgs s_wholeplan) (defBody s_wholeplan) (defScope s_wholeplan) [] [] f fd) (B : Blt mg) (T : FlC K mg C) (i_LEAST : ∃ t, mg "LEAST" = some (.int (-9223372036854775808) t)) (i_MOST : ∃ t, mg "MOST" = some (.int 9223372036854775807 t)) (c_Thrown : CThr P w K mg base CT) (c_isnumber : CIsn P w K mg base C) (c_orderof : COrd P w K mg base C) (c_signof : CSign P w K mg base)
    (c_isfinite : Mt P w K mg base CX0 1 C "is_finite" ["self"] (sp_isfinite C)) (c_ratio : CRat P w K mg base C) (c_ForPlan : CPl P w K mg base CP) : FnOk P w K mg base (L2.CX P w) 5 f fd ["start", "limit", "step"] (sp_wholeplan C CP CT) := by
  have g_Float : mg "Float" = some (.ref C) := T.mg
  refine F.ok sc_wholeplan (fun vs H Q E h => ?_) (fun cdv A outer s H vs Q E hr h => ?_)
  · obtain ⟨_, _, _, _, rfl, _⟩ := h; rfl
  · obtain ⟨k, j, u, l, rfl, hk, hj, hl, q⟩ := h
    unfold wholeR at q
    obtain ⟨tt, b, kf, en, _⟩ := hl.kf T
    have ok : nOk (.i k) := hk.ok
    refine ⟨_, (pss_cons (ps_if (pt_cmpR (op_oEq hr.units) (pv 2) pe_int (nomark _)) (pss_one (ps_thr c_Thrown (hr.mono (by decide)) rfl (takes_of rfl rfl rfl rfl) pe_str)) pss_nil)
  (pss_cons (ps_if (pt_not (pt_val (pe_fn c_isnumber (hr.mono (by decide)) pass0 (pa_cons (pv 1) pa_nil)))) (pss_one (ps_thr c_Thrown (hr.mono (by decide)) rfl (takes_of rfl rfl rfl rfl) pe_str)) pss_nil)
  (pss_cons (ps_if (pt_cut (PW.pt (pw_or (pt_cmpR op_isN (pe_fn c_orderof (hr.mono (by decide)) pass0 (pa_cons (pv 0) (pa_cons (pv 1) pa_nil))) pe_non (nomark _)) (pw_or1 (pt_cmpR (op_oEq hr.units) (pe_fn c_orderof (hr.mono (by decide)) pass0 (pa_cons (pv 0) (pa_cons (pv 1) pa_nil))) (pe_fn c_signof (hr.mono (by decide)) pass0 (pa_cons (pe_cmpR op_oLt (pv 2) pe_int (nomark _)) pa_nil)) (nomark _)))))) (pss_one (ps_ret pe_non)) pss_nil)
  (pss_cons (ps_set (i := 3) sc_wholeplan.nd rfl (Or.inl rfl) (pv 1))
  (C8.pss_cut (ps_if (pt_val (pe_callB call_isi (by rfl) B.isinstance (by decide +kernel) (pa_cons (pv 1) (pa_cons (pe_gref g_Float) pa_nil)))) (pss_cons (ps_set (i := 3) sc_wholeplan.nd rfl (Or.inl rfl) (pe_ifExp (pt_cmpR op_oGt (pv 2) pe_int (nomark _)) (pe_gint i_MOST) (pe_gint i_LEAST)))
  (pss_one (ps_if (pt_val (pe_mt0 c_isfinite (hr.mono (by decide)) pass0 (pv 1))) (pss_cons (ps_asg (pe_mt0 c_ratio (hr.mono (by decide)) pass0 (pv 1)) (pg_tup rfl (pgs_cons (pg_name (i := 4) sc_wholeplan.nd rfl (Or.inl rfl)) (pgs_cons (pg_name (i := 5) sc_wholeplan.nd rfl (Or.inl rfl)) pgs_nil))))
  (pss_one (ps_set (i := 3) sc_wholeplan.nd rfl (Or.inl rfl) (pe_ifExp (pt_cmpR op_oGt (pv 2) pe_int (nomark _)) (pe_op op_oDiv (pv 4) (pv 5)) (pe_op op_oSub pe_int (pe_op op_oDiv (pe_op op_oSub pe_int (pv 4)) (pv 5))))))) pss_nil))) pss_nil)
  (pss_cons (ps_set (i := 3) sc_wholeplan.nd rfl (Or.inl rfl) (pe_callB (call_min2 rfl) (by rfl) B.min (by decide +kernel) (pa_cons (pe_callB (call_max2 rfl) (by rfl) B.max (by decide +kernel) (pa_cons (pv 3) (pa_cons (pe_gint i_LEAST) pa_nil))) (pa_cons (pe_gint i_MOST) pa_nil))))
  (pss_one (ps_ret (pe_cn c_ForPlan (hr.mono (by decide)) pass0 (pa_cons (pv 0) (pa_cons (pv 2) (pa_cons (pe_op op_oDiv (pe_op op_oSub (pv 3) (pv 0)) (pv 2)) (pa_cons pe_non pa_nil))))))))))))), ?_⟩
    walk_at "f"
    refine g_ite (fun h0 => ?_) fun h0 => ?_
    · rw [if_pos h0] at q
      walk_at "f"
      refine g_rai (g_mko ?_)
      walk_at "f"
      exact g_thr q
    · rw [if_neg h0] at q
      walk_at "f"
      refine ⟨u, tt, b, rfl, kf, ?_⟩
      rw [en]
      walk_at "f"
      cases l with
      | oth o =>
        refine iteT ?_
        walk_at "f"
        refine g_rai (g_mko ?_)
        walk_at "f"
        exact g_thr q
      | num L =>
        obtain ⟨hL, iL⟩ := hl
        have oL := iL.ok
        refine iteF ?_
        walk_at "f"
        refine g_cutT (fun c H' => c = decide (ordN (.i k) L = none ∨ ordN (.i k) L = some (sgnB (decide (j < 0)))) ∧ Same H H') ?_ ?_
        · walk_at "f"
          refine ⟨_, _, .i k, L, rfl, rfl, hL, ok, oL, fun H1 s1 => ?_⟩
          cases eo : ordN (.i k) L with
          | none =>
            walk_at "f"
            refine g_yes rfl ?_
            exact ⟨(decide_eq_true (.inl rfl)).symm, s1⟩
          | some o =>
            walk_at "f"
            refine g_no (fun z => nomatch z) ?_
            walk_at "f"
            refine ⟨_, _, .i k, L, rfl, rfl, hL.same s1, ok, oL, fun H2 s2 => ?_⟩
            rw [eo]
            walk_at "f"
            refine ⟨_, rfl, ?_⟩
            refine g_eqI ?_
            walk_at "f"
            refine ⟨?_, s1.trans s2⟩
            by_cases h5 : o = sgnB (decide (j < 0))
            · rw [decide_eq_true h5, decide_eq_true (.inr (by rw [h5]))]
            · rw [decide_eq_false h5, decide_eq_false]
              rintro (z | z)
              · cases z
              · injection z with z
                exact h5 z
        · rintro _ H1 ⟨rfl, s1⟩
          have hL := hL.same s1
          obtain ⟨t3, k3, _, _⟩ := hL.kf T
          refine g_ite (fun h1 => ?_) fun h1 => ?_
          · have q : PlanR C CP CT (if ordN (.i k) L = none ∨ ordN (.i k) L = some (sgnB (decide (j < 0))) then .no else .go (.I k j ((clampI (lastR j L) - k).fdiv j))) H Q E := q
            rw [if_pos h1] at q
            walk_at "f"
            exact q _ s1
          · have q : PlanR C CP CT (if ordN (.i k) L = none ∨ ordN (.i k) L = some (sgnB (decide (j < 0))) then .no else .go (.I k j ((clampI (lastR j L) - k).fdiv j))) H Q E := q
            rw [if_neg h1] at q
            walk_at "f"
            refine g_cut (fun σ' H2 => ∃ e4 e5, σ' = [some (.int k), some u, some (.int j), some (.int (lastR j L)), e4, e5] ∧ Same H1 H2) ?_ ?_
            · walk_at "f"
              refine g_isiF k3 ?_
              walk_at "f"
              cases L with
              | i m =>
                have hL : u = .int m := hL
                subst hL
                refine iteF ?_
                walk_at "f"
                exact ⟨_, _, rfl, Same.refl _⟩
              | f sg tp p =>
                obtain ⟨a, rfl, hf, ho⟩ := hL
                refine iteT ?_
                walk_at "f"
                obtain ⟨dx, hd⟩ := id hf
                have rest : ∀ v : Int, v = (if 0 < j then 9223372036854775807 else -9223372036854775808) → (¬ ∃ n, tp = .int n) → v = lastR j (.f sg tp p) := fun v hv hn => by
                  rcases ho.2 with ⟨rfl, _, _⟩ | ⟨rfl, _⟩ | ⟨m, rfl, _⟩
                  · exact hv
                  · exact hv
                  · exact absurd ⟨m, rfl⟩ hn
                refine g_ite (fun hj0 => ?_) fun hj0 => ?_
                · walk_at "f"
                  refine ⟨a, dx, _, rfl, hd, rfl, ?_⟩
                  walk_at "f"
                  refine ⟨a, sg, tp, p, rfl, hf, ho, ?_⟩
                  walk_at "f"
                  rcases id ho.2 with ⟨rfl, _, _⟩ | ⟨rfl, _⟩ | ⟨m, rfl, hfin⟩
                  · refine iteF ?_
                    walk_at "f"
                    rw [← rest 9223372036854775807 (by rw [if_pos hj0]) (by rintro ⟨n, z⟩; cases z)]
                    exact ⟨_, _, rfl, Same.refl _⟩
                  · refine iteF ?_
                    walk_at "f"
                    rw [← rest 9223372036854775807 (by rw [if_pos hj0]) (by rintro ⟨n, z⟩; cases z)]
                    exact ⟨_, _, rfl, Same.refl _⟩
                  · refine iteT ?_
                    walk_at "f"
                    obtain ⟨r1, r2, r3⟩ := rat_small ho
                    refine g_rat hf ho fun H2 c n2 s2 h2c => ?_
                    walk_at "f"
                    refine ⟨c, _, rfl, SqT.of h2c, rfl, ?_⟩
                    walk_at "f"
                    refine g_yes hj0 ?_
                    walk_at "f"
                    refine g_divI (Int.ne_of_gt r3) (Nat.lt_trans (log2_lt r2 (by decide)) (by decide)) ?_
                    walk_at "f"
                    have e : lastR j (.f sg (.int m) p) = (ratN sg m p).fdiv (ratD p) := if_pos hj0
                    rw [e]
                    exact ⟨_, _, rfl, s2⟩
                · walk_at "f"
                  refine ⟨a, dx, _, rfl, hd, rfl, ?_⟩
                  walk_at "f"
                  refine ⟨a, sg, tp, p, rfl, hf, ho, ?_⟩
                  walk_at "f"
                  rcases id ho.2 with ⟨rfl, _, _⟩ | ⟨rfl, _⟩ | ⟨m, rfl, hfin⟩
                  · refine iteF ?_
                    walk_at "f"
                    rw [← rest (-9223372036854775808) (by rw [if_neg hj0]) (by rintro ⟨n, z⟩; cases z)]
                    exact ⟨_, _, rfl, Same.refl _⟩
                  · refine iteF ?_
                    walk_at "f"
                    rw [← rest (-9223372036854775808) (by rw [if_neg hj0]) (by rintro ⟨n, z⟩; cases z)]
                    exact ⟨_, _, rfl, Same.refl _⟩
                  · refine iteT ?_
                    walk_at "f"
                    obtain ⟨r1, r2, r3⟩ := rat_small ho
                    refine g_rat hf ho fun H2 c n2 s2 h2c => ?_
                    walk_at "f"
                    refine ⟨c, _, rfl, SqT.of h2c, rfl, ?_⟩
                    walk_at "f"
                    refine g_no hj0 ?_
                    walk_at "f"
                    refine g_divI (Int.ne_of_gt r3) (Nat.lt_trans (log2_lt r2 (by decide)) (by decide)) ?_
                    walk_at "f"
                    have e : lastR j (.f sg (.int m) p) = 0 - (0 - ratN sg m p).fdiv (ratD p) := if_neg hj0
                    rw [e]
                    exact ⟨_, _, rfl, s2⟩
            · rintro _ H2 ⟨e4, e5, rfl, s2⟩
              walk_at "f"
              refine g_divI h0 (Nat.lt_trans (log2_lt (k := 64) (by have h1 := hj.1; have h2 := hj.2; show _ < 18446744073709551616; omega) (by decide)) (by decide)) ?_
              walk_at "f"
              refine mkP fun H3 a dx n3 s3 h3 => ?_
              exact q _ _ ((s1.trans s2).free n3) ((s1.trans s2).trans s3) ⟨dx, .non, h3⟩
end
end Up

set_option Elab.async false
set_option linter.all false
set_option pp.maxSteps 600
set_option maxRecDepth 100000
set_option maxHeartbeats 4000000
set_option exponentiation.threshold 200000
namespace Up
open PySem PySem.Spec PyProof.Rows L2
local macro_rules | `(tactic| walk_at "u") => `(tactic| first
  | with_reducible refine g_seq ?_
  | with_reducible refine g_asg ?_
  | with_reducible refine g_op ?_
  | ((with_reducible show tVar _ _ _ _); apply g_var; exact rfl)
  | with_reducible refine g_c ?_
  | with_reducible refine g_name ?_
  | with_reducible refine g_ifs ?_
  | with_reducible refine g_tt ?_
  | with_reducible refine g_tB ?_
  | with_reducible refine g_bl ?_
  | with_reducible refine g_ret ?_
  | with_reducible refine g_cb ?_
  | with_reducible refine g_cons ?_
  | with_reducible refine g_nil ?_
  | with_reducible refine g_call ?_
  | with_reducible refine g_and ?_
  | with_reducible refine g_or ?_
  | with_reducible refine g_not ?_
  | with_reducible refine g_andV ?_
  | with_reducible refine g_orV ?_
  | with_reducible refine g_notV ?_
  | with_reducible refine g_if ?_
  | with_reducible refine g_un ?_
  | with_reducible refine g_neg ?_
  | with_reducible refine g_addI ?_
  | with_reducible refine g_subI ?_
  | with_reducible refine g_subB ?_
  | with_reducible refine g_I0 ?_
  | with_reducible refine g_cmpI ?_
  | with_reducible refine g_eqI ?_
  | with_reducible refine g_neI ?_
  | with_reducible refine g_eqS ?_
  | with_reducible refine g_neS ?_
  | with_reducible refine g_eqB ?_
  | with_reducible refine g_neB ?_
  | with_reducible refine g_bits ?_
  | with_reducible refine g_bitsI ?_
  | with_reducible refine g_fld ?_
  | with_reducible refine g_tup ?_
  | with_reducible refine g_lst ?_
  | with_reducible refine g_gtup ?_
  | with_reducible refine g_make ?_
  | with_reducible refine g_lc ?_
  | with_reducible refine g_yesT ?_
  | with_reducible refine g_intI ?_
  | with_reducible refine g_intB ?_
  | with_reducible refine g_max2 ?_
  | with_reducible refine g_abs1 ?_
  | with_reducible refine g_for ?_
  | with_reducible refine g_iList ?_
  | with_reducible refine g_iTup ?_
  | with_reducible refine g_iRng1 ?_
  | with_reducible refine g_iEnum ?_
  | with_reducible refine g_slice ?_
  | with_reducible refine g_po0 ?_
  | with_reducible refine g_po1 ?_
  | with_reducible refine g_gsub ?_
  | with_reducible refine g_par ?_
  | with_reducible refine g_par2 ?_
  | with_reducible refine g_rfl ?_
  | with_reducible refine g_meth ?_
  | with_reducible refine g_gcons ?_
  | with_reducible refine g_gnil ?_
  | with_reducible refine g_gfld ?_
  | with_reducible refine g_sfld ?_
  | with_reducible refine g_drop ?_
  | with_reducible refine g_next ?_
  | with_reducible refine iteT ?_
  | with_reducible refine iteF ?_)
local macro_rules | `(tactic| walk_at "go") => `(tactic| (repeat walk_at "u"))
local macro_rules | `(tactic| walk_at "f") => `(tactic| (repeat (first
  | walk_at "u"
  | with_reducible refine g_chain ?_
  | with_reducible refine g_par3 ?_
  | with_reducible refine g_par3' ?_
  | ((with_reducible refine show_ex ?_); first
    | refine fT (by assumption) (by assumption) ?_
    | refine fS (by assumption) (by assumption) ?_
    | refine fP (by assumption) (by assumption) ?_))))

theorem IS.in3 {x a b c : V} (hx : IS x) (ha : IS a) (hb : IS b) (hc : IS c) : inV x [a, b, c] = decide (a = x ∨ b = x ∨ c = x) := by
  unfold inV
  simp only [List.any_cons, List.any_nil, Bool.or_false]
  rw [ha.eqV hx, hb.eqV hx, hc.eqV hx]
  by_cases h1 : a = x <;> by_cases h2 : b = x <;> by_cases h3 : c = x <;> simp [h1, h2, h3]
theorem g_in3 {K : PySem.W.Frag} {H : Hp} {Q : VK} {x a b c : V} {p : Addr} (hp : H p = some (.tup [a, b, c])) (hx : IS x) (ha : IS a) (hb : IS b) (hc : IS c) (q : Q (.bl (decide (a = x ∨ b = x ∨ c = x))) H) : rIn K false x (.ref p) H Q :=
  ⟨p, _, rfl, .inr (SqT.of hp), hx.flat, by simp [ha.flat, hb.flat, hc.flat], by rw [hx.in3 ha hb hc]; exact q⟩
theorem forR_flt {s l t : Th} (h : (isIT s && isIT t) = false) : forR s l t = fltR s l t := by
  cases s with
  | oth v => rfl
  | num n =>
    cases n with
    | f _ _ _ => rfl
    | i k =>
      cases t with
      | oth v => rfl
      | num m =>
        cases m with
        | f _ _ _ => rfl
        | i j => cases h
theorem forR_int {s t : Th} (h : (isIT s && isIT t) = true) : ∃ k j, s = .num (.i k) ∧ t = .num (.i j) := by
  cases s with
  | oth v => cases h
  | num n =>
    cases n with
    | f _ _ _ => cases h
    | i k =>
      cases t with
      | oth v => cases h
      | num m =>
        cases m with
        | f _ _ _ => cases h
        | i j => exact ⟨k, j, rfl, rfl⟩
theorem isNT_num {t : Th} (h : isNT t = true) : ∃ n, t = .num n := by
  cases t with
  | oth _ => cases h
  | num n => exact ⟨n, rfl⟩
section
variable {P : Program} {w : World} {K : PySem.W.Frag} {mg : Str → Option Value} {base : Heap} {C CT CP : Addr}
/-! for_plan -/
abbrev s_forplan : Stmt := top 39
theorem sc_forplan : FnScope ["start", "limit", "step", "word", "number"] ["start", "limit", "step"] (defScope s_forplan) := ⟨rfl, rfl, rfl, by decide +kernel, rfl, by decide +kernel, by decide +kernel⟩
def sp_forplan (C CP CT : Addr) : Sp := fun vs H Q E => ∃ (v u t : V) (a b c : Th), vs = [v, u, t] ∧ ThAt C H v a ∧ ThAt C H u b ∧ ThAt C H t c ∧ PlanR C CP CT (forR a b c) H Q E
theorem ok_forplan {f : Addr} {fd : FuncData} (F : FunD K "for_plan" "for_plan" (defArgs s_forplan) (defBody s_forplan) (defScope s_forplan) [] [] f fd) (B : Blt mg) (T : FlC K mg C) (c_Thrown : CThr P w K mg base CT) (c_isplain : Fn P w K mg base CX0 1 "is_plain" ["number"] [] (sp_isplain K)) (c_isnumber : CIsn P w K mg base C) (c_wholeplan : Fn P w K mg base (L2.CX P w) 5 "whole_plan" ["start", "limit", "step"] [] (sp_wholeplan C CP CT))
    (c_tofloat : Fn P w K mg base CX0 6 "to_float" ["number"] [] (sp_tofloat C)) (c_iswithin : Fn P w K mg base CX0 5 "is_within" ["number", "step", "limit"] [] (sp_iswithin C)) (c_ForPlan : CPl P w K mg base CP) : FnOk P w K mg base (L2.CX P w) 7 f fd ["start", "limit", "step"] (sp_forplan C CP CT) := by
  refine F.ok sc_forplan (fun vs H Q E h => ?_) (fun cdv A outer s H vs Q E hr h => ?_)
  · obtain ⟨_, _, _, _, _, _, rfl, _⟩ := h; rfl
  · obtain ⟨v, u, t, a, b, c, rfl, ha, hb, hc, q⟩ := h
    obtain ⟨t1, b1, k1, e1, i1⟩ := ha.kf T
    obtain ⟨t2, b2, k2, e2, i2⟩ := hb.kf T
    obtain ⟨t3, b3, k3, e3, i3⟩ := hc.kf T
    refine ⟨_, (pss_cons (ps_if (pt_cut (PW.pt (pw_and (pt_val (pe_fn c_isplain (hr.mono (by decide)) pass0 (pa_cons (pv 0) pa_nil))) (pw_and1 (pt_val (pe_fn c_isplain (hr.mono (by decide)) pass0 (pa_cons (pv 2) pa_nil))))))) (pss_one (ps_ret (pe_fn c_wholeplan (hr.mono (by decide)) (passes_call (takes_of rfl rfl rfl rfl) fun _ _ _ _ z => z) (pa_cons (pv 0) (pa_cons (pv 1) (pa_cons (pv 2) pa_nil)))))) pss_nil)
  (pss_cons (ps_for (passes_of rfl) rfl (pi_tup (pe_tupN (pa_cons (pe_tupN (pa_cons pe_str (pa_cons (pv 1) pa_nil))) (pa_cons (pe_tupN (pa_cons pe_str (pa_cons (pv 2) pa_nil))) (pa_cons (pe_tupN (pa_cons pe_str (pa_cons (pv 0) pa_nil))) pa_nil))))) (pg_tup rfl (pgs_cons (pg_name (i := 3) sc_forplan.nd rfl (Or.inl rfl)) (pgs_cons (pg_name (i := 4) sc_forplan.nd rfl (Or.inl rfl)) pgs_nil)))
    (pss_one (ps_if (pt_not (pt_val (pe_fn c_isnumber (hr.mono (by decide)) pass0 (pa_cons (pv 4) pa_nil)))) (pss_one (ps_thr c_Thrown (hr.mono (by decide)) rfl (takes_of rfl rfl rfl rfl) (pe_op op_oAdd (pe_op op_oAdd pe_str (pv 3)) pe_str))) pss_nil)))
  (pss_cons (ps_par3 (i := 0) (j := 1) (l := 2) rfl sc_forplan.nd rfl rfl rfl (by decide) (by decide) (by decide) rfl rfl rfl (pa_cons (pe_fn c_tofloat (hr.mono (by decide)) pass0 (pa_cons (pv 0) pa_nil)) (pa_cons (pe_fn c_tofloat (hr.mono (by decide)) pass0 (pa_cons (pv 1) pa_nil)) (pa_cons (pe_fn c_tofloat (hr.mono (by decide)) pass0 (pa_cons (pv 2) pa_nil)) pa_nil))) (by rfl))
  (pss_cons (ps_if (pt_cmpR (op_oEq hr.units) (pe_fld (pv 2) rfl) pe_int (nomark _)) (pss_one (ps_thr c_Thrown (hr.mono (by decide)) rfl (takes_of rfl rfl rfl rfl) pe_str)) pss_nil)
  (pss_cons (ps_if (pt_cut (PW.pt (pw_or (pt_cmpR op_in_seq pe_str (pe_tupN (pa_cons (pe_fld (pv 0) rfl) (pa_cons (pe_fld (pv 1) rfl) (pa_cons (pe_fld (pv 2) rfl) pa_nil)))) (by rfl)) (pw_or1 (pt_not (pt_val (pe_fn c_iswithin (hr.mono (by decide)) pass0 (pa_cons (pv 0) (pa_cons (pv 2) (pa_cons (pv 1) pa_nil)))))))))) (pss_one (ps_ret pe_non)) pss_nil)
  (pss_one (ps_ret (pe_cn c_ForPlan (hr.mono (by decide)) pass0 (pa_cons (pv 0) (pa_cons (pv 2) (pa_cons pe_non (pa_cons (pv 1) pa_nil)))))))))))), ?_⟩
    walk_at "f"
    refine g_cutT (fun x H' => x = (isIT a && isIT c) ∧ H = H') ?_ ?_
    · walk_at "f"
      refine ⟨v, t1, rfl, k1.kn, ?_⟩
      rw [i1]
      walk_at "f"
      refine g_iteb (fun h1 => ?_) fun h1 => ?_
      · walk_at "f"
        refine ⟨t, t3, rfl, k3.kn, ?_⟩
        rw [i3]
        walk_at "f"
        exact ⟨by rw [h1]; rfl, rfl⟩
      · exact ⟨by rw [h1]; rfl, rfl⟩
    · rintro _ _ ⟨rfl, rfl⟩
      refine g_iteb (fun h1 => ?_) fun h1 => ?_
      · obtain ⟨k, j, rfl, rfl⟩ := forR_int h1
        obtain ⟨hv, hk⟩ := ha
        obtain ⟨ht, hj⟩ := hc
        have hv : v = .int k := hv
        have ht : t = .int j := ht
        subst hv ht
        walk_at "f"
        exact ⟨k, j, u, b, rfl, hk, hj, hb, q⟩
      · rw [forR_flt h1] at q
        unfold fltR at q
        walk_at "f"
        refine g_new (sz rfl) fun p1 H1 n1 s1 h1' _ => ?_
        walk_at "f"
        refine g_new (sz rfl) fun p2 H2 n2 s2 h2 _ => ?_
        walk_at "f"
        refine g_new (sz rfl) fun p3 H3 n3 s3 h3 _ => ?_
        walk_at "f"
        refine g_new (sz rfl) fun p4 H4 n4 s4 h4 _ => ?_
        have h1' := s4 _ _ (s3 _ _ (s2 _ _ h1'))
        have h2 := s4 _ _ (s3 _ _ h2)
        have h3 := s4 _ _ h3
        have S4 := ((s1.trans s2).trans s3).trans s4
        refine ⟨p4, rfl, ⟨_, SqT.of h4⟩, ?_⟩
        refine for_tup (K := K) (a := p4) (xs := [.ref p1, .ref p2, .ref p3]) (fun i σ' H' => ∃ e3 e4, σ' = [some v, some u, some t, e3, e4] ∧ Same H4 H' ∧ (0 < i → isNT b = true) ∧ (1 < i → isNT c = true) ∧ (2 < i → isNT a = true)) ⟨_, _, rfl, Same.refl _, fun z => absurd z (by decide), fun z => absurd z (by decide), fun z => absurd z (by decide)⟩ ?_ ?_ ?_
        · rintro i _ H' _ ⟨_, _, _, sH, _⟩
          exact SqT.of (sH _ _ h4)
        · rintro i z _ H5 hz ⟨e3, e4, rfl, s5, g0, g1, g2⟩
          have S5 := S4.trans s5
          obtain ⟨wd, x, th, p, rfl, hp, hx, hw, hno, hyes⟩ : ∃ (wd : Str) (x : V) (th : Th) (p : Addr), z = .ref p ∧ H5 p = some (.tup [.str wd, x]) ∧ ThAt C H5 x th ∧ (wd = "limit" ∨ wd = "step" ∨ wd = "initial value") ∧ (isNT th = false → PlanR C CP CT (.err (wordT wd)) H Q E) ∧
              (isNT th = true → (0 < i + 1 → isNT b = true) ∧ (1 < i + 1 → isNT c = true) ∧ (2 < i + 1 → isNT a = true)) := by
            match i, hz with
            | 0, hz =>
              cases hz
              exact ⟨_, u, b, p1, rfl, s5 _ _ h1', hb.same S5, .inl rfl, fun e => by rw [if_pos e] at q; exact q, fun e => ⟨fun _ => e, fun z => absurd z (by decide), fun z => absurd z (by decide)⟩⟩
            | 1, hz =>
              cases hz
              have eb := g0 (by decide)
              exact ⟨_, t, c, p2, rfl, s5 _ _ h2, hc.same S5, .inr (.inl rfl), fun e => by rw [if_neg (by rw [eb]; decide), if_pos e] at q; exact q, fun e => ⟨fun _ => eb, fun _ => e, fun z => absurd z (by decide)⟩⟩
            | 2, hz =>
              cases hz
              have eb := g0 (by decide)
              have ec := g1 (by decide)
              exact ⟨_, v, a, p3, rfl, s5 _ _ h3, ha.same S5, .inr (.inr rfl), fun e => by rw [if_neg (by rw [eb]; decide), if_neg (by rw [ec]; decide), if_pos e] at q; exact q, fun e => ⟨fun _ => eb, fun _ => ec, fun _ => e⟩⟩
            | n + 3, hz => cases hz
          obtain ⟨tt, bb, kk, ee, _⟩ := hx.kf T
          walk_at "f"
          refine ⟨p, _, rfl, SqT.of hp, rfl, ?_⟩
          walk_at "f"
          refine ⟨x, tt, bb, rfl, kk, ?_⟩
          rw [ee]
          walk_at "f"
          refine g_iteb (fun h6 => ?_) fun h6 => ?_
          · have h6 : isNT th = false := by simpa using h6
            have q := hno h6
            walk_at "f"
            refine g_rai (g_mko ?_)
            walk_at "f"
            rcases hw with rfl | rfl | rfl
            · refine g_addS (sz rfl) ?_
              walk_at "f"
              refine g_addS (sz rfl) ?_
              walk_at "f"
              exact g_thr (ThrR.later q S5)
            · refine g_addS (sz rfl) ?_
              walk_at "f"
              refine g_addS (sz rfl) ?_
              walk_at "f"
              exact g_thr (ThrR.later q S5)
            · refine g_addS (sz rfl) ?_
              walk_at "f"
              refine g_addS (sz rfl) ?_
              walk_at "f"
              exact g_thr (ThrR.later q S5)
          · have h6 : isNT th = true := by simpa using h6
            walk_at "f"
            exact ⟨_, _, rfl, s5, hyes h6⟩
        · rintro _ H5 ⟨e3, e4, rfl, s5, g0, g1, g2⟩
          have eb : isNT b = true := g0 (by simp)
          have ec : isNT c = true := g1 (by simp)
          have ea : isNT a = true := g2 (by simp)
          rw [if_neg (by rw [eb]; decide), if_neg (by rw [ec]; decide), if_neg (by rw [ea]; decide)] at q
          obtain ⟨na, rfl⟩ := isNT_num ea
          obtain ⟨nb, rfl⟩ := isNT_num eb
          obtain ⟨nc, rfl⟩ := isNT_num ec
          have S5 := S4.trans s5
          have q := q.later S5
          obtain ⟨ha, ia⟩ := ha.same S5
          obtain ⟨hb, ib⟩ := hb.same S5
          obtain ⟨hc, ic⟩ := hc.same S5
          walk_at "f"
          refine g_tofl ha ia.big fun H6 v6 s6 f6 => ?_
          walk_at "f"
          refine g_tofl (hb.same s6) ib.big fun H7 v7 s7 f7 => ?_
          walk_at "f"
          refine g_tofl ((hc.same s6).same s7) ic.big fun H8 v8 s8 f8 => ?_
          have f6 := (f6.same s7).same s8
          have f7 := f7.same s8
          have oa : (tL (.num na)).ok := ha.tok
          have ob : (tL (.num nb)).ok := hb.tok
          have oc : (tL (.num nc)).ok := hc.tok
          have q := q.later ((s6.trans s7).trans s8)
          have f6 : FA C H8 v6 (tL (.num na)) := f6
          have f7 : FA C H8 v7 (tL (.num nb)) := f7
          have f8 : FA C H8 v8 (tL (.num nc)) := f8
          generalize tL (.num na) = x at *
          generalize tL (.num nb) = y at *
          generalize tL (.num nc) = z at *
          obtain ⟨a6, rfl, j6⟩ := id f6
          obtain ⟨a7, rfl, j7⟩ := id f7
          obtain ⟨a8, rfl, j8⟩ := id f8
          walk_at "f"
          refine g_eqV (oc.is.scal (.int _)) ?_
          walk_at "f"
          refine g_ite (fun h7 => ?_) fun h7 => ?_
          · rw [if_pos h7] at q
            walk_at "f"
            refine g_rai (g_mko ?_)
            walk_at "f"
            exact g_thr q
          · rw [if_neg h7] at q
            walk_at "f"
            refine g_cutT (fun k H' => k = decide ((x.t = .str "nan" ∨ y.t = .str "nan" ∨ z.t = .str "nan") ∨ wthN (nmF x) (nmF z) (nmF y) = false) ∧ Same H8 H') ?_ ?_
            · walk_at "f"
              refine g_new (sz rfl) fun p9 H9 n9 s9 h9 _ => ?_
              refine g_in3 h9 (.str _) oa.is ob.is oc.is ?_
              have f6 := f6.same s9
              have f7 := f7.same s9
              have f8 := f8.same s9
              walk_at "f"
              refine g_ite (fun h10 => ?_) fun h10 => ?_
              · exact ⟨(decide_eq_true (.inl h10)).symm, s9⟩
              · walk_at "f"
                refine ⟨_, _, _, _, _, _, rfl, f6.num oa, f8.num oc, f7.num ob, oa, oc, ob, fun H10 s10 => ?_⟩
                walk_at "f"
                refine ⟨?_, s9.trans s10⟩
                cases hw : wthN (nmF x) (nmF z) (nmF y) with
                | true => rw [decide_eq_false (fun e => e.elim h10 fun e => nomatch e)]; rfl
                | false => rw [decide_eq_true (.inr rfl)]; rfl
            · rintro _ H9 ⟨rfl, s9⟩
              refine g_ite (fun h10 => ?_) fun h10 => ?_
              · rw [if_pos h10] at q
                walk_at "f"
                exact q _ s9
              · rw [if_neg h10] at q
                walk_at "f"
                refine mkP fun H10 p10 dx n10 s10 h10 => ?_
                exact q _ _ (s9.free n10) (s9.trans s10) ⟨dx, _, _, _, h10, (f6.same s9).same s10, (f8.same s9).same s10, (f7.same s9).same s10, oa, oc, ob⟩
end
end Up

set_option Elab.async false
set_option linter.all false
set_option maxRecDepth 100000
set_option maxHeartbeats 4000000
set_option exponentiation.threshold 200000
namespace Up
open PySem PySem.Spec PyProof.Rows L2
/-! ### the rounds that are told, and those that are due -/
def plV : Pl → Nm
  | .I v _ _ => .i v
  | .F x _ _ => nmF x
def runP : Nat → Option Pl → List Nm
  | 0, _ => []
  | _ + 1, none => []
  | f + 1, some p => plV p :: runP f (plNext p)
inductive Out where
  | err (x : Str)
  | lst (ns : List Nm)
def toldO : PR → Out
  | .err x => .err x
  | .no => .lst []
  | .go p => .lst (runP 12 (some p))
def inR (v : Int) : Prop := -9223372036854775808 ≤ v ∧ v < 9223372036854775808
instance (v : Int) : Decidable (inR v) := inferInstanceAs (Decidable (_ ∧ _))
def leJ (j v : Int) (L : Nm) : Bool := if 0 < j then cmpN "le" (.i v) L else cmpN "le" L (.i v)
def dueI : Nat → Int → Int → Nm → List Nm
  | 0, _, _, _ => []
  | f + 1, v, j, L => if inR v ∧ leJ j v L = true then .i v :: dueI f (v + j) j L else []
def leF (s x l : FL) : Bool := if 0 < s.s then cmpN "le" (nmF x) (nmF l) else cmpN "le" (nmF l) (nmF x)
def dueF : Nat → FL → FL → FL → List Nm
  | 0, _, _, _ => []
  | f + 1, x, s, l => if ¬ (x.t = .str "nan" ∨ l.t = .str "nan" ∨ s.t = .str "nan") ∧ leF s x l = true then nmF x :: dueF f (byL "add" x s) s l else []
def dueW (k j : Int) (l : Th) : Out := if j = 0 then .err zeroT else match l with
  | .oth _ => .err limT
  | .num L => .lst (dueI 12 k j L)
def dueFl (s l t : Th) : Out :=
  if isNT l = false then .err (wordT "limit") else if isNT t = false then .err (wordT "step") else if isNT s = false then .err (wordT "initial value")
  else if (tL t).t = .int 0 then .err zeroT else .lst (dueF 12 (tL s) (tL t) (tL l))
def dueO (s l t : Th) : Out := match s, t with
  | .num (.i k), .num (.i j) => dueW k j l
  | _, _ => dueFl s l t
/-! order of an int and a number -/
theorem le_lt : ¬ ("le" : Str) = "lt" := by decide +kernel
theorem cmp_le {n m : Nm} : cmpN "le" n m = true ↔ ∃ a b c d, plc n = some (a, b) ∧ plc m = some (c, d) ∧ a * d - c * b ≤ 0 := by
  unfold cmpN ordN
  cases hn : plc n with
  | none => simp [gapO]
  | some x =>
    obtain ⟨a, b⟩ := x
    cases hm : plc m with
    | none => simp [gapO]
    | some y =>
      obtain ⟨c, d⟩ := y
      show (if ("le" : Str) = "lt" then _ else decide (b2i (decide (0 < a * d - c * b)) - b2i (decide (a * d - c * b < 0)) ≤ 0)) = true ↔ _
      rw [if_neg le_lt, decide_eq_true_eq]
      constructor
      · intro h
        refine ⟨a, b, c, d, rfl, rfl, ?_⟩
        rcases Int.lt_or_le 0 (a * d - c * b) with z | z
        · rw [decide_eq_true z, decide_eq_false (by omega)] at h
          exact absurd h (by decide)
        · exact z
      · rintro ⟨a', b', c', d', e1, e2, h⟩
        injection e1 with e1
        injection e1 with e1 e1'
        injection e2 with e2
        injection e2 with e2 e2'
        subst e1 e1' e2 e2'
        rw [decide_eq_false (by omega : ¬ 0 < a * d - c * b)]
        cases decide (a * d - c * b < 0) <;> decide
theorem leI {v : Int} {L : Nm} {c d : Int} (hL : plc L = some (c, d)) : (cmpN "le" (.i v) L = true ↔ v * d ≤ c) ∧ (cmpN "le" L (.i v) = true ↔ c ≤ v * d) := by
  have hv : plc (.i v) = some (v, 1) := rfl
  constructor
  · rw [cmp_le]
    constructor
    · rintro ⟨a, b, c', d', e1, e2, h⟩
      rw [hv] at e1
      rw [hL] at e2
      cases e1
      cases e2
      omega
    · intro h
      exact ⟨v, 1, c, d, hv, hL, by omega⟩
  · rw [cmp_le]
    constructor
    · rintro ⟨a, b, c', d', e1, e2, h⟩
      rw [hv] at e2
      rw [hL] at e1
      cases e1
      cases e2
      omega
    · intro h
      exact ⟨c, d, v, 1, hL, hv, by omega⟩
theorem leI0 {v : Int} {L : Nm} (hL : plc L = none) : cmpN "le" (.i v) L = false ∧ cmpN "le" L (.i v) = false := by
  constructor
  · cases h : cmpN "le" (.i v) L with
    | false => rfl
    | true =>
      obtain ⟨_, _, _, _, _, e, _⟩ := cmp_le.mp h
      rw [hL] at e
      cases e
  · cases h : cmpN "le" L (.i v) with
    | false => rfl
    | true =>
      obtain ⟨_, _, _, _, e, _⟩ := cmp_le.mp h
      rw [hL] at e
      cases e
theorem ordI {k : Int} {L : Nm} {c d : Int} (hL : plc L = some (c, d)) : ordN (.i k) L = some (b2i (decide (0 < k * d - c * 1)) - b2i (decide (k * d - c * 1 < 0))) := by
  unfold ordN
  rw [hL]
  rfl
theorem ord_up {g : Int} : (some (b2i (decide (0 < g)) - b2i (decide (g < 0))) = some (1 : Int) ↔ 0 < g) ∧ (some (b2i (decide (0 < g)) - b2i (decide (g < 0))) = some (-1 : Int) ↔ g < 0) := by
  rcases Int.lt_or_le 0 g with h | h
  · rw [decide_eq_true h, decide_eq_false (by omega)]
    exact ⟨⟨fun _ => h, fun _ => rfl⟩, ⟨fun z => absurd z (by decide), fun z => by omega⟩⟩
  · rw [decide_eq_false (by omega : ¬ 0 < g)]
    rcases Int.lt_or_le g 0 with h2 | h2
    · rw [decide_eq_true h2]
      exact ⟨⟨fun z => absurd z (by decide), fun z => by omega⟩, ⟨fun _ => h2, fun _ => rfl⟩⟩
    · rw [decide_eq_false (by omega)]
      exact ⟨⟨fun z => absurd z (by decide), fun z => by omega⟩, ⟨fun z => absurd z (by decide), fun z => by omega⟩⟩
/-! the last round -/
theorem clamp_hi {v x k : Int} (hk : -9223372036854775808 ≤ k) (hx : k ≤ x) (hv : -9223372036854775808 ≤ v) : v ≤ clampI x ↔ v < 9223372036854775808 ∧ v ≤ x := by
  unfold clampI
  split <;> split <;> omega
theorem clamp_lo {v x k : Int} (hk : k < 9223372036854775808) (hx : x ≤ k) (hv : v < 9223372036854775808) : clampI x ≤ v ↔ -9223372036854775808 ≤ v ∧ x ≤ v := by
  unfold clampI
  split <;> split <;> omega
theorem pow1025 {k : Int} (h1 : -9223372036854775808 ≤ k) (h2 : k < 9223372036854775808) : k < 2 ^ 1025 ∧ -k < 2 ^ 1025 := by
  have e : (2 : Int) ^ 1025 = 2 ^ 961 * 2 ^ 64 := by rw [← Int.pow_add]
  have h : (1 : Int) ≤ 2 ^ 961 := by
    have : (0 : Int) < 2 ^ 961 := Int.pow_pos (by decide)
    omega
  have h3 : (1 : Int) * 2 ^ 64 ≤ 2 ^ 961 * 2 ^ 64 := Int.mul_le_mul_of_nonneg_right h (by decide)
  rw [e]
  generalize (2 : Int) ^ 961 * 2 ^ 64 = z at *
  omega
theorem inf_plc {s p : Int} : plc (.f s (.str "inf") p) = some (s * 2 ^ 1025, 1) := by
  show (if ("inf" : Str) = "nan" then none else some (s * 2 ^ 1025, (1 : Int))) = _
  rw [if_neg (by decide +kernel)]
theorem nan_plc {s p : Int} : plc (.f s (.str "nan") p) = none := by
  show (if ("nan" : Str) = "nan" then none else some (s * 2 ^ 1025, (1 : Int))) = _
  rw [if_pos rfl]
theorem last_up {k j c d : Int} {L : Nm} (iL : nIn L) (hk : inR k) (hj : 0 < j) (hL : plc L = some (c, d)) (hle : k * d ≤ c) : ∀ v, -9223372036854775808 ≤ v → (inR v ∧ leJ j v L = true ↔ v ≤ clampI (lastR j L)) := by
  intro v hv
  have el : leJ j v L = cmpN "le" (.i v) L := if_pos hj
  rw [el, (leI hL).1]
  unfold inR
  cases L with
  | i l =>
    cases hL
    rw [show lastR j (.i c) = c from rfl, clamp_hi (k := k) hk.1 (by omega) hv]
    omega
  | f s t p =>
    have iL : FlOk s t p := iL
    rcases id iL.2 with ⟨rfl, _, _⟩ | ⟨rfl, _⟩ | ⟨m, rfl, hf⟩
    · rw [nan_plc] at hL
      cases hL
    · rw [inf_plc] at hL
      cases hL
      rw [show lastR j (.f s (.str "inf") p) = 9223372036854775807 from if_pos hj, clamp_hi (k := k) hk.1 (by have := hk.2; omega) hv]
      have p1 := pow1025 hk.1 hk.2
      rcases iL.1 with rfl | rfl
      · constructor
        · rintro ⟨⟨_, h2⟩, _⟩
          omega
        · rintro ⟨h1, h2⟩
          have p2 := pow1025 hv h1
          omega
      · exfalso
        omega
    · cases hL
      have hd : 0 < ratD p := (rat_small iL).2.2
      rw [show lastR j (.f s (.int m) p) = (ratN s m p).fdiv (ratD p) from if_pos hj, Int.fdiv_eq_ediv_of_nonneg _ (by omega)]
      have hk' : k ≤ ratN s m p / ratD p := (Int.le_ediv_iff_mul_le hd).mpr hle
      rw [clamp_hi (k := k) hk.1 hk' hv, Int.le_ediv_iff_mul_le hd]
      constructor
      · rintro ⟨⟨_, h2⟩, h3⟩
        exact ⟨h2, h3⟩
      · rintro ⟨h2, h3⟩
        exact ⟨⟨hv, h2⟩, h3⟩
theorem last_dn {k j c d : Int} {L : Nm} (iL : nIn L) (hk : inR k) (hj : j < 0) (hL : plc L = some (c, d)) (hle : c ≤ k * d) : ∀ v, v < 9223372036854775808 → (inR v ∧ leJ j v L = true ↔ clampI (lastR j L) ≤ v) := by
  intro v hv
  have el : leJ j v L = cmpN "le" L (.i v) := if_neg (by omega)
  rw [el, (leI hL).2]
  unfold inR
  cases L with
  | i l =>
    cases hL
    rw [show lastR j (.i c) = c from rfl, clamp_lo (k := k) hk.2 (by omega) hv]
    omega
  | f s t p =>
    have iL : FlOk s t p := iL
    rcases id iL.2 with ⟨rfl, _, _⟩ | ⟨rfl, _⟩ | ⟨m, rfl, hf⟩
    · rw [nan_plc] at hL
      cases hL
    · rw [inf_plc] at hL
      cases hL
      rw [show lastR j (.f s (.str "inf") p) = -9223372036854775808 from if_neg (by omega), clamp_lo (k := k) hk.2 (by have := hk.1; omega) hv]
      have p1 := pow1025 hk.1 hk.2
      rcases iL.1 with rfl | rfl
      · exfalso
        omega
      · constructor
        · rintro ⟨⟨h1, _⟩, _⟩
          omega
        · rintro ⟨h1, h2⟩
          have p2 := pow1025 h1 hv
          omega
    · cases hL
      have hd : 0 < ratD p := (rat_small iL).2.2
      rw [show lastR j (.f s (.int m) p) = 0 - (0 - ratN s m p).fdiv (ratD p) from if_neg (by omega), Int.fdiv_eq_ediv_of_nonneg _ (by omega)]
      have key : ∀ x : Int, 0 - (0 - ratN s m p) / ratD p ≤ x ↔ ratN s m p ≤ x * ratD p := fun x => by
        have := Int.le_ediv_iff_mul_le (a := -x) (b := 0 - ratN s m p) hd
        rw [Int.neg_mul] at this
        constructor
        · intro h
          have := this.mp (by omega)
          omega
        · intro h
          have := this.mpr (by omega)
          omega
      rw [clamp_lo (k := k) hk.2 ((key k).mpr hle) hv, key]
      constructor
      · rintro ⟨⟨h2, _⟩, h3⟩
        exact ⟨h2, h3⟩
      · rintro ⟨h2, h3⟩
        exact ⟨⟨h2, hv⟩, h3⟩
/-! the rounds of ints -/
theorem due_nil (f : Nat) {v j : Int} {L : Nm} (h : ¬ (inR v ∧ leJ j v L = true)) : dueI f v j L = [] := by
  cases f with
  | zero => rfl
  | succ f => exact if_neg h
theorem run_none (f : Nat) : runP f none = [] := by cases f <;> rfl
theorem run_up {j : Int} {L : Nm} {b : Int} (hj : 0 < j) (hb : ∀ v, -9223372036854775808 ≤ v → (inR v ∧ leJ j v L = true ↔ v ≤ b)) : ∀ f v, -9223372036854775808 ≤ v → v ≤ b → runP f (some (.I v j ((b - v).fdiv j))) = dueI f v j L := by
  intro f
  induction f with
  | zero => intro v _ _; rfl
  | succ f ih =>
    intro v h1 h2
    have hP := (hb v h1).mpr h2
    rw [show dueI (f + 1) v j L = .i v :: dueI f (v + j) j L from if_pos hP]
    show .i v :: runP f (plNext (.I v j ((b - v).fdiv j))) = _
    congr 1
    rw [Int.fdiv_eq_ediv_of_nonneg _ (by omega)]
    by_cases hz : (b - v) / j = 0
    · rw [show plNext (.I v j ((b - v) / j)) = none from if_pos hz, run_none, due_nil]
      intro h
      have := (hb (v + j) (by omega)).mp h
      have h3 : 1 ≤ (b - v) / j := (Int.le_ediv_iff_mul_le hj).mpr (by omega)
      omega
    · rw [show plNext (.I v j ((b - v) / j)) = some (.I (v + j) j ((b - v) / j - 1)) from if_neg hz]
      have h0 : 0 ≤ (b - v) / j := Int.ediv_nonneg (by omega) (by omega)
      have h3 : v + j ≤ b := by
        have : 1 * j ≤ b - v := (Int.le_ediv_iff_mul_le hj).mp (by omega)
        omega
      have e : (b - v) / j - 1 = (b - (v + j)).fdiv j := by
        rw [Int.fdiv_eq_ediv_of_nonneg _ (by omega)]
        have := Int.add_mul_ediv_right (b - v) (-1) (show j ≠ 0 by omega)
        rw [show b - (v + j) = b - v + -1 * j by omega, this]
        omega
      rw [e]
      exact ih (v + j) (by omega) h3
theorem fdiv_flip {a j : Int} (hj : j < 0) : a.fdiv j = (-a) / (-j) := by
  rw [← Int.fdiv_eq_ediv_of_nonneg _ (by omega), Int.neg_fdiv_neg]
theorem run_dn {j : Int} {L : Nm} {b : Int} (hj : j < 0) (hb : ∀ v, v < 9223372036854775808 → (inR v ∧ leJ j v L = true ↔ b ≤ v)) : ∀ f v, v < 9223372036854775808 → b ≤ v → runP f (some (.I v j ((b - v).fdiv j))) = dueI f v j L := by
  intro f
  induction f with
  | zero => intro v _ _; rfl
  | succ f ih =>
    intro v h1 h2
    have hP := (hb v h1).mpr h2
    rw [show dueI (f + 1) v j L = .i v :: dueI f (v + j) j L from if_pos hP]
    show .i v :: runP f (plNext (.I v j ((b - v).fdiv j))) = _
    congr 1
    have ef := fdiv_flip (a := b - v) hj
    have hj' : 0 < -j := by omega
    rw [ef]
    by_cases hz : (-(b - v)) / (-j) = 0
    · rw [show plNext (.I v j (-(b - v) / -j)) = none from if_pos hz, run_none, due_nil]
      intro h
      have := (hb (v + j) (by omega)).mp h
      have h3 : 1 ≤ -(b - v) / -j := (Int.le_ediv_iff_mul_le hj').mpr (by omega)
      omega
    · rw [show plNext (.I v j (-(b - v) / -j)) = some (.I (v + j) j (-(b - v) / -j - 1)) from if_neg hz]
      have h0 : 0 ≤ -(b - v) / -j := Int.ediv_nonneg (by omega) (by omega)
      have h3 : b ≤ v + j := by
        have : 1 * -j ≤ -(b - v) := (Int.le_ediv_iff_mul_le hj').mp (by omega)
        omega
      have e : -(b - v) / -j - 1 = (b - (v + j)).fdiv j := by
        rw [fdiv_flip hj]
        have := Int.add_mul_ediv_right (-(b - v)) (-1) (show -j ≠ 0 by omega)
        rw [show -(b - (v + j)) = -(b - v) + -1 * -j by omega, this]
        omega
      rw [e]
      exact ih (v + j) (by omega) h3
theorem whole_due {k j : Int} {l : Th} (hk : inR k) (hl : ∀ L, l = .num L → nIn L) : toldO (wholeR k j l) = dueW k j l := by
  unfold wholeR dueW
  by_cases h0 : j = 0
  · rw [if_pos h0, if_pos h0]; rfl
  · rw [if_neg h0, if_neg h0]
    cases l with
    | oth v => rfl
    | num L =>
      have iL := hl L rfl
      show toldO (if ordN (.i k) L = none ∨ ordN (.i k) L = some (sgnB (decide (j < 0))) then .no else .go (.I k j ((clampI (lastR j L) - k).fdiv j))) = .lst (dueI 12 k j L)
      cases hL : plc L with
      | none =>
        have e : ordN (.i k) L = none := by unfold ordN; rw [hL]; rfl
        rw [if_pos (.inl e), due_nil]
        · rfl
        · rintro ⟨_, h⟩
          unfold leJ at h
          rw [(leI0 hL).1, (leI0 hL).2] at h
          split at h <;> cases h
      | some cd =>
        obtain ⟨c, d⟩ := cd
        rw [ordI hL]
        rcases Int.lt_or_gt_of_ne h0 with hj | hj
        · rw [decide_eq_true hj]
          by_cases hle : c ≤ k * d
          · have nf : ¬ (some (b2i (decide (0 < k * d - c * 1)) - b2i (decide (k * d - c * 1 < 0))) = none ∨ some (b2i (decide (0 < k * d - c * 1)) - b2i (decide (k * d - c * 1 < 0))) = some (sgnB true)) := by
              rintro (z | z)
              · cases z
              · have := ord_up.2.mp z
                omega
            rw [if_neg nf]
            have hb := last_dn iL hk hj hL hle
            show Out.lst _ = _
            congr 1
            refine run_dn hj hb 12 k hk.2 ((hb k hk.2).mp ⟨hk, ?_⟩)
            unfold leJ
            rw [if_neg (by omega)]
            exact (leI hL).2.mpr hle
          · rw [if_pos (.inr (ord_up.2.mpr (by omega))), due_nil]
            · rfl
            · rintro ⟨_, h⟩
              unfold leJ at h
              rw [if_neg (by omega)] at h
              exact hle ((leI hL).2.mp h)
        · rw [decide_eq_false (by omega : ¬ j < 0)]
          by_cases hle : k * d ≤ c
          · have nf : ¬ (some (b2i (decide (0 < k * d - c * 1)) - b2i (decide (k * d - c * 1 < 0))) = none ∨ some (b2i (decide (0 < k * d - c * 1)) - b2i (decide (k * d - c * 1 < 0))) = some (sgnB false)) := by
              rintro (z | z)
              · cases z
              · have := ord_up.1.mp z
                omega
            rw [if_neg nf]
            have hb := last_up iL hk hj hL hle
            show Out.lst _ = _
            congr 1
            refine run_up hj hb 12 k hk.1 ((hb k hk.1).mp ⟨hk, ?_⟩)
            unfold leJ
            rw [if_pos hj]
            exact (leI hL).1.mpr hle
          · rw [if_pos (.inr (ord_up.1.mpr (by omega))), due_nil]
            · rfl
            · rintro ⟨_, h⟩
              unfold leJ at h
              rw [if_pos hj] at h
              exact hle ((leI hL).1.mp h)
/-! the rounds of floats -/
theorem plc_nan {x : FL} (ox : x.ok) : x.t = .str "nan" ↔ plc (nmF x) = none := by
  have ox : FlOk x.s x.t x.p := ox
  unfold nmF
  rcases ox.2 with ⟨e, _, _⟩ | ⟨e, _⟩ | ⟨m, e, _⟩
  · rw [e]
    exact ⟨fun _ => nan_plc, fun _ => rfl⟩
  · rw [e, inf_plc]
    exact ⟨fun z => (by injection z with z; exact absurd z inf_nan), fun z => (by cases z)⟩
  · rw [e]
    exact ⟨fun z => (by cases z), fun z => (by cases z)⟩
theorem lt_step {s : FL} (os : s.ok) (hn : s.t ≠ .str "nan") (h0 : s.t ≠ .int 0) : cmpN "lt" (.i 0) (nmF s) = decide (0 < s.s) := by
  have os : FlOk s.s s.t s.p := os
  obtain ⟨c, d, hL, hc⟩ : ∃ c d, plc (nmF s) = some (c, d) ∧ (0 < c ↔ 0 < s.s) ∧ (c < 0 ↔ ¬ 0 < s.s) := by
    unfold nmF
    rcases os.2 with ⟨e, _, _⟩ | ⟨e, _⟩ | ⟨m, e, hf⟩
    · exact absurd e hn
    · rw [e, inf_plc]
      refine ⟨_, _, rfl, ?_⟩
      have : (0 : Int) < 2 ^ 1025 := Int.pow_pos (by decide)
      generalize (2 : Int) ^ 1025 = z at *
      rcases os.1 with q | q <;> rw [q] <;> omega
    · rw [e]
      refine ⟨_, _, rfl, ?_⟩
      have m0 : 0 < m := by
        have : m ≠ 0 := fun z => h0 (by rw [e, z])
        have := hf.1
        omega
      unfold ratN
      split
      · rcases os.1 with q | q <;> rw [q] <;> omega
      · have : 0 < m * 2 ^ s.p.toNat := Int.mul_pos m0 (Int.pow_pos (by decide))
        generalize m * 2 ^ s.p.toNat = z at *
        rcases os.1 with q | q <;> rw [q] <;> omega
  unfold cmpN ordN
  rw [hL]
  show (if ("lt" : Str) = "lt" then decide (b2i (decide (0 < 0 * d - c * 1)) - b2i (decide (0 * d - c * 1 < 0)) < 0) else _) = _
  rw [if_pos rfl, Int.zero_mul, Int.mul_one]
  by_cases hp : 0 < s.s
  · have := hc.1.mpr hp
    rw [decide_eq_true hp, decide_eq_false (by omega : ¬ 0 < 0 - c), decide_eq_true (by omega : 0 - c < 0)]
    rfl
  · have := hc.2.mpr hp
    rw [decide_eq_false hp, decide_eq_true (by omega : 0 < 0 - c), decide_eq_false (by omega : ¬ 0 - c < 0)]
    rfl
theorem wth_leF {s x l : FL} (os : s.ok) (hn : s.t ≠ .str "nan") (h0 : s.t ≠ .int 0) : wthN (nmF x) (nmF s) (nmF l) = leF s x l := by
  unfold wthN leF
  rw [lt_step os hn h0]
  by_cases hp : 0 < s.s
  · rw [if_pos (decide_eq_true hp), if_pos hp]
  · rw [if_neg (by simp [hp]), if_neg hp]
theorem leF_nan {s x l : FL} (ox : x.ok) (ol : l.ok) (h : leF s x l = true) : x.t ≠ .str "nan" ∧ l.t ≠ .str "nan" := by
  unfold leF at h
  have key : ∀ {n m : Nm}, cmpN "le" n m = true → plc n ≠ none ∧ plc m ≠ none := fun {n m} h => by
    obtain ⟨_, _, _, _, e1, e2, _⟩ := cmp_le.mp h
    rw [e1, e2]
    exact ⟨fun z => (by cases z), fun z => (by cases z)⟩
  split at h
  · obtain ⟨a, b⟩ := key h
    exact ⟨fun z => a ((plc_nan ox).mp z), fun z => b ((plc_nan ol).mp z)⟩
  · obtain ⟨a, b⟩ := key h
    exact ⟨fun z => b ((plc_nan ox).mp z), fun z => a ((plc_nan ol).mp z)⟩
theorem run_fl {s l : FL} (os : s.ok) (ol : l.ok) (hs : s.t ≠ .str "nan") (h0 : s.t ≠ .int 0) : ∀ f x, x.ok → leF s x l = true → runP f (some (.F x s l)) = dueF f x s l := by
  intro f
  induction f with
  | zero => intro x _ _; rfl
  | succ f ih =>
    intro x ox h
    obtain ⟨hx, hl⟩ := leF_nan ox ol h
    have c1 : ¬ (x.t = .str "nan" ∨ l.t = .str "nan" ∨ s.t = .str "nan") ∧ leF s x l = true := ⟨fun z => z.elim hx fun z => z.elim hl hs, h⟩
    rw [show dueF (f + 1) x s l = nmF x :: dueF f (byL "add" x s) s l from if_pos c1]
    show nmF x :: runP f (plNext (.F x s l)) = _
    congr 1
    have oy := addB_ok ox os
    by_cases hw : leF s (byL "add" x s) l = true
    · rw [show plNext (.F x s l) = some (.F (byL "add" x s) s l) from if_pos ((wth_leF os hs h0).trans hw)]
      exact ih _ oy hw
    · rw [show plNext (.F x s l) = none from if_neg (by rw [wth_leF os hs h0]; exact hw), run_none]
      cases f with
      | zero => rfl
      | succ f => exact (if_neg fun z => hw z.2).symm
theorem tL_ok {C : Addr} {H : Hp} {v : V} {a : Th} (h : ThAt C H v a) : (tL a).ok := by
  cases a with
  | oth _ => exact nan_ok
  | num n => exact h.1.tok
theorem flt_due {s l t : Th} (os : (tL s).ok) (ol : (tL l).ok) (ot : (tL t).ok) : toldO (fltR s l t) = dueFl s l t := by
  unfold fltR dueFl
  by_cases h1 : isNT l = false
  · rw [if_pos h1, if_pos h1]; rfl
  · rw [if_neg h1, if_neg h1]
    by_cases h2 : isNT t = false
    · rw [if_pos h2, if_pos h2]; rfl
    · rw [if_neg h2, if_neg h2]
      by_cases h3 : isNT s = false
      · rw [if_pos h3, if_pos h3]; rfl
      · rw [if_neg h3, if_neg h3]
        by_cases h4 : (tL t).t = .int 0
        · rw [if_pos h4, if_pos h4]; rfl
        · rw [if_neg h4, if_neg h4]
          by_cases h5 : (tL s).t = .str "nan" ∨ (tL l).t = .str "nan" ∨ (tL t).t = .str "nan"
          · rw [if_pos (.inl h5), show dueF 12 (tL s) (tL t) (tL l) = [] from if_neg fun z => z.1 h5]
            rfl
          · have ht : (tL t).t ≠ .str "nan" := fun z => h5 (.inr (.inr z))
            by_cases h6 : leF (tL t) (tL s) (tL l) = true
            · rw [if_neg]
              · show Out.lst _ = _
                congr 1
                exact run_fl ot ol ht h4 12 _ os h6
              · rintro (z | z)
                · exact h5 z
                · rw [wth_leF ot ht h4, h6] at z
                  cases z
            · have h7 : wthN (nmF (tL s)) (nmF (tL t)) (nmF (tL l)) = false := by
                rw [wth_leF ot ht h4]
                simpa using h6
              rw [if_pos (.inr h7), show dueF 12 (tL s) (tL t) (tL l) = [] from if_neg fun z => h6 z.2]
              rfl
theorem told_due {C : Addr} {H : Hp} {v u z : V} {s l t : Th} (hs : ThAt C H v s) (hl : ThAt C H u l) (ht : ThAt C H z t) : toldO (forR s l t) = dueO s l t := by
  by_cases h : (isIT s && isIT t) = true
  · obtain ⟨k, j, rfl, rfl⟩ := forR_int h
    exact whole_due hs.2 fun L e => by subst e; exact hl.2
  · have h : (isIT s && isIT t) = false := by simpa using h
    rw [forR_flt h]
    have e : dueO s l t = dueFl s l t := by
      cases s with
      | oth v => rfl
      | num n =>
        cases n with
        | f _ _ _ => rfl
        | i k =>
          cases t with
          | oth v => rfl
          | num m =>
            cases m with
            | f _ _ _ => rfl
            | i j => cases h
    rw [e]
    exact flt_due (tL_ok hs) (tL_ok hl) (tL_ok ht)
/-! all of them are equal to themselves -/
theorem ord_self {n : Nm} (h : plc n ≠ none) : ordN n n = some 0 := by
  unfold ordN
  cases e : plc n with
  | none => exact absurd e h
  | some ab =>
    obtain ⟨a, b⟩ := ab
    show some (b2i (decide (0 < a * b - a * b)) - b2i (decide (a * b - a * b < 0))) = some 0
    rw [Int.sub_self]
    rfl
theorem dueI_self : ∀ f v j L, ∀ n ∈ dueI f v j L, ordN n n = some 0 := by
  intro f
  induction f with
  | zero => intro v j L n h; cases h
  | succ f ih =>
    intro v j L n h
    by_cases c : inR v ∧ leJ j v L = true
    · rw [show dueI (f + 1) v j L = .i v :: dueI f (v + j) j L from if_pos c] at h
      rcases List.mem_cons.mp h with e | h
      · subst e
        exact ord_self fun z => by cases z
      · exact ih _ _ _ _ h
    · rw [show dueI (f + 1) v j L = [] from if_neg c] at h
      cases h
theorem dueF_self : ∀ f x s l, x.ok → s.ok → ∀ n ∈ dueF f x s l, ordN n n = some 0 := by
  intro f
  induction f with
  | zero => intro v j L _ _ n h; cases h
  | succ f ih =>
    intro x s l ox os n h
    by_cases c : ¬ (x.t = .str "nan" ∨ l.t = .str "nan" ∨ s.t = .str "nan") ∧ leF s x l = true
    · rw [show dueF (f + 1) x s l = nmF x :: dueF f (byL "add" x s) s l from if_pos c] at h
      rcases List.mem_cons.mp h with e | h
      · subst e
        exact ord_self fun z => c.1 (.inl ((plc_nan ox).mpr z))
      · exact ih _ _ _ (addB_ok ox os) os _ h
    · rw [show dueF (f + 1) x s l = [] from if_neg c] at h
      cases h
theorem due_self {s l t : Th} (os : (tL s).ok) (ot : (tL t).ok) {ns : List Nm} (h : dueO s l t = .lst ns) : ∀ n ∈ ns, ordN n n = some 0 := by
  have flt : dueFl s l t = .lst ns → ∀ n ∈ ns, ordN n n = some 0 := fun h => by
    unfold dueFl at h
    split at h
    · cases h
    · split at h
      · cases h
      · split at h
        · cases h
        · split at h
          · cases h
          · cases h
            exact dueF_self _ _ _ _ os ot
  have whl : ∀ k j, dueW k j l = .lst ns → ∀ n ∈ ns, ordN n n = some 0 := fun k j h => by
    unfold dueW at h
    split at h
    · cases h
    · split at h
      · cases h
      · cases h
        exact dueI_self _ _ _ _
  unfold dueO at h
  split at h
  · exact whl _ _ h
  · exact flt h
end Up

set_option Elab.async false
set_option linter.all false
set_option pp.maxSteps 600
set_option maxRecDepth 100000
set_option maxHeartbeats 4000000
set_option exponentiation.threshold 200000
namespace Up
open PySem PySem.Spec PyProof.Rows L2
local macro_rules | `(tactic| walk_at "u") => `(tactic| first
  | with_reducible refine g_seq ?_
  | with_reducible refine g_asg ?_
  | with_reducible refine g_op ?_
  | ((with_reducible show tVar _ _ _ _); apply g_var; exact rfl)
  | with_reducible refine g_c ?_
  | with_reducible refine g_name ?_
  | with_reducible refine g_ifs ?_
  | with_reducible refine g_tt ?_
  | with_reducible refine g_tB ?_
  | with_reducible refine g_bl ?_
  | with_reducible refine g_ret ?_
  | with_reducible refine g_cb ?_
  | with_reducible refine g_cons ?_
  | with_reducible refine g_nil ?_
  | with_reducible refine g_call ?_
  | with_reducible refine g_and ?_
  | with_reducible refine g_or ?_
  | with_reducible refine g_not ?_
  | with_reducible refine g_andV ?_
  | with_reducible refine g_orV ?_
  | with_reducible refine g_notV ?_
  | with_reducible refine g_if ?_
  | with_reducible refine g_un ?_
  | with_reducible refine g_neg ?_
  | with_reducible refine g_addI ?_
  | with_reducible refine g_subI ?_
  | with_reducible refine g_subB ?_
  | with_reducible refine g_I0 ?_
  | with_reducible refine g_cmpI ?_
  | with_reducible refine g_eqI ?_
  | with_reducible refine g_neI ?_
  | with_reducible refine g_eqS ?_
  | with_reducible refine g_neS ?_
  | with_reducible refine g_eqB ?_
  | with_reducible refine g_neB ?_
  | with_reducible refine g_bits ?_
  | with_reducible refine g_bitsI ?_
  | with_reducible refine g_fld ?_
  | with_reducible refine g_tup ?_
  | with_reducible refine g_lst ?_
  | with_reducible refine g_gtup ?_
  | with_reducible refine g_make ?_
  | with_reducible refine g_lc ?_
  | with_reducible refine g_yesT ?_
  | with_reducible refine g_intI ?_
  | with_reducible refine g_intB ?_
  | with_reducible refine g_max2 ?_
  | with_reducible refine g_abs1 ?_
  | with_reducible refine g_for ?_
  | with_reducible refine g_iList ?_
  | with_reducible refine g_iTup ?_
  | with_reducible refine g_iRng1 ?_
  | with_reducible refine g_iEnum ?_
  | with_reducible refine g_slice ?_
  | with_reducible refine g_po0 ?_
  | with_reducible refine g_po1 ?_
  | with_reducible refine g_gsub ?_
  | with_reducible refine g_par ?_
  | with_reducible refine g_par2 ?_
  | with_reducible refine g_rfl ?_
  | with_reducible refine g_meth ?_
  | with_reducible refine g_gcons ?_
  | with_reducible refine g_gnil ?_
  | with_reducible refine g_gfld ?_
  | with_reducible refine g_sfld ?_
  | with_reducible refine g_drop ?_
  | with_reducible refine g_next ?_
  | with_reducible refine iteT ?_
  | with_reducible refine iteF ?_)
local macro_rules | `(tactic| walk_at "go") => `(tactic| (repeat walk_at "u"))
local macro_rules | `(tactic| walk_at "f") => `(tactic| (repeat (first
  | walk_at "u"
  | with_reducible refine g_chain ?_
  | with_reducible refine g_par3 ?_
  | with_reducible refine g_par3' ?_
  | ((with_reducible refine show_ex ?_); first
    | refine fT (by assumption) (by assumption) ?_
    | refine fS (by assumption) (by assumption) ?_
    | refine fP (by assumption) (by assumption) ?_))))

section
variable {P : Program} {w : World} {K : PySem.W.Frag} {mg : Str → Option Value} {base : Heap} {C CT CP : Addr}
abbrev CDraw (P : Program) (w : World) (K : PySem.W.Frag) (mg : Str → Option Value) (base : Heap) : Prop := Fn P w K mg base CX0 1 "_law_draw" ["_law_well_here", "_law_many"] [] sp_Ldraw
abbrev COne (P : Program) (w : World) (K : PySem.W.Frag) (mg : Str → Option Value) (base : Heap) : Prop := Fn P w K mg base CX0 2 "_law_one" ["_law_well_here", "_law_some"] [] sp_Lone
abbrev CGreat (P : Program) (w : World) (K : PySem.W.Frag) (mg : Str → Option Value) (base : Heap) : Prop := Fn P w K mg base CX0 2 "_law_great" ["_law_well_here", "_law_bits"] [] sp_Lgreat
theorem e63 : (1 : Int) * 2 ^ Int.toNat 63 = 9223372036854775808 := by decide
theorem shl1 {j : Int} (h0 : 0 ≤ j) (h : j ≤ 100000) : CShl 1 j := shl_small h0 h (lt_pow_mono (a := 1) (by decide) (by decide))
theorem FA.stp {a : Addr} {H H' : Hp} {v : V} {x : FL} (h : FA C H v x) (hw : Well H a) (e : Stp a H H') : FA C H' v x := by
  obtain ⟨b, z, h⟩ := h
  exact ⟨b, z, h.stp hw e⟩
/-- a test that is itself chosen -/
def tIfT (t ta tb : TT) : TT := fun σ H R => t σ H fun c H1 => if c = true then ta σ H1 R else tb σ H1 R
theorem pt_ifExp {X : Cx} {c a b : Expr} {tc ta tb : TT} {pos : Pos} (hc : PT X c tc) (ha : PT X a ta) (hb : PT X b tb) : PT X (.IfExp c a b pos) (tIfT tc ta tb) := by
  refine ⟨fun pins s σ H Q I h => ?_⟩
  refine isTrue_IfExp (thn (hc.run pins s σ H _ I h) fun d s1 ⟨H1, I1, q1⟩ => ?_)
  cases d with
  | true => exact ha.run pins s1 σ H1 Q I1 q1
  | false => exact hb.run pins s1 σ H1 Q I1 q1
theorem g_ifT {t ta tb : TT} {σ : L2.St} {H : Hp} {R : Bool → Hp → Prop} (h : t σ H fun c H1 => if c = true then ta σ H1 R else tb σ H1 R) : tIfT t ta tb σ H R := h
/-! lists of methods -/
theorem g_bm {K : PySem.W.Frag} {T : String} {r : V → List V → Hp → VK → Prop} {to : TE} {t : TA} {σ : L2.St} {H : Hp} {Q : VK} (h : to σ H fun x H1 => tyV K T x H1 ∧ t σ H1 fun xs H2 => r x xs H2 Q) : tBM K T r to t σ H Q := h
theorem tyL {H : Hp} {p : Addr} {xs : List V} (h : H p = some (.lst xs)) : tyV K "list" (.ref p) H := .inl ⟨rfl, xs, SqL.of h⟩
theorem g_app {H : Hp} {Q : VK} {p : Addr} {xs : List V} {y : V} (h : H p = some (.lst xs)) (hz : xs.length < sizeLine) (q : ∀ H', H' p = some (.lst (xs ++ [y])) → (∀ b, b ≠ p → H' b = H b) → Q .non H') : rAppend (.ref p) [y] H Q :=
  ⟨p, xs, y, rfl, rfl, h, hz, q _ upd_same fun b hb => upd_ne hb⟩
/-! lists of numbers -/
def NumsAt (C : Addr) (H : Hp) : List V → List Nm → Prop
  | [], [] => True
  | v :: vs, n :: ns => (NumAt C H v n ∧ nOk n) ∧ NumsAt C H vs ns
  | _, _ => False
theorem NumsAt.imp {H H' : Hp} (f : ∀ v n, NumAt C H v n → NumAt C H' v n) : ∀ {vs : List V} {ns : List Nm}, NumsAt C H vs ns → NumsAt C H' vs ns
  | [], [], _ => trivial
  | _ :: _, _ :: _, ⟨⟨h, o⟩, r⟩ => ⟨⟨f _ _ h, o⟩, NumsAt.imp f r⟩
theorem NumsAt.len {H : Hp} : ∀ {vs : List V} {ns : List Nm}, NumsAt C H vs ns → vs.length = ns.length
  | [], [], _ => rfl
  | _ :: _, _ :: _, ⟨_, r⟩ => congrArg Nat.succ (NumsAt.len r)
theorem NumsAt.snoc {H : Hp} {v : V} {n : Nm} (h : NumAt C H v n) (o : nOk n) : ∀ {vs : List V} {ns : List Nm}, NumsAt C H vs ns → NumsAt C H (vs ++ [v]) (ns ++ [n])
  | [], [], _ => ⟨⟨h, o⟩, trivial⟩
  | _ :: _, _ :: _, ⟨z, r⟩ => ⟨z, NumsAt.snoc h o r⟩
theorem NumsAt.get {H : Hp} : ∀ {vs : List V} {ns : List Nm}, NumsAt C H vs ns → ∀ {i : Nat} {v : V}, vs[i]? = some v → ∃ n, ns[i]? = some n ∧ n ∈ ns ∧ NumAt C H v n ∧ nOk n
  | [], [], _, i, v, e => by simp at e
  | _ :: _, n :: ns, ⟨⟨h, o⟩, r⟩, 0, v, e => by
    simp at e
    subst e
    exact ⟨n, rfl, by simp, h, o⟩
  | _ :: _, n :: ns, ⟨_, r⟩, i + 1, v, e => by
    simp at e
    obtain ⟨m, e1, e2, e3⟩ := NumsAt.get r e
    exact ⟨m, by simpa using e1, List.mem_cons_of_mem _ e2, e3⟩
theorem NumsAt.same {H H' : Hp} {vs : List V} {ns : List Nm} (h : NumsAt C H vs ns) (s : Same H H') : NumsAt C H' vs ns := h.imp fun _ _ z => z.same s
/-- a number does not lie where there is a list, or another object -/
theorem NumAt.stay {p : Addr} {H H' : Hp} {v : V} (hp : ∀ dx fs, H p ≠ some (.ins C dx fs)) (s : ∀ b o, b ≠ p → H b = some o → H' b = some o) : ∀ {n : Nm}, NumAt C H v n → NumAt C H' v n
  | .i _, h => h
  | .f _ _ _, ⟨a, e, ⟨dx, h⟩, k⟩ => ⟨a, e, ⟨dx, s _ _ (fun z => by subst z; exact hp _ _ h) h⟩, k⟩
def OutR (C : Addr) (o : Out) (H : Hp) (Q : VK) : Prop := match o with
  | .err x => ∀ H', Same H H' → Q (.str x) H'
  | .lst ns => ∀ H' p vs, Same H H' → H p = none → H' p = some (.lst vs) → NumsAt C H' vs ns → Q (.ref p) H'
/-! _law_int -/
abbrev s_Lint : Stmt := top 48
theorem sc_Lint : FnScope ["_law_well_here", "_law_some"] ["_law_well_here"] (defScope s_Lint) := ⟨rfl, rfl, rfl, by decide +kernel, rfl, by decide +kernel, by decide +kernel⟩
def sp_Lint : Sp := fun vs H Q _ => ∃ (a : Addr), vs = [.ref a] ∧ Well H a ∧ ∀ k H', -9223372036854775808 ≤ k → k < 9223372036854775808 → Stp a H H' → Well H' a → Q (.int k) H'
theorem ok_Lint {f : Addr} {fd : FuncData} (F : FunD K "_law_int" "_law_int" (defArgs s_Lint) (defBody s_Lint) (defScope s_Lint) [] [] f fd) (B : Blt mg) (c_Ldraw : CDraw P w K mg base) (c_Lone : COne P w K mg base) (c_Lgreat : CGreat P w K mg base) : FnOk P w K mg base CX0 3 f fd ["_law_well_here"] sp_Lint := by
  refine F.ok sc_Lint (fun vs H Q E h => ?_) (fun cdv A outer s H vs Q E hr h => ?_)
  · obtain ⟨a, rfl, _⟩ := h; rfl
  · obtain ⟨a, rfl, hw, q⟩ := h
    refine ⟨_, PSs.nox (pss_cons (ps_set (i := 1) sc_Lint.nd rfl (Or.inl rfl) (pe_lstN (pa_cons (pe_op op_oSub (pe_fn c_Ldraw (hr.mono (by decide)) pass0 (pa_cons (pv 0) (pa_cons pe_int pa_nil))) pe_int) (pa_cons (pe_op op_oSub (pe_fn c_Lgreat (hr.mono (by decide)) pass0 (pa_cons (pv 0) (pa_cons pe_int pa_nil))) (pe_op op_oShl pe_int pe_int)) (pa_cons (pe_op op_oAdd (pe_un un_neg (pe_op op_oShl pe_int pe_int)) (pe_fn c_Ldraw (hr.mono (by decide)) pass0 (pa_cons (pv 0) (pa_cons pe_int pa_nil)))) pa_nil)))))
  (pss_one (ps_ret (pe_fn c_Lone (hr.mono (by decide)) pass0 (pa_cons (pv 0) (pa_cons (pe_op op_oAdd (pv 1) (pe_lstN (pa_cons (pe_op op_oSub (pe_op op_oSub (pe_op op_oShl pe_int pe_int) pe_int) (pe_fn c_Ldraw (hr.mono (by decide)) pass0 (pa_cons (pv 0) (pa_cons pe_int pa_nil)))) (pa_cons (pe_op op_oSub (pe_fn c_Ldraw (hr.mono (by decide)) pass0 (pa_cons (pv 0) (pa_cons pe_int pa_nil))) pe_int) pa_nil)))) pa_nil)))))), ?_⟩
    walk_at "go"
    refine ⟨a, _, rfl, by decide, by decide, hw, fun d1 H1 a1 b1 s1 hw1 => ?_⟩
    walk_at "go"
    refine ⟨a, _, rfl, by decide, by decide, hw1, fun d2 H2 a2 b2 s2 hw2 => ?_⟩
    walk_at "go"
    refine g_II (shl1 (by decide) (by decide)) ?_
    rw [e63]
    walk_at "go"
    refine g_II (shl1 (by decide) (by decide)) ?_
    rw [e63]
    walk_at "go"
    refine ⟨a, _, rfl, by decide, by decide, hw2, fun d3 H3 a3 b3 s3 hw3 => ?_⟩
    walk_at "go"
    refine g_new (sz rfl) fun l4 H4 n4 s4 h4 _ => ?_
    have S4 := ((s1.trans s2).trans s3).trans (Stp.of s4)
    have hw4 := hw3.same s4
    have l4a := hw3.ne_none n4
    walk_at "go"
    refine g_II (shl1 (by decide) (by decide)) ?_
    rw [e63]
    walk_at "go"
    refine ⟨a, _, rfl, by decide, by decide, hw4, fun d5 H5 a5 b5 s5 hw5 => ?_⟩
    walk_at "go"
    refine ⟨a, _, rfl, by decide, by decide, hw5, fun d6 H5' a6 b6 s5' hw5' => ?_⟩
    have h4 := s5' _ _ l4a (s5 _ _ l4a h4)
    walk_at "go"
    refine g_new (sz rfl) fun l6 H6 n6 s6 h6 _ => ?_
    refine .inl ⟨l4, l6, _, _, rfl, rfl, SqL.of (s6 _ _ h4), SqL.of h6, sz rfl, fun l7 H7 n7 s7 h7 _ => ?_⟩
    have S7 := (((S4.trans s5).trans s5').trans (Stp.of s6)).trans (Stp.of s7)
    have hw6 := hw5'.same s6
    have hw7 := hw6.same s7
    walk_at "go"
    refine ⟨a, l7, _, rfl, hw7, h7, hw6.ne_none n7, Nat.lt_of_lt_of_le (by decide : 0 < 5) (Nat.le_refl _), Nat.lt_of_le_of_lt (Nat.le_refl 5) (by decide), fun v H8 hv s8 hw8 => ?_⟩
    have g2 : d2 < 18446744073709551616 := b2
    obtain ⟨u, rfl, hu1, hu2⟩ : ∃ u, v = .int u ∧ -9223372036854775808 ≤ u ∧ u < 9223372036854775808 := by
      simp only [List.mem_append, List.mem_cons, List.not_mem_nil, or_false] at hv
      rcases hv with (rfl | rfl | rfl) | (rfl | rfl) <;> exact ⟨_, rfl, by omega, by omega⟩
    exact q _ _ hu1 hu2 (S7.trans s8) hw8
/-! _law_number -/
abbrev s_Lnumber : Stmt := top 49
theorem sc_Lnumber : FnScope ["_law_well_here", "_law_small"] ["_law_well_here"] (defScope s_Lnumber) := ⟨rfl, rfl, rfl, by decide +kernel, rfl, by decide +kernel, by decide +kernel⟩
def sp_Lnumber (C : Addr) : Sp := fun vs H Q _ => ∃ (a : Addr), vs = [.ref a] ∧ Well H a ∧ ∀ v H' n, Stp a H H' → Well H' a → NumAt C H' v n → nIn n → Q v H'
theorem ok_Lnumber {f : Addr} {fd : FuncData} (F : FunD K "_law_number" "_law_number" (defArgs s_Lnumber) (defBody s_Lnumber) (defScope s_Lnumber) [] [] f fd) (B : Blt mg) (c_Float : CnF P w K mg base C) (c_Ldraw : CDraw P w K mg base) (c_Lone : COne P w K mg base) (c_Lint : Fn P w K mg base CX0 3 "_law_int" ["_law_well_here"] [] sp_Lint) (c_Lfloat : Fn P w K mg base CX0 4 "_law_float" ["_law_well_here"] [] (sp_Lfloat C)) : FnOk P w K mg base CX0 5 f fd ["_law_well_here"] (sp_Lnumber C) := by
  refine F.ok sc_Lnumber (fun vs H Q E h => ?_) (fun cdv A outer s H vs Q E hr h => ?_)
  · obtain ⟨a, rfl, _⟩ := h; rfl
  · obtain ⟨a, rfl, hw, q⟩ := h
    refine ⟨_, PSs.nox (pss_cons (ps_set (i := 1) sc_Lnumber.nd rfl (Or.inl rfl) (pe_cn c_Float (hr.mono (by decide)) pass0 (pa_cons (pe_fn c_Lone (hr.mono (by decide)) pass0 (pa_cons (pv 0) (pa_cons (pe_lstN (pa_cons pe_int (pa_cons (pe_un un_neg pe_int) pa_nil))) pa_nil))) (pa_cons (pe_fn c_Ldraw (hr.mono (by decide)) pass0 (pa_cons (pv 0) (pa_cons pe_int pa_nil))) (pa_cons (pe_fn c_Lone (hr.mono (by decide)) pass0 (pa_cons (pv 0) (pa_cons (pe_lstN (pa_cons pe_int (pa_cons (pe_un un_neg pe_int) (pa_cons (pe_un un_neg pe_int) pa_nil)))) pa_nil))) pa_nil)))))
  (pss_one (ps_ret (pe_fn c_Lone (hr.mono (by decide)) pass0 (pa_cons (pv 0) (pa_cons (pe_lstN (pa_cons (pe_fn c_Lint (hr.mono (by decide)) pass0 (pa_cons (pv 0) pa_nil)) (pa_cons (pe_fn c_Lint (hr.mono (by decide)) pass0 (pa_cons (pv 0) pa_nil)) (pa_cons (pv 1) (pa_cons (pv 1) (pa_cons (pe_fn c_Lfloat (hr.mono (by decide)) pass0 (pa_cons (pv 0) pa_nil)) pa_nil)))))) pa_nil)))))), ?_⟩
    walk_at "f"
    refine g_new (sz rfl) fun l13 H13 n13 s13 h13 _ => ?_
    refine ⟨a, l13, _, rfl, hw.same s13, h13, hw.ne_none n13, by decide, by decide, fun w1 H14 hv s14 hw14 => ?_⟩
    have S14 := (Stp.of (w := a) s13).trans s14
    obtain ⟨sg, rfl, hs⟩ : ∃ sg, w1 = .int sg ∧ (sg = 1 ∨ sg = -1) := by
      simp only [List.mem_cons, List.not_mem_nil, or_false] at hv
      rcases hv with rfl | rfl
      · exact ⟨_, rfl, .inl rfl⟩
      · exact ⟨_, rfl, .inr rfl⟩
    walk_at "f"
    refine ⟨a, _, rfl, by decide, by decide, hw14, fun d H15 d0 d1 s15 hw15 => ?_⟩
    have S15 := S14.trans s15
    walk_at "f"
    refine g_new (sz rfl) fun l16 H16 n16 s16 h16 _ => ?_
    refine ⟨a, l16, _, rfl, hw15.same s16, h16, hw15.ne_none n16, by decide, by decide, fun w2 H17 hv s17 hw17 => ?_⟩
    have S17 := (S15.trans (Stp.of s16)).trans s17
    obtain ⟨p, rfl, hp1, hp2⟩ : ∃ p, w2 = .int p ∧ -2 ≤ p ∧ p ≤ 0 := by
      simp only [List.mem_cons, List.not_mem_nil, or_false] at hv
      rcases hv with rfl | rfl | rfl
      · exact ⟨_, rfl, by decide, by decide⟩
      · exact ⟨_, rfl, by decide, by decide⟩
      · exact ⟨_, rfl, by decide, by decide⟩
    obtain ⟨z, rfl⟩ := Int.eq_ofNat_of_zero_le d0
    have bz : bitsN z ≤ 6 := bits_le (show z < 64 by omega)
    have mk : MkOk sg (.int (z : Nat)) p := mk_of_flok hs (by omega) (by omega) (by omega)
    walk_at "f"
    refine mkN mk fun H18 v18 s18 f18 => ?_
    have o18 := mkL_ok (v := (.int (z : Nat), p)) mk
    have hw18 := hw17.same s18
    have S18 := S17.trans (Stp.of s18)
    walk_at "f"
    refine ⟨a, rfl, hw18, fun k1 H19 k1a k1b s19 hw19 => ?_⟩
    walk_at "f"
    refine ⟨a, rfl, hw19, fun k2 H20 k2a k2b s20 hw20 => ?_⟩
    walk_at "f"
    refine ⟨a, rfl, hw20, fun v21 H21 sg2 t2 p2 s21 hw21 m21 => ?_⟩
    have f18 := ((f18.stp hw18 s19).stp hw19 s20).stp hw20 s21
    have S21 := ((S18.trans s19).trans s20).trans s21
    walk_at "f"
    refine g_new (sz rfl) fun l22 H22 n22 s22 h22 _ => ?_
    refine ⟨a, l22, _, rfl, hw21.same s22, h22, hw21.ne_none n22, Nat.lt_of_lt_of_le (by decide : 0 < 5) (Nat.le_refl _), Nat.lt_of_le_of_lt (Nat.le_refl 5) (by decide), fun w3 H23 hv s23 hw23 => ?_⟩
    have S23 := (S21.trans (Stp.of s22)).trans s23
    have f18 := (f18.same s22).stp (hw21.same s22) s23
    have m21 := (m21.same s22).stp (hw21.same s22) s23
    simp only [List.mem_cons, List.not_mem_nil, or_false] at hv
    rcases hv with rfl | rfl | rfl | rfl | rfl
    · exact q _ _ (.i k1) S23 hw23 rfl ⟨k1a, k1b⟩
    · exact q _ _ (.i k2) S23 hw23 rfl ⟨k2a, k2b⟩
    · exact q _ _ _ S23 hw23 (f18.num o18) o18
    · exact q _ _ _ S23 hw23 (f18.num o18) o18
    · obtain ⟨_, _, _, o⟩ := id m21
      exact q _ _ _ S23 hw23 m21 o
/-! _law_said -/
abbrev s_Lsaid : Stmt := top 50
theorem sc_Lsaid : FnScope ["_law_start", "_law_limit", "_law_step", "_law_plan", "e", "_law_found"] ["_law_start", "_law_limit", "_law_step"] (defScope s_Lsaid) := ⟨rfl, rfl, rfl, by decide +kernel, rfl, by decide +kernel, by decide +kernel⟩
def sp_Lsaid (C : Addr) : Sp := fun vs H Q _ => ∃ (v u t : V) (a b c : Th), vs = [v, u, t] ∧ ThAt C H v a ∧ ThAt C H u b ∧ ThAt C H t c ∧ OutR C (toldO (forR a b c)) H Q
def CurAt (C CP : Addr) (H : Hp) (v : V) : Option Pl → Prop
  | none => v = .non
  | some p => ∃ a, v = .ref a ∧ PlAt C CP H a p
theorem PlAt.val {H : Hp} {a : Addr} (T : PlC K mg CP) : ∀ {p : Pl}, PlAt C CP H a p → ∃ dx v st l lim, H a = some (.ins CP dx (plF v st l lim)) ∧ NumAt C H v (plV p)
  | .I v s k, ⟨dx, lim, h⟩ => ⟨dx, _, _, _, _, h, rfl⟩
  | .F x s l, ⟨dx, vx, vs, vl, h, hx, _, _, ox, _, _⟩ => ⟨dx, _, _, _, _, h, hx.num ox⟩
theorem PlAt.nok {H : Hp} {a : Addr} : ∀ {p : Pl}, PlAt C CP H a p → (∀ v s k, p = .I v s k → bigOk v) → nOk (plV p)
  | .I v s k, _, h => h v s k rfl
  | .F x s l, ⟨_, _, _, _, _, _, _, _, ox, _, _⟩, _ => ox
theorem PlAt.stay {H H' : Hp} {a q : Addr} (hq : ∀ C' dx fs, H q ≠ some (.ins C' dx fs)) (s : ∀ b o, b ≠ q → H b = some o → H' b = some o) : ∀ {p : Pl}, PlAt C CP H a p → PlAt C CP H' a p := fun {p} h => by
  have key : ∀ b C' dx fs, H b = some (.ins C' dx fs) → H' b = some (.ins C' dx fs) := fun b C' dx fs e => s _ _ (fun z => by subst z; exact hq _ _ _ e) e
  have fa : ∀ v x, FA C H v x → FA C H' v x := fun v x ⟨b, e, dx, z⟩ => ⟨b, e, dx, key _ _ _ _ z⟩
  cases p with
  | I v s k =>
    obtain ⟨dx, lim, h⟩ := h
    exact ⟨dx, lim, key _ _ _ _ h⟩
  | F x s l =>
    obtain ⟨dx, vx, vs, vl, h, h1, h2, h3, r⟩ := h
    exact ⟨dx, vx, vs, vl, key _ _ _ _ h, fa _ _ h1, fa _ _ h2, fa _ _ h3, r⟩
end
end Up

set_option Elab.async false
set_option linter.all false
set_option pp.maxSteps 600
set_option maxRecDepth 100000
set_option maxHeartbeats 4000000
set_option exponentiation.threshold 200000
namespace Up
open PySem PySem.Spec PyProof.Rows L2
local macro_rules | `(tactic| walk_at "u") => `(tactic| first
  | with_reducible refine g_seq ?_
  | with_reducible refine g_asg ?_
  | with_reducible refine g_op ?_
  | ((with_reducible show tVar _ _ _ _); apply g_var; exact rfl)
  | with_reducible refine g_c ?_
  | with_reducible refine g_name ?_
  | with_reducible refine g_ifs ?_
  | with_reducible refine g_tt ?_
  | with_reducible refine g_tB ?_
  | with_reducible refine g_bl ?_
  | with_reducible refine g_ret ?_
  | with_reducible refine g_cb ?_
  | with_reducible refine g_cons ?_
  | with_reducible refine g_nil ?_
  | with_reducible refine g_call ?_
  | with_reducible refine g_and ?_
  | with_reducible refine g_or ?_
  | with_reducible refine g_not ?_
  | with_reducible refine g_andV ?_
  | with_reducible refine g_orV ?_
  | with_reducible refine g_notV ?_
  | with_reducible refine g_if ?_
  | with_reducible refine g_un ?_
  | with_reducible refine g_neg ?_
  | with_reducible refine g_addI ?_
  | with_reducible refine g_subI ?_
  | with_reducible refine g_subB ?_
  | with_reducible refine g_I0 ?_
  | with_reducible refine g_cmpI ?_
  | with_reducible refine g_eqI ?_
  | with_reducible refine g_neI ?_
  | with_reducible refine g_eqS ?_
  | with_reducible refine g_neS ?_
  | with_reducible refine g_eqB ?_
  | with_reducible refine g_neB ?_
  | with_reducible refine g_bits ?_
  | with_reducible refine g_bitsI ?_
  | with_reducible refine g_fld ?_
  | with_reducible refine g_tup ?_
  | with_reducible refine g_lst ?_
  | with_reducible refine g_gtup ?_
  | with_reducible refine g_make ?_
  | with_reducible refine g_lc ?_
  | with_reducible refine g_yesT ?_
  | with_reducible refine g_intI ?_
  | with_reducible refine g_intB ?_
  | with_reducible refine g_max2 ?_
  | with_reducible refine g_abs1 ?_
  | with_reducible refine g_for ?_
  | with_reducible refine g_iList ?_
  | with_reducible refine g_iTup ?_
  | with_reducible refine g_iRng1 ?_
  | with_reducible refine g_iEnum ?_
  | with_reducible refine g_slice ?_
  | with_reducible refine g_po0 ?_
  | with_reducible refine g_po1 ?_
  | with_reducible refine g_gsub ?_
  | with_reducible refine g_par ?_
  | with_reducible refine g_par2 ?_
  | with_reducible refine g_rfl ?_
  | with_reducible refine g_meth ?_
  | with_reducible refine g_gcons ?_
  | with_reducible refine g_gnil ?_
  | with_reducible refine g_gfld ?_
  | with_reducible refine g_sfld ?_
  | with_reducible refine g_drop ?_
  | with_reducible refine g_next ?_
  | with_reducible refine iteT ?_
  | with_reducible refine iteF ?_)
local macro_rules | `(tactic| walk_at "go") => `(tactic| (repeat walk_at "u"))
local macro_rules | `(tactic| walk_at "f") => `(tactic| (repeat (first
  | walk_at "u"
  | with_reducible refine g_chain ?_
  | with_reducible refine g_par3 ?_
  | with_reducible refine g_par3' ?_
  | ((with_reducible refine show_ex ?_); first
    | refine fT (by assumption) (by assumption) ?_
    | refine fS (by assumption) (by assumption) ?_
    | refine fP (by assumption) (by assumption) ?_))))

theorem dueI_ok : ∀ f v j L, ∀ n ∈ dueI f v j L, nOk n := by
  intro f
  induction f with
  | zero => intro v j L n h; cases h
  | succ f ih =>
    intro v j L n h
    by_cases c : inR v ∧ leJ j v L = true
    · rw [show dueI (f + 1) v j L = .i v :: dueI f (v + j) j L from if_pos c] at h
      rcases List.mem_cons.mp h with e | h
      · subst e
        exact big64 (by have := c.1.1; omega) (by have := c.1.2; omega)
      · exact ih _ _ _ _ h
    · rw [show dueI (f + 1) v j L = [] from if_neg c] at h
      cases h
theorem dueF_ok : ∀ f x s l, x.ok → s.ok → ∀ n ∈ dueF f x s l, nOk n := by
  intro f
  induction f with
  | zero => intro v j L _ _ n h; cases h
  | succ f ih =>
    intro x s l ox os n h
    by_cases c : ¬ (x.t = .str "nan" ∨ l.t = .str "nan" ∨ s.t = .str "nan") ∧ leF s x l = true
    · rw [show dueF (f + 1) x s l = nmF x :: dueF f (byL "add" x s) s l from if_pos c] at h
      rcases List.mem_cons.mp h with e | h
      · subst e
        exact ox
      · exact ih _ _ _ (addB_ok ox os) os _ h
    · rw [show dueF (f + 1) x s l = [] from if_neg c] at h
      cases h
theorem due_ok {s l t : Th} (os : (tL s).ok) (ot : (tL t).ok) {ns : List Nm} (h : dueO s l t = .lst ns) : ∀ n ∈ ns, nOk n := by
  have flt : dueFl s l t = .lst ns → ∀ n ∈ ns, nOk n := fun h => by
    unfold dueFl at h
    split at h
    · cases h
    · split at h
      · cases h
      · split at h
        · cases h
        · split at h
          · cases h
          · cases h
            exact dueF_ok _ _ _ _ os ot
  have whl : ∀ k j, dueW k j l = .lst ns → ∀ n ∈ ns, nOk n := fun k j h => by
    unfold dueW at h
    split at h
    · cases h
    · split at h
      · cases h
      · cases h
        exact dueI_ok _ _ _ _
  unfold dueO at h
  split at h
  · exact whl _ _ h
  · exact flt h
section
variable {P : Program} {w : World} {K : PySem.W.Frag} {mg : Str → Option Value} {base : Heap} {C CT CP : Addr}
theorem ok_Lsaid {f : Addr} {fd : FuncData} (F : FunD K "_law_said" "_law_said" (defArgs s_Lsaid) (defBody s_Lsaid) (defScope s_Lsaid) [] [] f fd) (B : Blt mg) (TH : ThK K mg CT) (TP : PlC K mg CP) (hne : CP ≠ C) (c_forplan : Fn P w K mg base (L2.CX P w) 7 "for_plan" ["start", "limit", "step"] [] (sp_forplan C CP CT)) (c_goeson : Mt P w K mg base CX0 9 CP "goes_on" ["self"] (sp_goeson C CP)) : FnOk P w K mg base CX0 10 f fd ["_law_start", "_law_limit", "_law_step"] (sp_Lsaid C) := by
  refine F.ok sc_Lsaid (fun vs H Q E h => ?_) (fun cdv A outer s H vs Q E hr h => ?_)
  · obtain ⟨_, _, _, _, _, _, rfl, _⟩ := h; rfl
  · obtain ⟨v, u, t, a, b, c, rfl, ha, hb, hc, q⟩ := h
    have hr7 : Room 7 _ := hr.mono (by decide)
    have ed := told_due ha hb hc
    have oa := tL_ok ha
    have oc := tL_ok hc
    refine ⟨_, PSs.nox (pss_cons (ps_try_as (i := 4) (tb := fun W => tAsg (tCallS (sp_forplan C CP CT) (WE W) (tCons (tVar 0) (tCons (tVar 1) (tCons (tVar 2) tNil)))) (gName 3)) (ts := fun a cls d => tRet (tXf a cls d CT "value" (tVar 4))) (Wout := fun _ _ _ _ => False) rfl rfl sc_Lsaid.nd rfl rfl ⟨rfl, by decide, Or.inl TH.mg⟩ takes0 (fun W pn xe tk _ => pss_one (ps_set (i := 3) sc_Lsaid.nd rfl (Or.inl rfl) (by exact (pe_fnS c_forplan hr7 (fun σ => passAt tk σ) (by exact (pa_cons (pv 0) (pa_cons (pv 1) (pa_cons (pv 2) pa_nil)))))))) (fun a oe cls d pn hz hf => pss_one (ps_ret (by exact (pe_xf TH.xf TH.nV hz hf (pv 4))))))
  (pss_cons (ps_set (i := 5) sc_Lsaid.nd rfl (Or.inl rfl) (pe_lstN pa_nil))
  (pss_cons (ps_while PassesOwn.never (PW.pt (pw_and (pt_cmpR op_notN (pv 3) pe_non (nomark _)) (pw_and1 (pt_cmpR op_oLt (pe_callB call_len_seq (by rfl) B.len (by decide +kernel) (pa_cons (pv 5) pa_nil)) pe_int (nomark _)))))
    (pss_cons (ps_expr (pe_bm PySem.F.plainAttrs_list PySem.F.slot_list_append PySem.F.type_list_append mt_append (pv 5) (pa_cons (pe_fld (pv 3) rfl) pa_nil)))
  (pss_one (ps_set (i := 3) sc_Lsaid.nd rfl (Or.inl rfl) (pe_ifExp (pt_val (pe_mt0 c_goeson (hr.mono (by decide)) pass0 (pv 3))) (pv 3) pe_non)))))
  (pss_one (ps_ret (pv 5)))))), ?_⟩
    refine g_seq ?_
    refine ⟨_, rfl, _, rfl, _, rfl, v, u, t, a, b, c, rfl, ha, hb, hc, ?_⟩
    cases er : forR a b c with
    | err x =>
      rw [er] at q
      intro d H' s h
      refine ⟨true, TH.te, fun _ a na => ?_, fun z => by cases z⟩
      refine ⟨_, rfl, rfl, rfl, d, _, _, rfl, h, thr_value _ _, ?_⟩
      exact q _ s
    | no =>
      rw [er] at q
      intro H1 s1
      walk_at "f"
      refine g_new (sz rfl) fun pf H2 n2 s2 h2 _ => ?_
      walk_at "f"
      refine g_while (fun m σ' H' => σ' = [some v, some u, some t, some .non, none, some (.ref pf)] ∧ Same H2 H') 0 ⟨rfl, Same.refl _⟩ ?_
      rintro m _ H3 ⟨rfl, s3⟩
      walk_at "f"
      refine g_iten (fun z => absurd rfl z) fun _ => ?_
      walk_at "f"
      exact q H3 pf [] ((s1.trans s2).trans s3) (s1.free n2) (s3 _ _ h2) trivial
    | go p0 =>
      rw [er] at q ed
      have hnok : ∀ n ∈ runP 12 (some p0), nOk n := due_ok oa oc ed.symm
      generalize ht : runP 12 (some p0) = tot at *
      have q : OutR C (.lst tot) H Q := by rw [← ht]; exact q
      intro H1 a0 na0 s1 hp0
      walk_at "f"
      refine g_new (sz rfl) fun pf H2 n2 s2 h2 _ => ?_
      have nf : H pf = none := s1.free n2
      walk_at "f"
      refine g_while (fun m σ' H' => ∃ (cur : Option Pl) (pv : V) (vs : List V) (done : List Nm), m = 12 - vs.length ∧ σ' = [some v, some u, some t, some pv, none, some (.ref pf)] ∧ Same H H' ∧ H' pf = some (.lst vs) ∧ NumsAt C H' vs done ∧ vs.length ≤ 12 ∧ tot = done ++ runP (12 - vs.length) cur ∧
        (match cur with | none => pv = .non | some p => ∃ a, pv = .ref a ∧ PlAt C CP H' a p ∧ H a = none)) 12 ⟨some p0, .ref a0, [], [], rfl, rfl, s1.trans s2, h2, trivial, by decide, ht.symm, a0, rfl, hp0.stay (q := pf) (fun _ _ _ z => by rw [n2] at z; cases z) (fun b o _ e => s2 _ _ e), na0⟩ ?_
      rintro m _ H3 ⟨cur, pv, vs, done, rfl, rfl, s3, h3, hnums, hlen, etot, hcur⟩
      have fin : done = tot → Q (.ref pf) H3 := fun e => q H3 pf vs s3 nf h3 (e ▸ hnums)
      cases cur with
      | none =>
        have hcur : pv = .non := hcur
        subst hcur
        walk_at "f"
        refine g_iten (fun z => absurd rfl z) fun _ => ?_
        walk_at "f"
        refine fin ?_
        rw [etot, run_none, List.append_nil]
      | some p =>
        obtain ⟨a, rfl, hp, na⟩ := hcur
        walk_at "f"
        refine g_iten (fun _ => ?_) fun z => nomatch z
        walk_at "f"
        refine g_lenL h3 ?_
        walk_at "f"
        refine g_ite (fun hl => ?_) fun hl => ?_
        · have hl : vs.length < 12 := by omega
          refine g_wbody ?_
          obtain ⟨dx, pvv, st, l, lim, hpa, hval⟩ := hp.val TP
          obtain ⟨r, hr12⟩ : ∃ r, 12 - vs.length = r + 1 := ⟨12 - vs.length - 1, by omega⟩
          rw [hr12] at etot
          have etot : tot = done ++ plV p :: runP r (plNext p) := etot
          have nokv : nOk (plV p) := hnok _ (by rw [etot]; simp)
          walk_at "f"
          refine g_bm ?_
          walk_at "f"
          refine ⟨tyL h3, ?_⟩
          walk_at "f"
          refine fPl TP hpa TP.nV rfl ?_
          walk_at "f"
          refine g_app h3 (Nat.lt_of_lt_of_le hl (by decide)) fun H4 h4 k4 => ?_
          have np : ∀ C' dx fs, H3 pf ≠ some (.ins C' dx fs) := fun _ _ _ z => by rw [h3] at z; cases z
          have st4 : ∀ b o, b ≠ pf → H3 b = some o → H4 b = some o := fun b o hb e => (k4 b hb).trans e
          have hp4 := hp.stay np st4
          have hval4 := hval.stay (fun dx fs => np C dx fs) st4
          have hn4 := (hnums.imp fun _ _ z => z.stay (fun dx fs => np C dx fs) st4).snoc hval4 nokv
          have hpa4 := st4 _ _ (fun z => np _ _ _ (z ▸ hpa)) hpa
          have s4 : Same H H4 := fun b o e => st4 b o (fun z => by rw [z, nf] at e; cases e) (s3 _ _ e)
          walk_at "f"
          refine ⟨a, dx, _, rfl, hpa4, rfl, ?_⟩
          walk_at "f"
          refine ⟨a, p, rfl, hp4, fun H5 st5 => ?_⟩
          have nap : pf ≠ a := fun z => np _ _ _ (z ▸ hpa)
          have h5 := st5 _ _ nap h4
          have naC : ∀ dx fs, H4 a ≠ some (.ins C dx fs) := fun dx' fs' z => by
            rw [hpa4] at z
            injection z with z
            injection z with z1 z2
            exact hne z1
          have hn5 := hn4.imp fun _ _ z => z.stay naC st5
          have s5 : Same H H5 := fun b o e => st5 b o (fun z => by rw [z, na] at e; cases e) (s4 _ _ e)
          have elen : (vs ++ [pvv]).length = vs.length + 1 := by simp
          have er : 12 - (vs ++ [pvv]).length = r := by rw [elen]; omega
          have etot2 : tot = (done ++ [plV p]) ++ runP (12 - (vs ++ [pvv]).length) (plNext p) := by rw [er, etot]; simp
          cases en : plNext p with
          | none =>
            rw [en] at etot2
            walk_at "f"
            refine ⟨_, ?_, none, .non, vs ++ [pvv], done ++ [plV p], rfl, rfl, s5, h5, hn5, by rw [elen]; omega, etot2, rfl⟩
            rw [elen]; omega
          | some p' =>
            rw [en] at etot2
            intro hp5
            walk_at "f"
            refine ⟨_, ?_, some p', .ref a, vs ++ [pvv], done ++ [plV p], rfl, rfl, s5, h5, hn5, by rw [elen]; omega, etot2, a, rfl, hp5, na⟩
            rw [elen]; omega
        · walk_at "f"
          refine fin ?_
          have : 12 - vs.length = 0 := by omega
          rw [etot, this]
          show done = done ++ []
          rw [List.append_nil]
/-! _law_is_number -/
abbrev s_Lisnumber : Stmt := top 51
theorem sc_Lisnumber : FnScope ["_law_thing"] ["_law_thing"] (defScope s_Lisnumber) := ⟨rfl, rfl, rfl, by decide +kernel, rfl, by decide +kernel, by decide +kernel⟩
def sp_Lisnumber (C : Addr) : Sp := fun vs H Q _ => ∃ v a, vs = [v] ∧ ThAt C H v a ∧ Q (.bl (isNT a)) H
theorem ok_Lisnumber {f : Addr} {fd : FuncData} (F : FunD K "_law_is_number" "_law_is_number" (defArgs s_Lisnumber) (defBody s_Lisnumber) (defScope s_Lisnumber) [] [] f fd) (B : Blt mg) (T : FlC K mg C) : FnOk P w K mg base CX0 1 f fd ["_law_thing"] (sp_Lisnumber C) := by
  have g_Float : mg "Float" = some (.ref C) := T.mg
  refine F.ok sc_Lisnumber (fun vs H Q E h => ?_) (fun cdv A outer s H vs Q E hr h => ?_)
  · obtain ⟨_, _, rfl, _⟩ := h; rfl
  · obtain ⟨v, a, rfl, ha, q⟩ := h
    obtain ⟨t, b, k, e, i⟩ := ha.kf T
    refine ⟨_, PSs.nox (pss_one (ps_ret (pe_or (pe_callB call_isi (by rfl) B.isinstance (by decide +kernel) (pa_cons (pv 0) (pa_cons (pe_gref g_Float) pa_nil))) (pe_one (pe_and (pe_callB call_isi (by rfl) B.isinstance (by decide +kernel) (pa_cons (pv 0) (pa_cons (pe_tyInt B) pa_nil))) (pe_one (pe_not (pe_callB call_isi (by rfl) B.isinstance (by decide +kernel) (pa_cons (pv 0) (pa_cons (pe_tyBool B) pa_nil)))))))))), ?_⟩
    rw [← e] at q
    walk_at "f"
    refine g_isiF k ?_
    walk_at "f"
    cases b with
    | true =>
      refine iteT ?_
      exact q
    | false =>
      refine iteF ?_
      walk_at "f"
      refine g_isiInt k.kn ?_
      walk_at "f"
      have q : Q (.bl (isI v)) H := q
      cases v <;> first | exact iteF q | (refine iteT ?_; walk_at "f"; refine g_isiBool k.kn ?_; walk_at "f"; exact q)
end
end Up

set_option Elab.async false
set_option linter.all false
set_option pp.maxSteps 600
set_option maxRecDepth 100000
set_option maxHeartbeats 4000000
set_option exponentiation.threshold 200000
namespace Up
open PySem PySem.Spec PyProof.Rows L2
local macro_rules | `(tactic| walk_at "u") => `(tactic| first
  | with_reducible refine g_seq ?_
  | with_reducible refine g_asg ?_
  | with_reducible refine g_op ?_
  | ((with_reducible show tVar _ _ _ _); apply g_var; exact rfl)
  | with_reducible refine g_c ?_
  | with_reducible refine g_name ?_
  | with_reducible refine g_ifs ?_
  | with_reducible refine g_tt ?_
  | with_reducible refine g_tB ?_
  | with_reducible refine g_bl ?_
  | with_reducible refine g_ret ?_
  | with_reducible refine g_cb ?_
  | with_reducible refine g_cons ?_
  | with_reducible refine g_nil ?_
  | with_reducible refine g_call ?_
  | with_reducible refine g_and ?_
  | with_reducible refine g_or ?_
  | with_reducible refine g_not ?_
  | with_reducible refine g_andV ?_
  | with_reducible refine g_orV ?_
  | with_reducible refine g_notV ?_
  | with_reducible refine g_if ?_
  | with_reducible refine g_un ?_
  | with_reducible refine g_neg ?_
  | with_reducible refine g_addI ?_
  | with_reducible refine g_subI ?_
  | with_reducible refine g_subB ?_
  | with_reducible refine g_I0 ?_
  | with_reducible refine g_cmpI ?_
  | with_reducible refine g_eqI ?_
  | with_reducible refine g_neI ?_
  | with_reducible refine g_eqS ?_
  | with_reducible refine g_neS ?_
  | with_reducible refine g_eqB ?_
  | with_reducible refine g_neB ?_
  | with_reducible refine g_bits ?_
  | with_reducible refine g_bitsI ?_
  | with_reducible refine g_fld ?_
  | with_reducible refine g_tup ?_
  | with_reducible refine g_lst ?_
  | with_reducible refine g_gtup ?_
  | with_reducible refine g_make ?_
  | with_reducible refine g_lc ?_
  | with_reducible refine g_yesT ?_
  | with_reducible refine g_intI ?_
  | with_reducible refine g_intB ?_
  | with_reducible refine g_max2 ?_
  | with_reducible refine g_abs1 ?_
  | with_reducible refine g_for ?_
  | with_reducible refine g_iList ?_
  | with_reducible refine g_iTup ?_
  | with_reducible refine g_iRng1 ?_
  | with_reducible refine g_iEnum ?_
  | with_reducible refine g_slice ?_
  | with_reducible refine g_po0 ?_
  | with_reducible refine g_po1 ?_
  | with_reducible refine g_gsub ?_
  | with_reducible refine g_par ?_
  | with_reducible refine g_par2 ?_
  | with_reducible refine g_rfl ?_
  | with_reducible refine g_meth ?_
  | with_reducible refine g_gcons ?_
  | with_reducible refine g_gnil ?_
  | with_reducible refine g_gfld ?_
  | with_reducible refine g_sfld ?_
  | with_reducible refine g_drop ?_
  | with_reducible refine g_next ?_
  | with_reducible refine iteT ?_
  | with_reducible refine iteF ?_)
local macro_rules | `(tactic| walk_at "go") => `(tactic| (repeat walk_at "u"))
local macro_rules | `(tactic| walk_at "f") => `(tactic| (repeat (first
  | walk_at "u"
  | with_reducible refine g_chain ?_
  | with_reducible refine g_par3 ?_
  | with_reducible refine g_par3' ?_
  | ((with_reducible refine show_ex ?_); first
    | refine fT (by assumption) (by assumption) ?_
    | refine fS (by assumption) (by assumption) ?_
    | refine fP (by assumption) (by assumption) ?_))))

section
variable {P : Program} {w : World} {K : PySem.W.Frag} {mg : Str → Option Value} {base : Heap} {C CT CP : Addr}
abbrev CLisn (P : Program) (w : World) (K : PySem.W.Frag) (mg : Str → Option Value) (base : Heap) (C : Addr) : Prop := Fn P w K mg base CX0 1 "_law_is_number" ["_law_thing"] [] (sp_Lisnumber C)
/-! _law_due_of_ints -/
abbrev s_Ldueofints : Stmt := top 52
theorem sc_Ldueofints : FnScope ["_law_start", "_law_limit", "_law_step", "_law_found", "_law_value"] ["_law_start", "_law_limit", "_law_step"] (defScope s_Ldueofints) := ⟨rfl, rfl, rfl, by decide +kernel, rfl, by decide +kernel, by decide +kernel⟩
def sp_Ldueofints (C : Addr) : Sp := fun vs H Q _ => ∃ (k j : Int) (u : V) (l : Th), vs = [.int k, u, .int j] ∧ nIn (.i k) ∧ nIn (.i j) ∧ ThAt C H u l ∧ OutR C (dueW k j l) H Q
theorem ok_Ldueofints {f : Addr} {fd : FuncData} (F : FunD K "_law_due_of_ints" "_law_due_of_ints" (defArgs s_Ldueofints) (defBody s_Ldueofints) (defScope s_Ldueofints) [] [] f fd) (B : Blt mg) (c_compare : CCmp P w K mg base C) (c_Lisnumber : CLisn P w K mg base C) : FnOk P w K mg base CX0 5 f fd ["_law_start", "_law_limit", "_law_step"] (sp_Ldueofints C) := by
  refine F.ok sc_Ldueofints (fun vs H Q E h => ?_) (fun cdv A outer s H vs Q E hr h => ?_)
  · obtain ⟨_, _, _, _, rfl, _⟩ := h; rfl
  · obtain ⟨k, j, u, l, rfl, hk, hj, hl, q⟩ := h
    refine ⟨_, PSs.nox (pss_cons (ps_if (pt_cmpR (op_oEq hr.units) (pv 2) pe_int (nomark _)) (pss_one (ps_ret pe_str)) pss_nil)
  (pss_cons (ps_if (pt_not (pt_val (pe_fn c_Lisnumber (hr.mono (by decide)) pass0 (pa_cons (pv 1) pa_nil)))) (pss_one (ps_ret pe_str)) pss_nil)
  (pss_cons (ps_par (i := 3) (j := 4) rfl sc_Ldueofints.nd rfl rfl (by decide) rfl rfl (pa_cons (pe_lstN pa_nil) (pa_cons (pv 0) pa_nil)) (by rfl))
  (pss_cons (ps_while PassesOwn.never (pt_cut (PW.pt (pw_and (pt_cmpR op_oLt (pe_callB call_len_seq (by rfl) B.len (by decide +kernel) (pa_cons (pv 3) pa_nil)) pe_int (nomark _)) (pw_and1 (pt_chain op_oLe op_oLt (pe_un un_neg (pe_op op_oShl pe_int pe_int)) (pv 4) (pe_op op_oShl pe_int pe_int))))))
    (pss_cons (ps_if (pt_cut (pt_not (pt_ifExp (pt_cmpR op_oGt (pv 2) pe_int (nomark _)) (pt_val (pe_fn c_compare (hr.mono (by decide)) pass0 (pa_cons pe_str (pa_cons (pv 4) (pa_cons (pv 1) pa_nil))))) (pt_val (pe_fn c_compare (hr.mono (by decide)) pass0 (pa_cons pe_str (pa_cons (pv 1) (pa_cons (pv 4) pa_nil)))))))) (pss_one (ps_ret (pv 3))) pss_nil)
  (pss_cons (ps_expr (pe_bm PySem.F.plainAttrs_list PySem.F.slot_list_append PySem.F.type_list_append mt_append (pv 3) (pa_cons (pv 4) pa_nil)))
  (pss_one (ps_set (i := 4) sc_Ldueofints.nd rfl (Or.inl rfl) (pe_op op_oAdd (pv 4) (pv 2)))))))
  (pss_one (ps_ret (pv 3))))))), ?_⟩
    walk_at "f"
    refine g_ite (fun h0 => ?_) fun h0 => ?_
    · rw [show dueW k j l = .err zeroT from if_pos h0] at q
      walk_at "f"
      exact q _ (Same.refl _)
    · walk_at "f"
      refine ⟨u, l, rfl, hl, ?_⟩
      walk_at "f"
      cases l with
      | oth o =>
        rw [show dueW k j (.oth o) = .err limT from if_neg h0] at q
        refine iteT ?_
        walk_at "f"
        exact q _ (Same.refl _)
      | num L =>
        obtain ⟨hL, iL⟩ := hl
        have oL := iL.ok
        rw [show dueW k j (.num L) = .lst (dueI 12 k j L) from if_neg h0] at q
        generalize ht : dueI 12 k j L = tot at *
        refine iteF ?_
        walk_at "f"
        refine g_new (sz rfl) fun pf H2 n2 s2 h2 _ => ?_
        walk_at "f"
        refine g_while (fun m σ' H' => ∃ (v : Int) (vs : List V) (done : List Nm), m = 12 - vs.length ∧ σ' = [some (.int k), some u, some (.int j), some (.ref pf), some (.int v)] ∧ Same H H' ∧ H' pf = some (.lst vs) ∧ NumsAt C H' vs done ∧ vs.length ≤ 12 ∧ tot = done ++ dueI (12 - vs.length) v j L) 12
          ⟨k, [], [], rfl, rfl, s2, h2, trivial, by decide, ht.symm⟩ ?_
        rintro m _ H3 ⟨v, vs, done, rfl, rfl, s3, h3, hnums, hlen, etot⟩
        have fin : dueI (12 - vs.length) v j L = [] → Q (.ref pf) H3 := fun e => q H3 pf vs s3 n2 h3 (by rw [etot, e, List.append_nil]; exact hnums)
        walk_at "f"
        refine g_cutT (fun c H' => c = decide (vs.length < 12 ∧ inR v) ∧ H3 = H') ?_ ?_
        · walk_at "f"
          refine g_lenL h3 ?_
          walk_at "f"
          refine g_ite (fun hl => ?_) fun hl => ?_
          · walk_at "f"
            refine g_II (shl1 (by decide) (by decide)) ?_
            rw [e63]
            walk_at "f"
            with_reducible refine g_ite (fun h5 => ?_) fun h5 => ?_
            · walk_at "f"
              refine g_II (shl1 (by decide) (by decide)) ?_
              rw [e63]
              walk_at "f"
              refine ⟨?_, rfl⟩
              unfold inR
              by_cases h6 : v < 9223372036854775808
              · rw [decide_eq_true h6, decide_eq_true ⟨by omega, h5, h6⟩]
              · rw [decide_eq_false h6, decide_eq_false (fun z => h6 z.2.2)]
            · walk_at "f"
              exact ⟨(decide_eq_false (fun z => h5 z.2.1)).symm, rfl⟩
          · exact ⟨(decide_eq_false (fun z => hl (by have := z.1; omega))).symm, rfl⟩
        · rintro _ _ ⟨rfl, rfl⟩
          refine g_ite (fun hc => ?_) fun hc => ?_
          · obtain ⟨hlt, hv⟩ := hc
            have ov : nOk (.i v) := big64 (by have := hv.1; omega) (by have := hv.2; omega)
            obtain ⟨r, hr12⟩ : ∃ r, 12 - vs.length = r + 1 := ⟨12 - vs.length - 1, by omega⟩
            refine g_wbody ?_
            walk_at "f"
            refine g_cutT (fun c H' => c = (!leJ j v L) ∧ Same H3 H') ?_ ?_
            · walk_at "f"
              refine g_ifT ?_
              walk_at "f"
              unfold leJ
              refine g_ite (fun hj0 => ?_) fun hj0 => ?_
              · rw [if_pos hj0]
                walk_at "f"
                refine g_cmpN (n := .i v) rfl (hL.same s3) ov oL fun H4 s4 => ?_
                walk_at "f"
                exact ⟨rfl, s4⟩
              · rw [if_neg hj0]
                walk_at "f"
                refine g_cmpN (m := .i v) (hL.same s3) rfl oL ov fun H4 s4 => ?_
                walk_at "f"
                exact ⟨rfl, s4⟩
            · rintro _ H4 ⟨rfl, s4⟩
              refine g_iteb (fun h5 => ?_) fun h5 => ?_
              · have h5 : leJ j v L = false := by simpa using h5
                walk_at "f"
                refine q H4 pf vs (s3.trans s4) n2 (s4 _ _ h3) ?_
                rw [etot, due_nil _ (fun z => by rw [h5] at z; cases z.2), List.append_nil]
                exact hnums.same s4
              · have h5 : leJ j v L = true := by simpa using h5
                have h4 := s4 _ _ h3
                walk_at "f"
                refine g_bm ?_
                walk_at "f"
                refine ⟨tyL h4, ?_⟩
                walk_at "f"
                refine g_app h4 (Nat.lt_of_lt_of_le hlt (by decide)) fun H5 h5' k5 => ?_
                have np : ∀ dx fs, H4 pf ≠ some (.ins C dx fs) := fun _ _ z => by rw [h4] at z; cases z
                have st5 : ∀ b o, b ≠ pf → H4 b = some o → H5 b = some o := fun b o hb e => (k5 b hb).trans e
                have s5 : Same H H5 := fun b o e => st5 b o (fun z => by rw [z, n2] at e; cases e) (s4 _ _ (s3 _ _ e))
                have hn5 := ((hnums.same s4).imp fun _ _ z => z.stay np st5).snoc (v := .int v) (n := .i v) rfl ov
                have elen : (vs ++ [V.int v]).length = vs.length + 1 := by simp
                walk_at "f"
                refine ⟨_, ?_, v + j, vs ++ [.int v], done ++ [.i v], rfl, rfl, s5, h5', hn5, by rw [elen]; omega, ?_⟩
                · rw [elen]; omega
                · rw [show 12 - (vs ++ [V.int v]).length = r by rw [elen]; omega, etot, hr12, show dueI (r + 1) v j L = .i v :: dueI r (v + j) j L from if_pos ⟨hv, h5⟩]
                  simp
          · walk_at "f"
            refine fin ?_
            by_cases hl : vs.length < 12
            · exact due_nil _ fun z => hc ⟨hl, z.1⟩
            · rw [show 12 - vs.length = 0 by omega]
              rfl
/-! _law_due -/
abbrev s_Ldue : Stmt := top 53
theorem sc_Ldue : FnScope ["_law_start", "_law_limit", "_law_step", "_law_word", "_law_thing", "_law_value", "_law_last", "_law_gap", "_law_found"] ["_law_start", "_law_limit", "_law_step"] (defScope s_Ldue) := ⟨rfl, rfl, rfl, by decide +kernel, rfl, by decide +kernel, by decide +kernel⟩
theorem g_nin3 {K : PySem.W.Frag} {H : Hp} {Q : VK} {x a b c : V} {p : Addr} (hp : H p = some (.tup [a, b, c])) (hx : IS x) (ha : IS a) (hb : IS b) (hc : IS c) (q : Q (.bl (!decide (a = x ∨ b = x ∨ c = x))) H) : rIn K true x (.ref p) H Q :=
  ⟨p, _, rfl, .inr (SqT.of hp), hx.flat, by simp [ha.flat, hb.flat, hc.flat], by rw [hx.in3 ha hb hc]; exact q⟩
def sp_Ldue (C : Addr) : Sp := fun vs H Q _ => ∃ (v u t : V) (a b c : Th), vs = [v, u, t] ∧ ThAt C H v a ∧ ThAt C H u b ∧ ThAt C H t c ∧ OutR C (dueO a b c) H Q
theorem OutR.later {o : Out} {H H1 : Hp} {Q : VK} (q : OutR C o H Q) (s : Same H H1) : OutR C o H1 Q := by
  cases o with
  | err x => exact fun H' s' => q H' (s.trans s')
  | lst ns => exact fun H' p vs s' n => q H' p vs (s.trans s') (s.free n)
theorem ThAt.noB {H : Hp} {v : V} {a : Th} (h : ThAt C H v a) (hn : isNT a = true) : isB v = false := by
  cases a with
  | oth _ => cases hn
  | num m =>
    cases m with
    | i k =>
      have h : v = .int k := h.1
      subst h
      rfl
    | f s t p =>
      obtain ⟨a, rfl, _⟩ := h.1
      rfl
theorem due_flt {s l t : Th} (h : (isIT s && isIT t) = false) : dueO s l t = dueFl s l t := by
  cases s with
  | oth v => rfl
  | num n =>
    cases n with
    | f _ _ _ => rfl
    | i k =>
      cases t with
      | oth v => rfl
      | num m =>
        cases m with
        | f _ _ _ => rfl
        | i j => cases h
theorem isIT_NT {t : Th} (h : isNT t = false) : isIT t = false := by
  cases t with
  | oth _ => rfl
  | num _ => cases h
theorem ok_Ldue {f : Addr} {fd : FuncData} (F : FunD K "_law_due" "_law_due" (defArgs s_Ldue) (defBody s_Ldue) (defScope s_Ldue) [] [] f fd) (B : Blt mg) (T : FlC K mg C) (c_compare : CCmp P w K mg base C) (c_arith : CAr4 P w K mg base C) (c_tofloat : Fn P w K mg base CX0 6 "to_float" ["number"] [] (sp_tofloat C)) (c_Lisnumber : CLisn P w K mg base C) (c_Ldueofints : Fn P w K mg base CX0 5 "_law_due_of_ints" ["_law_start", "_law_limit", "_law_step"] [] (sp_Ldueofints C)) : FnOk P w K mg base CX0 9 f fd ["_law_start", "_law_limit", "_law_step"] (sp_Ldue C) := by
  refine F.ok sc_Ldue (fun vs H Q E h => ?_) (fun cdv A outer s H vs Q E hr h => ?_)
  · obtain ⟨_, _, _, _, _, _, rfl, _⟩ := h; rfl
  · obtain ⟨v, u, t, a, b, c, rfl, ha, hb, hc, q⟩ := h
    obtain ⟨t1, b1, k1, e1, i1⟩ := ha.kf T
    obtain ⟨t3, b3, k3, e3, i3⟩ := hc.kf T
    refine ⟨_, PSs.nox (pss_cons (ps_if (pt_cut (PW.pt (pw_and (pt_val (pe_fn c_Lisnumber (hr.mono (by decide)) pass0 (pa_cons (pv 0) pa_nil))) (pw_and (pt_val (pe_fn c_Lisnumber (hr.mono (by decide)) pass0 (pa_cons (pv 2) pa_nil))) (pw_and (pt_val (pe_callB call_isi (by rfl) B.isinstance (by decide +kernel) (pa_cons (pv 0) (pa_cons (pe_tyInt B) pa_nil)))) (pw_and1 (pt_val (pe_callB call_isi (by rfl) B.isinstance (by decide +kernel) (pa_cons (pv 2) (pa_cons (pe_tyInt B) pa_nil)))))))))) (pss_one (ps_ret (pe_fn c_Ldueofints (hr.mono (by decide)) pass0 (pa_cons (pv 0) (pa_cons (pv 1) (pa_cons (pv 2) pa_nil)))))) pss_nil)
  (pss_cons (ps_for PassesOwn.never rfl (pi_list (pe_lstN (pa_cons (pe_tupN (pa_cons pe_str (pa_cons (pv 1) pa_nil))) (pa_cons (pe_tupN (pa_cons pe_str (pa_cons (pv 2) pa_nil))) (pa_cons (pe_tupN (pa_cons pe_str (pa_cons (pv 0) pa_nil))) pa_nil))))) (pg_tup rfl (pgs_cons (pg_name (i := 3) sc_Ldue.nd rfl (Or.inl rfl)) (pgs_cons (pg_name (i := 4) sc_Ldue.nd rfl (Or.inl rfl)) pgs_nil)))
    (pss_one (ps_if (pt_not (pt_val (pe_fn c_Lisnumber (hr.mono (by decide)) pass0 (pa_cons (pv 4) pa_nil)))) (pss_one (ps_ret (pe_op op_oAdd (pe_op op_oAdd pe_str (pv 3)) pe_str))) pss_nil)))
  (pss_cons (ps_par3 (i := 5) (j := 6) (l := 7) rfl sc_Ldue.nd rfl rfl rfl (by decide) (by decide) (by decide) rfl rfl rfl (pa_cons (pe_fn c_tofloat (hr.mono (by decide)) pass0 (pa_cons (pv 0) pa_nil)) (pa_cons (pe_fn c_tofloat (hr.mono (by decide)) pass0 (pa_cons (pv 1) pa_nil)) (pa_cons (pe_fn c_tofloat (hr.mono (by decide)) pass0 (pa_cons (pv 2) pa_nil)) pa_nil))) (by rfl))
  (pss_cons (ps_if (pt_cmpR (op_oEq hr.units) (pe_fld (pv 7) rfl) pe_int (nomark _)) (pss_one (ps_ret pe_str)) pss_nil)
  (pss_cons (ps_set (i := 8) sc_Ldue.nd rfl (Or.inl rfl) (pe_lstN pa_nil))
  (pss_cons (ps_while PassesOwn.never (pt_cut (PW.pt (pw_and (pt_cmpR op_oLt (pe_callB call_len_seq (by rfl) B.len (by decide +kernel) (pa_cons (pv 8) pa_nil)) pe_int (nomark _)) (pw_and1 (pt_cmpR op_notIn_seq pe_str (pe_tupN (pa_cons (pe_fld (pv 5) rfl) (pa_cons (pe_fld (pv 6) rfl) (pa_cons (pe_fld (pv 7) rfl) pa_nil)))) (by rfl))))))
    (pss_cons (ps_if (pt_cut (pt_not (pt_ifExp (pt_cmpR op_oGt (pe_fld (pv 7) rfl) pe_int (nomark _)) (pt_val (pe_fn c_compare (hr.mono (by decide)) pass0 (pa_cons pe_str (pa_cons (pv 5) (pa_cons (pv 6) pa_nil))))) (pt_val (pe_fn c_compare (hr.mono (by decide)) pass0 (pa_cons pe_str (pa_cons (pv 6) (pa_cons (pv 5) pa_nil)))))))) (pss_one (ps_ret (pv 8))) pss_nil)
  (pss_cons (ps_expr (pe_bm PySem.F.plainAttrs_list PySem.F.slot_list_append PySem.F.type_list_append mt_append (pv 8) (pa_cons (pv 5) pa_nil)))
  (pss_one (ps_set (i := 5) sc_Ldue.nd rfl (Or.inl rfl) (pe_fn c_arith (hr.mono (by decide)) pass0 (pa_cons pe_str (pa_cons (pv 5) (pa_cons (pv 7) pa_nil)))))))))
  (pss_one (ps_ret (pv 8))))))))), ?_⟩
    walk_at "f"
    refine g_cutT (fun x H' => x = (isIT a && isIT c) ∧ H = H') ?_ ?_
    · walk_at "f"
      refine ⟨v, a, rfl, ha, ?_⟩
      walk_at "f"
      refine g_iteb (fun n1 => ?_) fun n1 => ?_
      · walk_at "f"
        refine ⟨t, c, rfl, hc, ?_⟩
        walk_at "f"
        refine g_iteb (fun n3 => ?_) fun n3 => ?_
        · walk_at "f"
          refine g_isiInt k1.kn ?_
          rw [i1, ha.noB n1, Bool.or_false]
          walk_at "f"
          refine g_iteb (fun z1 => ?_) fun z1 => ?_
          · walk_at "f"
            refine g_isiInt k3.kn ?_
            rw [i3, hc.noB n3, Bool.or_false]
            walk_at "f"
            exact ⟨by rw [z1]; rfl, rfl⟩
          · exact ⟨by rw [z1]; rfl, rfl⟩
        · exact ⟨by rw [isIT_NT n3, Bool.and_false], rfl⟩
      · exact ⟨by rw [isIT_NT n1]; rfl, rfl⟩
    · rintro _ _ ⟨rfl, rfl⟩
      refine g_iteb (fun h1 => ?_) fun h1 => ?_
      · obtain ⟨k, j, rfl, rfl⟩ := forR_int h1
        obtain ⟨hv, hk⟩ := ha
        obtain ⟨ht, hj⟩ := hc
        have hv : v = .int k := hv
        have ht : t = .int j := ht
        subst hv ht
        walk_at "f"
        exact ⟨k, j, u, b, rfl, hk, hj, hb, q⟩
      · rw [due_flt h1] at q
        unfold dueFl at q
        walk_at "f"
        refine g_new (sz rfl) fun p1 H1 n1 s1 h1' _ => ?_
        walk_at "f"
        refine g_new (sz rfl) fun p2 H2 n2 s2 h2 _ => ?_
        walk_at "f"
        refine g_new (sz rfl) fun p3 H3 n3 s3 h3 _ => ?_
        walk_at "f"
        refine g_new (sz rfl) fun p4 H4 n4 s4 h4 _ => ?_
        have h1' := s4 _ _ (s3 _ _ (s2 _ _ h1'))
        have h2 := s4 _ _ (s3 _ _ h2)
        have h3 := s4 _ _ h3
        have S4 := ((s1.trans s2).trans s3).trans s4
        refine ⟨p4, rfl, ⟨_, SqL.of h4⟩, ?_⟩
        refine for_list (K := K) (a := p4) (xs := [.ref p1, .ref p2, .ref p3]) (fun i σ' H' => ∃ e3 e4, σ' = [some v, some u, some t, e3, e4, none, none, none, none] ∧ Same H4 H' ∧ (0 < i → isNT b = true) ∧ (1 < i → isNT c = true) ∧ (2 < i → isNT a = true)) ⟨_, _, rfl, Same.refl _, fun z => absurd z (by decide), fun z => absurd z (by decide), fun z => absurd z (by decide)⟩ ?_ ?_ ?_
        · rintro i _ H' _ ⟨_, _, _, sH, _⟩
          exact SqL.of (sH _ _ h4)
        · rintro i z _ H5 hz ⟨e3, e4, rfl, s5, g0, g1, g2⟩
          have S5 := S4.trans s5
          obtain ⟨wd, x, th, p, rfl, hp, hx, hw, hno, hyes⟩ : ∃ (wd : Str) (x : V) (th : Th) (p : Addr), z = .ref p ∧ H5 p = some (.tup [.str wd, x]) ∧ ThAt C H5 x th ∧ (wd = "limit" ∨ wd = "step" ∨ wd = "initial value") ∧ (isNT th = false → OutR C (.err (wordT wd)) H Q) ∧
              (isNT th = true → (0 < i + 1 → isNT b = true) ∧ (1 < i + 1 → isNT c = true) ∧ (2 < i + 1 → isNT a = true)) := by
            match i, hz with
            | 0, hz =>
              cases hz
              exact ⟨_, u, b, p1, rfl, s5 _ _ h1', hb.same S5, .inl rfl, fun e => by rw [if_pos e] at q; exact q, fun e => ⟨fun _ => e, fun z => absurd z (by decide), fun z => absurd z (by decide)⟩⟩
            | 1, hz =>
              cases hz
              have eb := g0 (by decide)
              exact ⟨_, t, c, p2, rfl, s5 _ _ h2, hc.same S5, .inr (.inl rfl), fun e => by rw [if_neg (by rw [eb]; decide), if_pos e] at q; exact q, fun e => ⟨fun _ => eb, fun _ => e, fun z => absurd z (by decide)⟩⟩
            | 2, hz =>
              cases hz
              have eb := g0 (by decide)
              have ec := g1 (by decide)
              exact ⟨_, v, a, p3, rfl, s5 _ _ h3, ha.same S5, .inr (.inr rfl), fun e => by rw [if_neg (by rw [eb]; decide), if_neg (by rw [ec]; decide), if_pos e] at q; exact q, fun e => ⟨fun _ => eb, fun _ => ec, fun _ => e⟩⟩
            | n + 3, hz => cases hz
          walk_at "f"
          refine ⟨p, _, rfl, SqT.of hp, rfl, ?_⟩
          walk_at "f"
          refine ⟨x, th, rfl, hx, ?_⟩
          walk_at "f"
          refine g_iteb (fun h6 => ?_) fun h6 => ?_
          · have h6 : isNT th = false := by simpa using h6
            have q := hno h6
            walk_at "f"
            rcases hw with rfl | rfl | rfl
            · refine g_addS (sz rfl) ?_
              walk_at "f"
              refine g_addS (sz rfl) ?_
              exact q _ S5
            · refine g_addS (sz rfl) ?_
              walk_at "f"
              refine g_addS (sz rfl) ?_
              exact q _ S5
            · refine g_addS (sz rfl) ?_
              walk_at "f"
              refine g_addS (sz rfl) ?_
              exact q _ S5
          · have h6 : isNT th = true := by simpa using h6
            walk_at "f"
            exact ⟨_, _, rfl, s5, hyes h6⟩
        · rintro _ H5 ⟨o3, o4, rfl, s5, g0, g1, g2⟩
          have eb : isNT b = true := g0 (by simp)
          have ec : isNT c = true := g1 (by simp)
          have ea : isNT a = true := g2 (by simp)
          rw [if_neg (by rw [eb]; decide), if_neg (by rw [ec]; decide), if_neg (by rw [ea]; decide)] at q
          obtain ⟨na, rfl⟩ := isNT_num ea
          obtain ⟨nb, rfl⟩ := isNT_num eb
          obtain ⟨nc, rfl⟩ := isNT_num ec
          have S5 := S4.trans s5
          have q := q.later S5
          obtain ⟨ha, ia⟩ := ha.same S5
          obtain ⟨hb, ib⟩ := hb.same S5
          obtain ⟨hc, ic⟩ := hc.same S5
          walk_at "f"
          refine g_tofl ha ia.big fun H6 v6 s6 f6 => ?_
          walk_at "f"
          refine g_tofl (hb.same s6) ib.big fun H7 v7 s7 f7 => ?_
          walk_at "f"
          refine g_tofl ((hc.same s6).same s7) ic.big fun H8 v8 s8 f8 => ?_
          have f6 := (f6.same s7).same s8
          have f7 := f7.same s8
          have oa : (tL (.num na)).ok := ha.tok
          have ob : (tL (.num nb)).ok := hb.tok
          have oc : (tL (.num nc)).ok := hc.tok
          have q := q.later ((s6.trans s7).trans s8)
          have f6 : FA C H8 v6 (tL (.num na)) := f6
          have f7 : FA C H8 v7 (tL (.num nb)) := f7
          have f8 : FA C H8 v8 (tL (.num nc)) := f8
          generalize tL (.num na) = x at *
          generalize tL (.num nb) = y at *
          generalize tL (.num nc) = z at *
          obtain ⟨a7, rfl, j7⟩ := id f7
          obtain ⟨a8, rfl, j8⟩ := id f8
          walk_at "f"
          refine g_eqV (oc.is.scal (.int _)) ?_
          walk_at "f"
          refine g_ite (fun h7 => ?_) fun h7 => ?_
          · rw [if_pos h7] at q
            walk_at "f"
            exact q _ (Same.refl _)
          · rw [if_neg h7] at q
            generalize ht : dueF 12 x z y = tot at *
            walk_at "f"
            refine g_new (sz rfl) fun pf H9 n9 s9 h9 _ => ?_
            walk_at "f"
            refine g_while (fun m σ' H' => ∃ (xv : V) (xx : FL) (vs : List V) (done : List Nm), m = 12 - vs.length ∧ σ' = [some v, some u, some t, o3, o4, some xv, some (.ref a7), some (.ref a8), some (.ref pf)] ∧ Same H8 H' ∧ H' pf = some (.lst vs) ∧ FA C H' xv xx ∧ xx.ok ∧ NumsAt C H' vs done ∧ vs.length ≤ 12 ∧ tot = done ++ dueF (12 - vs.length) xx z y) 12
              ⟨v6, x, [], [], rfl, rfl, s9, h9, f6.same s9, oa, trivial, by decide, ht.symm⟩ ?_
            rintro m _ H10 ⟨xv, xx, vs, done, rfl, rfl, s10, h10, fx, ox, hnums, hlen, etot⟩
            have j7 := j7.same s10
            have j8 := j8.same s10
            have f7 := f7.same s10
            have f8 := f8.same s10
            obtain ⟨ax, rfl, jx⟩ := id fx
            walk_at "f"
            refine g_cutT (fun k H' => k = decide (vs.length < 12 ∧ ¬ (xx.t = .str "nan" ∨ y.t = .str "nan" ∨ z.t = .str "nan")) ∧ Same H10 H') ?_ ?_
            · walk_at "f"
              refine g_lenL h10 ?_
              walk_at "f"
              refine g_ite (fun hl => ?_) fun hl => ?_
              · walk_at "f"
                refine g_new (sz rfl) fun p11 H11 n11 s11 h11 _ => ?_
                refine g_nin3 h11 (.str _) ox.is ob.is oc.is ?_
                walk_at "f"
                refine ⟨?_, s11⟩
                by_cases h12 : xx.t = .str "nan" ∨ y.t = .str "nan" ∨ z.t = .str "nan"
                · rw [decide_eq_true h12, decide_eq_false (fun e => e.2 h12)]; rfl
                · rw [decide_eq_false h12, decide_eq_true ⟨by omega, h12⟩]; rfl
              · exact ⟨(decide_eq_false (fun e => hl (by have := e.1; omega))).symm, Same.refl _⟩
            · rintro _ H11 ⟨rfl, s11⟩
              have h11 := s11 _ _ h10
              have fx := fx.same s11
              have f7 := f7.same s11
              have f8 := f8.same s11
              have jx := jx.same s11
              have j7 := j7.same s11
              have j8 := j8.same s11
              have hnums := hnums.same s11
              have S11 := s10.trans s11
              refine g_ite (fun hcnd => ?_) fun hcnd => ?_
              · obtain ⟨hlt, hnn⟩ := hcnd
                obtain ⟨r, hr12⟩ : ∃ r, 12 - vs.length = r + 1 := ⟨12 - vs.length - 1, by omega⟩
                refine g_wbody ?_
                walk_at "f"
                refine g_cutT (fun k H' => k = (!leF z xx y) ∧ Same H11 H') ?_ ?_
                · walk_at "f"
                  refine g_ifT ?_
                  walk_at "f"
                  unfold leF
                  refine g_ite (fun hj0 => ?_) fun hj0 => ?_
                  · rw [if_pos hj0]
                    walk_at "f"
                    refine g_cmpN (fx.num ox) (f7.num ob) ox ob fun H12 s12 => ?_
                    walk_at "f"
                    exact ⟨rfl, s12⟩
                  · rw [if_neg hj0]
                    walk_at "f"
                    refine g_cmpN (f7.num ob) (fx.num ox) ob ox fun H12 s12 => ?_
                    walk_at "f"
                    exact ⟨rfl, s12⟩
                · rintro _ H12 ⟨rfl, s12⟩
                  have h12 := s12 _ _ h11
                  refine g_iteb (fun h5 => ?_) fun h5 => ?_
                  · have h5 : leF z xx y = false := by simpa using h5
                    walk_at "f"
                    refine q H12 pf vs (S11.trans s12) n9 h12 ?_
                    rw [etot, hr12, show dueF (r + 1) xx z y = [] from if_neg (fun e => by rw [h5] at e; cases e.2), List.append_nil]
                    exact hnums.same s12
                  · have h5 : leF z xx y = true := by simpa using h5
                    walk_at "f"
                    refine g_bm ?_
                    walk_at "f"
                    refine ⟨tyL h12, ?_⟩
                    walk_at "f"
                    refine g_app h12 (Nat.lt_of_lt_of_le hlt (by decide)) fun H13 h13 k13 => ?_
                    have np : ∀ dx fs, H12 pf ≠ some (.ins C dx fs) := fun _ _ e => by rw [h12] at e; cases e
                    have st13 : ∀ b o, b ≠ pf → H12 b = some o → H13 b = some o := fun b o hb e => (k13 b hb).trans e
                    have fst : ∀ {v : V} {x : FL}, FA C H12 v x → FA C H13 v x := fun {v x} ⟨b, e, dx, h⟩ => ⟨b, e, dx, st13 _ _ (fun e2 => np _ _ (e2 ▸ h)) h⟩
                    have s13 : Same H8 H13 := fun b o e => st13 b o (fun e2 => by rw [e2, n9] at e; cases e) (s12 _ _ (S11 _ _ e))
                    have fx13 := fst (fx.same s12)
                    have f813 := fst (f8.same s12)
                    have hn13 := ((hnums.same s12).imp fun _ _ e => e.stay np st13).snoc (fx13.num ox) ox
                    walk_at "f"
                    refine g_addF fx13 f813 ox oc fun H14 v14 s14 f14 => ?_
                    have elen : (vs ++ [V.ref ax]).length = vs.length + 1 := by simp
                    walk_at "f"
                    refine ⟨_, ?_, v14, byL "add" xx z, vs ++ [.ref ax], done ++ [nmF xx], rfl, rfl, s13.trans s14, s14 _ _ h13, f14, addB_ok ox oc, hn13.same s14, by rw [elen]; omega, ?_⟩
                    · rw [elen]; omega
                    · rw [show 12 - (vs ++ [V.ref ax]).length = r by rw [elen]; omega, etot, hr12, show dueF (r + 1) xx z y = nmF xx :: dueF r (byL "add" xx z) z y from if_pos ⟨hnn, h5⟩]
                      simp
              · walk_at "f"
                refine q H11 pf vs S11 n9 h11 ?_
                have e : dueF (12 - vs.length) xx z y = [] := by
                  by_cases hl : vs.length < 12
                  · obtain ⟨r, hr12⟩ : ∃ r, 12 - vs.length = r + 1 := ⟨12 - vs.length - 1, by omega⟩
                    rw [hr12]
                    exact if_neg fun e => hcnd ⟨hl, e.1⟩
                  · rw [show 12 - vs.length = 0 by omega]
                    rfl
                rw [etot, e, List.append_nil]
                exact hnums
end
end Up

set_option Elab.async false
set_option linter.all false
set_option pp.maxSteps 600
set_option maxRecDepth 100000
set_option maxHeartbeats 4000000
set_option exponentiation.threshold 200000
namespace Up
open PySem PySem.Spec PyProof.Rows L2
local macro_rules | `(tactic| walk_at "u") => `(tactic| first
  | with_reducible refine g_seq ?_
  | with_reducible refine g_asg ?_
  | with_reducible refine g_op ?_
  | ((with_reducible show tVar _ _ _ _); apply g_var; exact rfl)
  | with_reducible refine g_c ?_
  | with_reducible refine g_name ?_
  | with_reducible refine g_ifs ?_
  | with_reducible refine g_tt ?_
  | with_reducible refine g_tB ?_
  | with_reducible refine g_bl ?_
  | with_reducible refine g_ret ?_
  | with_reducible refine g_cb ?_
  | with_reducible refine g_cons ?_
  | with_reducible refine g_nil ?_
  | with_reducible refine g_call ?_
  | with_reducible refine g_and ?_
  | with_reducible refine g_or ?_
  | with_reducible refine g_not ?_
  | with_reducible refine g_andV ?_
  | with_reducible refine g_orV ?_
  | with_reducible refine g_notV ?_
  | with_reducible refine g_if ?_
  | with_reducible refine g_un ?_
  | with_reducible refine g_neg ?_
  | with_reducible refine g_addI ?_
  | with_reducible refine g_subI ?_
  | with_reducible refine g_subB ?_
  | with_reducible refine g_I0 ?_
  | with_reducible refine g_cmpI ?_
  | with_reducible refine g_eqI ?_
  | with_reducible refine g_neI ?_
  | with_reducible refine g_eqS ?_
  | with_reducible refine g_neS ?_
  | with_reducible refine g_eqB ?_
  | with_reducible refine g_neB ?_
  | with_reducible refine g_bits ?_
  | with_reducible refine g_bitsI ?_
  | with_reducible refine g_fld ?_
  | with_reducible refine g_tup ?_
  | with_reducible refine g_lst ?_
  | with_reducible refine g_gtup ?_
  | with_reducible refine g_make ?_
  | with_reducible refine g_lc ?_
  | with_reducible refine g_yesT ?_
  | with_reducible refine g_intI ?_
  | with_reducible refine g_intB ?_
  | with_reducible refine g_max2 ?_
  | with_reducible refine g_abs1 ?_
  | with_reducible refine g_for ?_
  | with_reducible refine g_iList ?_
  | with_reducible refine g_iTup ?_
  | with_reducible refine g_iRng1 ?_
  | with_reducible refine g_iEnum ?_
  | with_reducible refine g_slice ?_
  | with_reducible refine g_po0 ?_
  | with_reducible refine g_po1 ?_
  | with_reducible refine g_gsub ?_
  | with_reducible refine g_par ?_
  | with_reducible refine g_par2 ?_
  | with_reducible refine g_rfl ?_
  | with_reducible refine g_meth ?_
  | with_reducible refine g_gcons ?_
  | with_reducible refine g_gnil ?_
  | with_reducible refine g_gfld ?_
  | with_reducible refine g_sfld ?_
  | with_reducible refine g_drop ?_
  | with_reducible refine g_next ?_
  | with_reducible refine iteT ?_
  | with_reducible refine iteF ?_)
local macro_rules | `(tactic| walk_at "go") => `(tactic| (repeat walk_at "u"))
local macro_rules | `(tactic| walk_at "f") => `(tactic| (repeat (first
  | walk_at "u"
  | with_reducible refine g_chain ?_
  | with_reducible refine g_par3 ?_
  | with_reducible refine g_par3' ?_
  | ((with_reducible refine show_ex ?_); first
    | refine fT (by assumption) (by assumption) ?_
    | refine fS (by assumption) (by assumption) ?_
    | refine fP (by assumption) (by assumption) ?_))))

section
variable {P : Program} {w : World} {K : PySem.W.Frag} {mg : Str → Option Value} {base : Heap} {C CT CP : Addr}
def OutV (C : Addr) (H : Hp) (v : V) : Out → Prop
  | .err x => v = .str x
  | .lst ns => ∃ p vs, v = .ref p ∧ H p = some (.lst vs) ∧ NumsAt C H vs ns
theorem OutV.same {H H' : Hp} {v : V} (s : Same H H') : ∀ {o : Out}, OutV C H v o → OutV C H' v o
  | .err _, h => h
  | .lst _, ⟨p, vs, e, h, n⟩ => ⟨p, vs, e, s _ _ h, n.same s⟩
theorem OutR.of {o : Out} {H : Hp} {Q : VK} (q : ∀ v H', Same H H' → OutV C H' v o → Q v H') : OutR C o H Q := by
  cases o with
  | err x => exact fun H' s => q _ _ s rfl
  | lst ns => exact fun H' p vs s n h1 h2 => q _ _ s ⟨p, vs, rfl, h1, h2⟩
/-! _law_is_alike -/
abbrev s_Lisalike : Stmt := top 54
theorem sc_Lisalike : FnScope ["_law_told", "_law_due_here", "_law_one_here", "_law_other"] ["_law_told", "_law_due_here"] (defScope s_Lisalike) := ⟨rfl, rfl, rfl, by decide +kernel, rfl, by decide +kernel, by decide +kernel⟩
def sp_Lisalike (C : Addr) : Sp := fun vs H Q _ => ∃ v u o, vs = [v, u] ∧ OutV C H v o ∧ OutV C H u o ∧ (∀ ns, o = .lst ns → ∀ n ∈ ns, ordN n n = some 0) ∧ ∀ H', Same H H' → Q (.bl true) H'
theorem ok_Lisalike {f : Addr} {fd : FuncData} (F : FunD K "_law_is_alike" "_law_is_alike" (defArgs s_Lisalike) (defBody s_Lisalike) (defScope s_Lisalike) [] [] f fd) (B : Blt mg) (T : FlC K mg C) (c_same : Fn P w K mg base CX0 4 "same" ["one", "other"] [] (sp_sameN C)) : FnOk P w K mg base CX0 5 f fd ["_law_told", "_law_due_here"] (sp_Lisalike C) := by
  have g_Float : mg "Float" = some (.ref C) := T.mg
  refine F.ok sc_Lisalike (fun vs H Q E h => ?_) (fun cdv A outer s H vs Q E hr h => ?_)
  · obtain ⟨_, _, _, rfl, _⟩ := h; rfl
  · obtain ⟨v, u, o, rfl, hv, hu, hself, q⟩ := h
    refine ⟨_, PSs.nox (pss_cons (ps_if (PW.pt (pw_or (pt_val (pe_callB call_isi (by rfl) B.isinstance (by decide +kernel) (pa_cons (pv 0) (pa_cons (pe_tyStr B) pa_nil)))) (pw_or1 (pt_val (pe_callB call_isi (by rfl) B.isinstance (by decide +kernel) (pa_cons (pv 1) (pa_cons (pe_tyStr B) pa_nil))))))) (pss_one (ps_ret (pe_and (pe_callB call_isi (by rfl) B.isinstance (by decide +kernel) (pa_cons (pv 0) (pa_cons (pe_tyStr B) pa_nil))) (pe_one (pe_cmpR (op_oEq hr.units) (pv 0) (pv 1) (nomark _)))))) pss_nil)
  (pss_cons (ps_if (pt_cmpR (op_oNe hr.units) (pe_callB call_len_seq (by rfl) B.len (by decide +kernel) (pa_cons (pv 0) pa_nil)) (pe_callB call_len_seq (by rfl) B.len (by decide +kernel) (pa_cons (pv 1) pa_nil)) (nomark _)) (pss_one (ps_ret pe_bl)) pss_nil)
  (pss_cons (ps_for PassesOwn.never rfl (pi_zip (by rfl) B.zip (pa_cons (pv 0) (pa_cons (pv 1) pa_nil))) (pg_tup rfl (pgs_cons (pg_name (i := 2) sc_Lisalike.nd rfl (Or.inl rfl)) (pgs_cons (pg_name (i := 3) sc_Lisalike.nd rfl (Or.inl rfl)) pgs_nil)))
    (pss_one (ps_if (pt_cut (PW.pt (pw_or (pt_cmpR (op_oNe hr.units) (pe_callB call_isi (by rfl) B.isinstance (by decide +kernel) (pa_cons (pv 2) (pa_cons (pe_gref g_Float) pa_nil))) (pe_callB call_isi (by rfl) B.isinstance (by decide +kernel) (pa_cons (pv 3) (pa_cons (pe_gref g_Float) pa_nil))) (nomark _)) (pw_or1 (pt_not (pt_val (pe_fn c_same (hr.mono (by decide)) pass0 (pa_cons (pv 2) (pa_cons (pv 3) pa_nil))))))))) (pss_one (ps_ret pe_bl)) pss_nil)))
  (pss_one (ps_ret pe_bl))))), ?_⟩
    cases o with
    | err x =>
      have hv : v = .str x := hv
      have hu : u = .str x := hu
      subst hv hu
      walk_at "f"
      refine g_isiStr kn_str ?_
      walk_at "f"
      refine iteT ?_
      walk_at "f"
      refine g_isiStr kn_str ?_
      walk_at "f"
      refine iteT ?_
      walk_at "f"
      rw [decide_eq_true rfl]
      exact q _ (Same.refl _)
    | lst ns =>
      obtain ⟨p1, vs1, rfl, h1, m1⟩ := hv
      obtain ⟨p2, vs2, rfl, h2, m2⟩ := hu
      have l1 := m1.len
      have l2 := m2.len
      walk_at "f"
      refine g_isiStr (kn_lst h1) ?_
      walk_at "f"
      refine iteF ?_
      walk_at "f"
      refine g_isiStr (kn_lst h2) ?_
      walk_at "f"
      refine iteF ?_
      walk_at "f"
      refine g_lenL h1 ?_
      walk_at "f"
      refine g_lenL h2 ?_
      walk_at "f"
      refine g_iten (fun z => absurd (by rw [l1, l2]) z) fun _ => ?_
      walk_at "f"
      refine ⟨_, rfl, _, rfl, p1, p2, _, _, rfl, SqL.of h1, SqL.of h2, ?_⟩
      refine RZ.for_zipL (K := K) (a := p1) (b := p2) (xs := vs1) (ys := vs2) (by rw [l1, l2]) (fun i σ' H' => ∃ e2 e3, σ' = [some (.ref p1), some (.ref p2), e2, e3] ∧ Same H H') ⟨_, _, rfl, Same.refl _⟩ ?_ ?_ ?_
      · rintro i _ H' ⟨_, _, _, sH⟩
        exact ⟨SqL.of (sH _ _ h1), SqL.of (sH _ _ h2)⟩
      · rintro i x y t _ H3 hx hy ⟨e2, e3, rfl, s3⟩ nt
        obtain ⟨n, en, mn, hn, on⟩ := m1.get hx
        obtain ⟨n', en', _, hn', _⟩ := m2.get hy
        have e : n' = n := by rw [en] at en'; injection en' with z; exact z.symm
        subst e
        have s4 : Same H3 (upd H3 t (.tup [x, y])) := fun b o e => by rw [upd_ne (ne_of_none e nt)]; exact e
        have S4 := s3.trans s4
        have hn := hn.same S4
        have hn' := hn'.same S4
        obtain ⟨t1, k1, _, _⟩ := hn.kf T
        obtain ⟨t2, k2, _, _⟩ := hn'.kf T
        have hself := hself ns rfl _ mn
        refine ⟨t, _, rfl, SqT.of upd_same, rfl, ?_⟩
        generalize upd H3 t (.tup [x, y]) = H4 at *
        walk_at "f"
        refine g_cutT (fun c H' => c = false ∧ Same H4 H') ?_ ?_
        · walk_at "f"
          refine g_isiF k1 ?_
          walk_at "f"
          refine g_isiF k2 ?_
          walk_at "f"
          refine g_iten (fun z => absurd rfl z) fun _ => ?_
          walk_at "f"
          refine ⟨_, _, _, _, rfl, hn, hn', on, on, fun H5 s5 => ?_⟩
          rw [decide_eq_true hself]
          walk_at "f"
          exact ⟨rfl, s5⟩
        · rintro _ H5 ⟨rfl, s5⟩
          walk_at "f"
          exact ⟨_, _, rfl, S4.trans s5⟩
      · rintro _ H3 ⟨e2, e3, rfl, s3⟩
        walk_at "f"
        exact q _ s3
/-! told and due, alike -/
abbrev CLsaid (P : Program) (w : World) (K : PySem.W.Frag) (mg : Str → Option Value) (base : Heap) (C : Addr) : Prop := Fn P w K mg base CX0 10 "_law_said" ["_law_start", "_law_limit", "_law_step"] [] (sp_Lsaid C)
abbrev CLdue (P : Program) (w : World) (K : PySem.W.Frag) (mg : Str → Option Value) (base : Heap) (C : Addr) : Prop := Fn P w K mg base CX0 9 "_law_due" ["_law_start", "_law_limit", "_law_step"] [] (sp_Ldue C)
abbrev CLalike (P : Program) (w : World) (K : PySem.W.Frag) (mg : Str → Option Value) (base : Heap) (C : Addr) : Prop := Fn P w K mg base CX0 5 "_law_is_alike" ["_law_told", "_law_due_here"] [] (sp_Lisalike C)
theorem g_said {H : Hp} {Q : VK} {E : XK} {v u t : V} {a b c : Th} (ha : ThAt C H v a) (hb : ThAt C H u b) (hc : ThAt C H t c) (q : ∀ x H', Same H H' → OutV C H' x (dueO a b c) → Q x H') : sp_Lsaid C ([v, u, t] ++ []) H Q E :=
  ⟨v, u, t, a, b, c, rfl, ha, hb, hc, by rw [told_due ha hb hc]; exact OutR.of q⟩
theorem g_due {H : Hp} {Q : VK} {E : XK} {v u t : V} {a b c : Th} (ha : ThAt C H v a) (hb : ThAt C H u b) (hc : ThAt C H t c) (q : ∀ x H', Same H H' → OutV C H' x (dueO a b c) → Q x H') : sp_Ldue C ([v, u, t] ++ []) H Q E :=
  ⟨v, u, t, a, b, c, rfl, ha, hb, hc, OutR.of q⟩
theorem g_alike {H : Hp} {Q : VK} {E : XK} {v u t x y : V} {a b c : Th} {H0 : Hp} (ha : ThAt C H0 v a) (hc : ThAt C H0 t c) (hx : OutV C H x (dueO a b c)) (hy : OutV C H y (dueO a b c)) (q : ∀ H', Same H H' → Q (.bl true) H') : sp_Lisalike C ([x, y] ++ []) H Q E :=
  ⟨x, y, _, rfl, hx, hy, fun ns e => due_self (tL_ok ha) (tL_ok hc) e, q⟩
/-! _law_count_right -/
abbrev s_Lcountright : Stmt := top 55
theorem sc_Lcountright : FnScope ["_law_well_here", "_law_many", "_law_step", "_law_start", "_law_limit", "_law_far"] ["_law_well_here"] (defScope s_Lcountright) := ⟨rfl, rfl, rfl, by decide +kernel, rfl, by decide +kernel, by decide +kernel⟩
def sp_Lcountright : Sp := fun vs H Q _ => ∃ (a : Addr), vs = [.ref a] ∧ Well H a ∧ ∀ H', Stp a H H' → Well H' a → Q (.bl true) H'
theorem e60 : (1 : Int) * 2 ^ Int.toNat 60 = 1152921504606846976 := by decide
theorem ok_Lcountright {f : Addr} {fd : FuncData} (F : FunD K "_law_count_right" "_law_count_right" (defArgs s_Lcountright) (defBody s_Lcountright) (defScope s_Lcountright) [] [] f fd) (B : Blt mg) (T : FlC K mg C) (c_Float : CnF P w K mg base C) (c_Ldraw : CDraw P w K mg base) (c_Lone : COne P w K mg base) (c_Lsaid : CLsaid P w K mg base C) (c_Ldue : CLdue P w K mg base C) (c_Lisalike : CLalike P w K mg base C) : FnOk P w K mg base CX0 11 f fd ["_law_well_here"] sp_Lcountright := by
  refine F.ok sc_Lcountright (fun vs H Q E h => ?_) (fun cdv A outer s H vs Q E hr h => ?_)
  · obtain ⟨a, rfl, _⟩ := h; rfl
  · obtain ⟨a, rfl, hw, q⟩ := h
    refine ⟨_, PSs.nox (pss_cons (ps_par (i := 1) (j := 2) rfl sc_Lcountright.nd rfl rfl (by decide) rfl rfl (pa_cons (pe_fn c_Ldraw (hr.mono (by decide)) pass0 (pa_cons (pv 0) (pa_cons pe_int pa_nil))) (pa_cons (pe_fn c_Lone (hr.mono (by decide)) pass0 (pa_cons (pv 0) (pa_cons (pe_lstN (pa_cons pe_int (pa_cons (pe_un un_neg pe_int) (pa_cons pe_int (pa_cons (pe_un un_neg pe_int) (pa_cons (pe_op op_oShl pe_int pe_int) (pa_cons (pe_un un_neg (pe_op op_oShl pe_int pe_int)) pa_nil))))))) pa_nil))) pa_nil)) (by rfl))
  (pss_cons (ps_set (i := 3) sc_Lcountright.nd rfl (Or.inl rfl) (pe_fn c_Lone (hr.mono (by decide)) pass0 (pa_cons (pv 0) (pa_cons (pe_lstN (pa_cons (pe_op op_oSub (pe_op op_oSub (pe_op op_oShl pe_int pe_int) pe_int) (pe_fn c_Ldraw (hr.mono (by decide)) pass0 (pa_cons (pv 0) (pa_cons pe_int pa_nil)))) (pa_cons (pe_op op_oAdd (pe_un un_neg (pe_op op_oShl pe_int pe_int)) (pe_fn c_Ldraw (hr.mono (by decide)) pass0 (pa_cons (pv 0) (pa_cons pe_int pa_nil)))) (pa_cons (pe_fn c_Ldraw (hr.mono (by decide)) pass0 (pa_cons (pv 0) (pa_cons pe_int pa_nil))) pa_nil)))) pa_nil))))
  (pss_cons (ps_set (i := 4) sc_Lcountright.nd rfl (Or.inl rfl) (pe_callB (call_min2 rfl) (by rfl) B.min (by decide +kernel) (pa_cons (pe_op op_oSub (pe_op op_oShl pe_int pe_int) pe_int) (pa_cons (pe_callB (call_max2 rfl) (by rfl) B.max (by decide +kernel) (pa_cons (pe_un un_neg (pe_op op_oShl pe_int pe_int)) (pa_cons (pe_op op_oAdd (pv 3) (pe_op op_oMul (pv 2) (pv 1))) pa_nil))) pa_nil))))
  (pss_cons (ps_set (i := 5) sc_Lcountright.nd rfl (Or.inl rfl) (pe_fn c_Lone (hr.mono (by decide)) pass0 (pa_cons (pv 0) (pa_cons (pe_lstN (pa_cons (pv 4) (pa_cons (pe_cut (pe_ifExp (pt_cmpR op_oGt (pv 2) pe_int (nomark _)) (pe_cn c_Float (hr.mono (by decide)) pass0 (pa_cons pe_int (pa_cons pe_str (pa_cons pe_int pa_nil)))) (pe_cn c_Float (hr.mono (by decide)) pass0 (pa_cons (pe_un un_neg pe_int) (pa_cons pe_str (pa_cons pe_int pa_nil)))))) (pa_cons (pv 4) pa_nil)))) pa_nil))))
  (pss_one (ps_ret (pe_fn c_Lisalike (hr.mono (by decide)) pass0 (pa_cons (pe_fn c_Lsaid (hr.mono (by decide)) pass0 (pa_cons (pv 3) (pa_cons (pv 5) (pa_cons (pv 2) pa_nil)))) (pa_cons (pe_fn c_Ldue (hr.mono (by decide)) pass0 (pa_cons (pv 3) (pa_cons (pv 5) (pa_cons (pv 2) pa_nil)))) pa_nil))))))))), ?_⟩
    walk_at "f"
    refine ⟨a, _, rfl, by decide, by decide, hw, fun many H1 m0 m1 s1 hw1 => ?_⟩
    walk_at "f"
    refine g_II (shl1 (by decide) (by decide)) ?_
    rw [e60]
    walk_at "f"
    refine g_II (shl1 (by decide) (by decide)) ?_
    rw [e60]
    walk_at "f"
    refine g_new (sz rfl) fun l2 H2 n2 s2 h2 _ => ?_
    refine ⟨a, l2, _, rfl, hw1.same s2, h2, hw1.ne_none n2, by decide, by decide, fun w1 H3 hv s3 hw3 => ?_⟩
    have S3 := (s1.trans (Stp.of s2)).trans s3
    obtain ⟨step, rfl, st1, st2⟩ : ∃ st, w1 = .int st ∧ -1152921504606846976 ≤ st ∧ st ≤ 1152921504606846976 := by
      simp only [List.mem_cons, List.not_mem_nil, or_false] at hv
      rcases hv with rfl | rfl | rfl | rfl | rfl | rfl <;> exact ⟨_, rfl, by decide, by decide⟩
    walk_at "f"
    refine g_II (shl1 (by decide) (by decide)) ?_
    rw [e63]
    walk_at "f"
    refine ⟨a, _, rfl, by decide, by decide, hw3, fun d4 H4 a4 b4 s4 hw4 => ?_⟩
    walk_at "f"
    refine g_II (shl1 (by decide) (by decide)) ?_
    rw [e63]
    walk_at "f"
    refine ⟨a, _, rfl, by decide, by decide, hw4, fun d5 H5 a5 b5 s5 hw5 => ?_⟩
    walk_at "f"
    refine ⟨a, _, rfl, by decide, by decide, hw5, fun d6 H6 a6 b6 s6 hw6 => ?_⟩
    walk_at "f"
    refine g_new (sz rfl) fun l7 H7 n7 s7 h7 _ => ?_
    refine ⟨a, l7, _, rfl, hw6.same s7, h7, hw6.ne_none n7, Nat.lt_of_lt_of_le (by decide : 0 < 3) (Nat.le_refl _), Nat.lt_of_le_of_lt (Nat.le_refl 3) (by decide), fun w2 H8 hv s8 hw8 => ?_⟩
    have S8 := ((((S3.trans s4).trans s5).trans s6).trans (Stp.of s7)).trans s8
    obtain ⟨start, rfl, sa, sb⟩ : ∃ st, w2 = .int st ∧ -9223372036854775808 ≤ st ∧ st < 9223372036854775808 := by
      simp only [List.mem_cons, List.not_mem_nil, or_false] at hv
      rcases hv with rfl | rfl | rfl <;> exact ⟨_, rfl, by omega, by omega⟩
    walk_at "f"
    refine g_II (shl1 (by decide) (by decide)) ?_
    rw [e63]
    walk_at "f"
    refine g_II (shl1 (by decide) (by decide)) ?_
    rw [e63]
    walk_at "f"
    refine g_mulI (.of_right (intBits_le_64 (by omega) (by omega))) ?_
    walk_at "f"
    generalize start + step * many = x at *
    obtain ⟨lim, hlim, lm1, lm2⟩ : ∃ z : Int, (if (if x > -9223372036854775808 then x else -9223372036854775808) < 9223372036854775808 - 1 then (if x > -9223372036854775808 then x else -9223372036854775808) else 9223372036854775808 - 1) = z ∧ -9223372036854775808 ≤ z ∧ z < 9223372036854775808 := by
      refine ⟨_, rfl, ?_, ?_⟩
      · split <;> split <;> omega
      · split <;> split <;> omega
    rw [hlim]
    refine g_cutE (fun v H' => ∃ s : Int, (s = 1 ∨ s = -1) ∧ Same H8 H' ∧ FA C H' v (infL s)) ?_ ?_
    · walk_at "f"
      refine g_ite (fun h9 => ?_) fun h9 => ?_
      · walk_at "f"
        exact mkN (mk_inf (.inl rfl)) fun H9 v9 s9 f9 => ⟨1, .inl rfl, s9, f9⟩
      · walk_at "f"
        exact mkN (mk_inf (.inr rfl)) fun H9 v9 s9 f9 => ⟨-1, .inr rfl, s9, f9⟩
    · rintro v9 H9 ⟨sg, hsg, s9, f9⟩
      have hw9 := hw8.same s9
      have S9 := S8.trans (Stp.of s9)
      walk_at "f"
      refine g_new (sz rfl) fun l10 H10 n10 s10 h10 _ => ?_
      refine ⟨a, l10, _, rfl, hw9.same s10, h10, hw9.ne_none n10, Nat.lt_of_lt_of_le (by decide : 0 < 3) (Nat.le_refl _), Nat.lt_of_le_of_lt (Nat.le_refl 3) (by decide), fun w3 H11 hv s11 hw11 => ?_⟩
      have S11 := (S9.trans (Stp.of s10)).trans s11
      have f11 := (f9.same s10).stp (hw9.same s10) s11
      obtain ⟨b, hb⟩ : ∃ b, ThAt C H11 w3 b := by
        simp only [List.mem_cons, List.not_mem_nil, or_false] at hv
        rcases hv with rfl | rfl | rfl
        · exact ⟨.num (.i lim), rfl, lm1, lm2⟩
        · exact ⟨.num (nmF (infL sg)), f11.num (inf_ok hsg), inf_ok hsg⟩
        · exact ⟨.num (.i lim), rfl, lm1, lm2⟩
      have ha : ThAt C H11 (.int start) (.num (.i start)) := ⟨rfl, sa, sb⟩
      have hc : ThAt C H11 (.int step) (.num (.i step)) := ⟨rfl, by omega, by omega⟩
      walk_at "f"
      refine g_said ha hb hc fun x1 H12 s12 o12 => ?_
      walk_at "f"
      refine g_due (ha.same s12) (hb.same s12) (hc.same s12) fun x2 H13 s13 o13 => ?_
      walk_at "f"
      exact g_alike (u := w3) ha hc (o12.same s13) o13 fun H14 s14 => q _ (S11.trans (Stp.of ((s12.trans s13).trans s14))) (hw11.same ((s12.trans s13).trans s14))
end
end Up

set_option Elab.async false
set_option linter.all false
set_option pp.maxSteps 600
set_option maxRecDepth 100000
set_option maxHeartbeats 4000000
set_option exponentiation.threshold 200000
namespace Up
open PySem PySem.Spec PyProof.Rows L2
local macro_rules | `(tactic| walk_at "u") => `(tactic| first
  | with_reducible refine g_seq ?_
  | with_reducible refine g_asg ?_
  | with_reducible refine g_op ?_
  | ((with_reducible show tVar _ _ _ _); apply g_var; exact rfl)
  | with_reducible refine g_c ?_
  | with_reducible refine g_name ?_
  | with_reducible refine g_ifs ?_
  | with_reducible refine g_tt ?_
  | with_reducible refine g_tB ?_
  | with_reducible refine g_bl ?_
  | with_reducible refine g_ret ?_
  | with_reducible refine g_cb ?_
  | with_reducible refine g_cons ?_
  | with_reducible refine g_nil ?_
  | with_reducible refine g_call ?_
  | with_reducible refine g_and ?_
  | with_reducible refine g_or ?_
  | with_reducible refine g_not ?_
  | with_reducible refine g_andV ?_
  | with_reducible refine g_orV ?_
  | with_reducible refine g_notV ?_
  | with_reducible refine g_if ?_
  | with_reducible refine g_un ?_
  | with_reducible refine g_neg ?_
  | with_reducible refine g_addI ?_
  | with_reducible refine g_subI ?_
  | with_reducible refine g_subB ?_
  | with_reducible refine g_I0 ?_
  | with_reducible refine g_cmpI ?_
  | with_reducible refine g_eqI ?_
  | with_reducible refine g_neI ?_
  | with_reducible refine g_eqS ?_
  | with_reducible refine g_neS ?_
  | with_reducible refine g_eqB ?_
  | with_reducible refine g_neB ?_
  | with_reducible refine g_bits ?_
  | with_reducible refine g_bitsI ?_
  | with_reducible refine g_fld ?_
  | with_reducible refine g_tup ?_
  | with_reducible refine g_lst ?_
  | with_reducible refine g_gtup ?_
  | with_reducible refine g_make ?_
  | with_reducible refine g_lc ?_
  | with_reducible refine g_yesT ?_
  | with_reducible refine g_intI ?_
  | with_reducible refine g_intB ?_
  | with_reducible refine g_max2 ?_
  | with_reducible refine g_abs1 ?_
  | with_reducible refine g_for ?_
  | with_reducible refine g_iList ?_
  | with_reducible refine g_iTup ?_
  | with_reducible refine g_iRng1 ?_
  | with_reducible refine g_iEnum ?_
  | with_reducible refine g_slice ?_
  | with_reducible refine g_po0 ?_
  | with_reducible refine g_po1 ?_
  | with_reducible refine g_gsub ?_
  | with_reducible refine g_par ?_
  | with_reducible refine g_par2 ?_
  | with_reducible refine g_rfl ?_
  | with_reducible refine g_meth ?_
  | with_reducible refine g_gcons ?_
  | with_reducible refine g_gnil ?_
  | with_reducible refine g_gfld ?_
  | with_reducible refine g_sfld ?_
  | with_reducible refine g_drop ?_
  | with_reducible refine g_next ?_
  | with_reducible refine iteT ?_
  | with_reducible refine iteF ?_)
local macro_rules | `(tactic| walk_at "go") => `(tactic| (repeat walk_at "u"))
local macro_rules | `(tactic| walk_at "f") => `(tactic| (repeat (first
  | walk_at "u"
  | with_reducible refine g_chain ?_
  | with_reducible refine g_par3 ?_
  | with_reducible refine g_par3' ?_
  | ((with_reducible refine show_ex ?_); first
    | refine fT (by assumption) (by assumption) ?_
    | refine fS (by assumption) (by assumption) ?_
    | refine fP (by assumption) (by assumption) ?_))))

section
variable {P : Program} {w : World} {K : PySem.W.Frag} {mg : Str → Option Value} {base : Heap} {C CT CP : Addr}
theorem ThAt.ins {H H' : Hp} {v : V} (k : ∀ b dx fs, H b = some (.ins C dx fs) → H' b = some (.ins C dx fs)) : ∀ {x : Th}, ThAt C H v x → ThAt C H' v x
  | .num (.i _), h => h
  | .num (.f _ _ _), ⟨⟨a, e, ⟨dx, h⟩, o⟩, i⟩ => ⟨⟨a, e, ⟨dx, k _ _ _ h⟩, o⟩, i⟩
  | .oth _, h => h
theorem ThAt.stp {a : Addr} {H H' : Hp} {v : V} {x : Th} (h : ThAt C H v x) (hw : Well H a) (e : Stp a H H') : ThAt C H' v x := h.ins fun _ _ _ z => e.ins hw z
theorem ThAt.lst {p : Addr} {H H' : Hp} {xs : List V} {v : V} {x : Th} (h : ThAt C H v x) (hp : H p = some (.lst xs)) (k : ∀ b, b ≠ p → H' b = H b) : ThAt C H' v x :=
  h.ins fun b dx fs z => (k b (fun e => by rw [e, hp] at z; cases z)).trans z
abbrev othL : List V := [.non, .bl true, .str "1", .str "x", .bl false]
theorem oth_th {H : Hp} {v : V} (h : v ∈ othL) : ∃ x, ThAt C H v x := by
  simp only [othL, List.mem_cons, List.not_mem_nil, or_false] at h
  rcases h with rfl | rfl | rfl | rfl | rfl
  · exact ⟨.oth .non, rfl, .inl rfl⟩
  · exact ⟨.oth (.bl true), rfl, .inr (.inl ⟨_, rfl⟩)⟩
  · exact ⟨.oth (.str "1"), rfl, .inr (.inr ⟨_, rfl⟩)⟩
  · exact ⟨.oth (.str "x"), rfl, .inr (.inr ⟨_, rfl⟩)⟩
  · exact ⟨.oth (.bl false), rfl, .inr (.inl ⟨_, rfl⟩)⟩
/-- a list of three things -/
def Th3 (C : Addr) (H : Hp) (p : Addr) : Prop := ∃ x y z a b c, H p = some (.lst [x, y, z]) ∧ ThAt C H x a ∧ ThAt C H y b ∧ ThAt C H z c
theorem Th3.stp {a p : Addr} {H H' : Hp} (h : Th3 C H p) (np : p ≠ a) (hw : Well H a) (e : Stp a H H') : Th3 C H' p := by
  obtain ⟨x, y, z, a1, b1, c1, h, h1, h2, h3⟩ := h
  exact ⟨x, y, z, a1, b1, c1, e _ _ np h, h1.stp hw e, h2.stp hw e, h3.stp hw e⟩
theorem Th3.same {p : Addr} {H H' : Hp} (h : Th3 C H p) (e : Same H H') : Th3 C H' p := by
  obtain ⟨x, y, z, a1, b1, c1, h, h1, h2, h3⟩ := h
  exact ⟨x, y, z, a1, b1, c1, e _ _ h, h1.same e, h2.same e, h3.same e⟩
/-- one of them is exchanged -/
theorem g_set3 {H : Hp} {R : Hp → Prop} {p : Addr} {v : V} {x : Th} {d : Int} (h : Th3 C H p) (hx : ThAt C H v x) (d0 : 0 ≤ d) (d1 : d < 3) (q : ∀ H', Th3 C H' p → (∀ b, b ≠ p → H' b = H b) → R H') : rSetL (.ref p) (.int d) v H R := by
  obtain ⟨x0, y0, z0, a1, b1, c1, h, h1, h2, h3⟩ := h
  have e : ixN [x0, y0, z0].length d = some d.toNat := by
    unfold ixN
    rw [if_pos d0]
    exact if_pos d1
  refine g_setL h e fun H' h' k => q H' ?_ k
  obtain ⟨n, rfl⟩ := Int.eq_ofNat_of_zero_le d0
  have hn : n = 0 ∨ n = 1 ∨ n = 2 := by omega
  rcases hn with rfl | rfl | rfl
  · exact ⟨_, _, _, _, _, _, h', hx.lst h k, h2.lst h k, h3.lst h k⟩
  · exact ⟨_, _, _, _, _, _, h', h1.lst h k, hx.lst h k, h3.lst h k⟩
  · exact ⟨_, _, _, _, _, _, h', h1.lst h k, h2.lst h k, hx.lst h k⟩
theorem Stp.setl {wl p : Addr} {H0 H H' : Hp} (s : Stp wl H0 H) (n : H0 p = none) (k : ∀ b, b ≠ p → H' b = H b) : Stp wl H0 H' := fun b o nb e => (k b (fun z => by rw [z, n] at e; cases e)).trans (s b o nb e)
theorem Well.setl {wl p : Addr} {H H' : Hp} (h : Well H wl) (n : wl ≠ p) (k : ∀ b, b ≠ p → H' b = H b) : Well H' wl := by
  obtain ⟨a, b, c, h, r⟩ := h
  exact ⟨a, b, c, (k _ n).trans h, r⟩
abbrev s_law : Stmt := top 56
theorem sc_law : FnScope ["_law_script", "_law_others", "_law_cell", "_law_well_here", "_law_turn", "_law_some", "_law_small", "_law_start", "_law_limit", "_law_step"] ["_law_script"] (defScope s_law) := ⟨rfl, rfl, rfl, by decide +kernel, rfl, by decide +kernel, by decide +kernel⟩
def spLaw (K : PySem.W.Frag) : Sp := fun vs H Q _ => ∃ (a : Addr) (ns : List Int), vs = [.ref a] ∧ SqL K H a (ns.map V.int) ∧ ns.length ≤ 63 ∧ ∀ H', Q (.bl true) H'
theorem cells_int {ns : List Int} {lo hi : Option Int} : ∀ v ∈ cutV (ns.map V.int ++ [V.int 0]) lo hi, ∃ n, v = .int n := fun v hv => by
  have h := List.mem_of_mem_drop (List.mem_of_mem_take hv)
  rcases List.mem_append.mp h with h | h
  · obtain ⟨n, _, rfl⟩ := List.mem_map.mp h
    exact ⟨n, rfl⟩
  · simp only [List.mem_cons, List.not_mem_nil, or_false] at h
    exact ⟨0, h⟩
theorem ok_law {f : Addr} {fd : FuncData} (F : FunD K "law" "law" (defArgs s_law) (defBody s_law) (defScope s_law) [] [] f fd) (B : Blt mg) (T : FlC K mg C) (c_Float : CnF P w K mg base C) (c_Lwell : Fn P w K mg base CX0 1 "_law_well" ["_law_cell"] [] sp_Lwell) (c_Ldraw : CDraw P w K mg base) (c_Lone : COne P w K mg base) (c_Lnumber : Fn P w K mg base CX0 5 "_law_number" ["_law_well_here"] [] (sp_Lnumber C))
    (c_Lsaid : CLsaid P w K mg base C) (c_Ldue : CLdue P w K mg base C) (c_Lisalike : CLalike P w K mg base C) (c_Lcountright : Fn P w K mg base CX0 11 "_law_count_right" ["_law_well_here"] [] sp_Lcountright) : FnOk P w K mg base CX0 12 f fd ["_law_script"] (spLaw K) := by
  refine F.ok sc_law (fun vs H Q E h => ?_) (fun cdv A outer s H vs Q E hr h => ?_)
  · obtain ⟨a, ns, rfl, _⟩ := h; rfl
  · obtain ⟨a, ns, rfl, hS, hlen, q⟩ := h
    refine ⟨_, PSs.nox (pss_cons (ps_set (i := 1) sc_law.nd rfl (Or.inl rfl) (pe_lstN (pa_cons pe_non (pa_cons pe_bl (pa_cons pe_str (pa_cons pe_str (pa_cons pe_bl pa_nil)))))))
  (pss_cons (ps_for PassesOwn.never rfl (pi_list (pe_slice sl_lstN (pe_op op_oAdd (pv 0) (pe_lstN (pa_cons pe_int pa_nil))) po_none (po_some pe_int))) (pg_name (i := 2) sc_law.nd rfl (Or.inl rfl))
    (pss_cons (ps_set (i := 3) sc_law.nd rfl (Or.inl rfl) (pe_fn c_Lwell (hr.mono (by decide)) pass0 (pa_cons (pv 2) pa_nil)))
  (pss_cons (ps_for PassesOwn.never rfl (pi_range1 (by rfl) B.range (pa_cons pe_int pa_nil)) (pg_name (i := 4) sc_law.nd rfl (Or.inl rfl))
    (pss_cons (ps_set (i := 5) sc_law.nd rfl (Or.inl rfl) (pe_lstN (pa_cons (pe_fn c_Lnumber (hr.mono (by decide)) pass0 (pa_cons (pv 3) pa_nil)) (pa_cons (pe_fn c_Lnumber (hr.mono (by decide)) pass0 (pa_cons (pv 3) pa_nil)) (pa_cons (pe_fn c_Lnumber (hr.mono (by decide)) pass0 (pa_cons (pv 3) pa_nil)) pa_nil)))))
  (C8.pss_cut (ps_if (pt_cmpR (op_oEq hr.units) (pe_fn c_Ldraw (hr.mono (by decide)) pass0 (pa_cons (pv 3) (pa_cons pe_int pa_nil))) pe_int (nomark _)) (pss_cons (ps_asg (pe_fn c_Lone (hr.mono (by decide)) pass0 (pa_cons (pv 3) (pa_cons (pv 1) pa_nil))) (pg_sub (pv 5) (pe_fn c_Ldraw (hr.mono (by decide)) pass0 (pa_cons (pv 3) (pa_cons pe_int pa_nil))) set_list))
  (pss_one (ps_asg (pe_fn c_Lone (hr.mono (by decide)) pass0 (pa_cons (pv 3) (pa_cons (pe_op op_oAdd (pv 1) (pe_lstN (pa_cons pe_int (pa_cons (pe_cn c_Float (hr.mono (by decide)) pass0 (pa_cons (pe_un un_neg pe_int) (pa_cons pe_int (pa_cons pe_int pa_nil)))) pa_nil)))) pa_nil))) (pg_sub (pv 5) (pe_fn c_Ldraw (hr.mono (by decide)) pass0 (pa_cons (pv 3) (pa_cons pe_int pa_nil))) set_list)))) pss_nil)
  (pss_cons (ps_set (i := 6) sc_law.nd rfl (Or.inl rfl) (pe_lstN (pa_cons (pe_fn c_Ldraw (hr.mono (by decide)) pass0 (pa_cons (pv 3) (pa_cons pe_int pa_nil))) (pa_cons (pe_fn c_Lone (hr.mono (by decide)) pass0 (pa_cons (pv 3) (pa_cons (pe_lstN (pa_cons (pe_fn c_Ldraw (hr.mono (by decide)) pass0 (pa_cons (pv 3) (pa_cons pe_int pa_nil))) (pa_cons (pe_ix ix_seq (pv 5) pe_int (fun _ _ => rfl)) pa_nil))) pa_nil))) pa_nil))))
  (pss_cons (ps_expr (pe_bm PySem.F.plainAttrs_list PySem.F.slot_list_append PySem.F.type_list_append mt_append (pv 6) (pa_cons (pe_fn c_Lone (hr.mono (by decide)) pass0 (pa_cons (pv 3) (pa_cons (pe_lstN (pa_cons pe_int (pa_cons pe_int (pa_cons (pe_ix ix_seq (pv 5) pe_int (fun _ _ => rfl)) (pa_cons (pe_un un_neg pe_int) pa_nil))))) pa_nil))) pa_nil)))
  (pss_one (ps_for PassesOwn.never rfl (pi_list (pe_lstN (pa_cons (pv 5) (pa_cons (pv 6) pa_nil)))) (pg_unl rfl (pgs_cons (pg_name (i := 7) sc_law.nd rfl (Or.inl rfl)) (pgs_cons (pg_name (i := 8) sc_law.nd rfl (Or.inl rfl)) (pgs_cons (pg_name (i := 9) sc_law.nd rfl (Or.inl rfl)) pgs_nil))))
    (pss_one (ps_if (pt_not (pt_val (pe_fn c_Lisalike (hr.mono (by decide)) pass0 (pa_cons (pe_fn c_Lsaid (hr.mono (by decide)) pass0 (pa_cons (pv 7) (pa_cons (pv 8) (pa_cons (pv 9) pa_nil)))) (pa_cons (pe_fn c_Ldue (hr.mono (by decide)) pass0 (pa_cons (pv 7) (pa_cons (pv 8) (pa_cons (pv 9) pa_nil)))) pa_nil))))) (pss_one (ps_ret pe_bl)) pss_nil)))))))))
  (pss_one (ps_if (pt_not (pt_val (pe_fn c_Lcountright (hr.mono (by decide)) pass0 (pa_cons (pv 3) pa_nil)))) (pss_one (ps_ret pe_bl)) pss_nil)))))
  (pss_one (ps_ret pe_bl)))), ?_⟩
    walk_at "f"
    refine g_new (sz rfl) fun po H0 n0 s0 h0 _ => ?_
    have hS := s0.seq hS
    walk_at "f"
    refine g_new (sz rfl) fun l1 H1 n1 s1 h1 _ => ?_
    refine .inl ⟨a, l1, _, _, rfl, rfl, s1.seq hS, SqL.of h1, ?_, fun l2 H2 n2 s2 h2 _ => ?_⟩
    · rw [List.length_map]
      exact Nat.le_trans (Nat.add_le_add hlen (Nat.le_refl 1)) (by decide)
    walk_at "f"
    refine ⟨l2, _, rfl, SqL.of h2, fun l3 H3 n3 s3 h3 _ => ?_⟩
    have po3 : H3 po = some (.lst othL) := s3 _ _ (s2 _ _ (s1 _ _ h0))
    refine ⟨l3, rfl, ⟨_, SqL.of h3⟩, ?_⟩
    refine for_list (K := K) (a := l3) (xs := cutV (ns.map V.int ++ [V.int 0]) none (some 8)) (fun i σ' H' => ∃ e2 e3 e4 e5 e6 e7 e8 e9, σ' = [some (.ref a), some (.ref po), e2, e3, e4, e5, e6, e7, e8, e9] ∧ Same H3 H') ⟨_, _, _, _, _, _, _, _, rfl, Same.refl _⟩ ?_ ?_ ?_
    · rintro i _ H' _ ⟨_, _, _, _, _, _, _, _, _, sH⟩
      exact SqL.of (sH _ _ h3)
    · rintro i z _ H4 hz ⟨e2, e3, e4, e5, e6, e7, e8, e9, rfl, s4⟩
      obtain ⟨c, rfl⟩ := cells_int z (List.mem_of_getElem? hz)
      walk_at "f"
      refine ⟨c, rfl, fun wl H5 n5 s5 hw5 => ?_⟩
      have tot : ∀ H', Stp wl H5 H' → Same H4 H' := fun H' st b o e => st b o (ne_of_none e n5) (s5 _ _ e)
      have po5 : H5 po = some (.lst othL) := s5 _ _ (s4 _ _ po3)
      have npo : po ≠ wl := ne_of_none (s4 _ _ po3) n5
      walk_at "f"
      refine ⟨by decide, by decide, ?_⟩
      refine for_range (fun i σ' H' => ∃ e4 e5 e6 e7 e8 e9, σ' = [some (.ref a), some (.ref po), some (.int c), some (.ref wl), e4, e5, e6, e7, e8, e9] ∧ Stp wl H5 H' ∧ Well H' wl) ⟨_, _, _, _, _, _, rfl, Stp.refl _ _, hw5⟩ ?_ ?_
      · rintro i _ H6 hi ⟨e4, e5, e6, e7, e8, e9, rfl, s6, hw6⟩
        walk_at "f"
        refine ⟨wl, rfl, hw6, fun v1 H7 k1 s7 hw7 a1 i1 => ?_⟩
        walk_at "f"
        refine ⟨wl, rfl, hw7, fun v2 H8 k2 s8 hw8 a2 i2 => ?_⟩
        walk_at "f"
        refine ⟨wl, rfl, hw8, fun v3 H9 k3 s9 hw9 a3 i3 => ?_⟩
        have S9 := ((s6.trans s7).trans s8).trans s9
        walk_at "f"
        refine g_new (sz rfl) fun ps H10 n10 s10 h10 _ => ?_
        have nps : ps ≠ wl := hw9.ne_none n10
        have nps5 : H5 ps = none := S9.free hw9 n10
        have hw10 := hw9.same s10
        have S10 := S9.trans (Stp.of s10)
        have th10 : Th3 C H10 ps := ⟨v1, v2, v3, .num k1, .num k2, .num k3, h10, ⟨((a1.stp hw7 s8).stp hw8 s9).same s10, i1⟩, ⟨(a2.stp hw8 s9).same s10, i2⟩, ⟨a3.same s10, i3⟩⟩
        walk_at "f"
        refine g_cut (fun σ' H' => σ' = [some (.ref a), some (.ref po), some (.int c), some (.ref wl), some (.int (0 + (i : Int))), some (.ref ps), e6, e7, e8, e9] ∧ Stp wl H5 H' ∧ Well H' wl ∧ Th3 C H' ps) ?_ ?_
        · walk_at "f"
          refine ⟨wl, _, rfl, by decide, by decide, hw10, fun d11 H11 _ _ s11 hw11 => ?_⟩
          have S11 := S10.trans s11
          have th11 := th10.stp nps hw10 s11
          walk_at "f"
          refine g_ite (fun hd => ?_) fun hd => ?_
          · walk_at "f"
            refine ⟨wl, po, _, rfl, hw11, S11 _ _ npo po5, npo, by decide, by decide, fun v12 H12 hv s12 hw12 => ?_⟩
            have S12 := S11.trans s12
            have th12 := th11.stp nps hw11 s12
            walk_at "f"
            refine ⟨wl, _, rfl, by decide, by decide, hw12, fun d13 H13 d13a d13b s13 hw13 => ?_⟩
            have S13 := S12.trans s13
            have th13 := th12.stp nps hw12 s13
            obtain ⟨x12, hx12⟩ := oth_th (C := C) (H := H13) hv
            refine g_set3 th13 hx12 d13a d13b fun H14 th14 k14 => ?_
            have S14 := S13.setl nps5 k14
            have hw14 := hw13.setl (Ne.symm nps) k14
            walk_at "f"
            refine mkN (zero_mk (.inr rfl)) fun H15 v15 s15 f15 => ?_
            walk_at "f"
            refine g_new (sz rfl) fun l16 H16 n16 s16 h16 _ => ?_
            have po16 := s16 _ _ (s15 _ _ (S14 _ _ npo po5))
            refine .inl ⟨po, l16, _, _, rfl, rfl, SqL.of po16, SqL.of h16, sz rfl, fun l17 H17 n17 s17 h17 _ => ?_⟩
            have hw16 := (hw14.same s15).same s16
            have hw17 := hw16.same s17
            walk_at "f"
            refine ⟨wl, l17, _, rfl, hw17, h17, hw16.ne_none n17, Nat.lt_of_lt_of_le (by decide : 0 < 7) (Nat.le_refl _), Nat.lt_of_le_of_lt (Nat.le_refl 7) (by decide), fun v18 H18 hv s18 hw18 => ?_⟩
            have S18 := ((S14.trans (Stp.of s15)).trans (Stp.of s16)).trans (Stp.of s17) |>.trans s18
            have th18 := (((th14.same s15).same s16).same s17).stp nps hw17 s18
            have f18 := ((f15.same s16).same s17).stp hw17 s18
            walk_at "f"
            refine ⟨wl, _, rfl, by decide, by decide, hw18, fun d19 H19 d19a d19b s19 hw19 => ?_⟩
            have S19 := S18.trans s19
            have th19 := th18.stp nps hw18 s19
            obtain ⟨x18, hx18⟩ : ∃ x, ThAt C H19 v18 x := by
              rcases List.mem_append.mp hv with h | h
              · exact oth_th h
              · simp only [List.mem_cons, List.not_mem_nil, or_false] at h
                rcases h with rfl | rfl
                · exact ⟨.num (.i 0), rfl, by decide, by decide⟩
                · exact ⟨.num (nmF (zeroL (-1))), (f18.stp hw18 s19).num (zero_ok (.inr rfl)), zero_ok (.inr rfl)⟩
            refine g_set3 th19 hx18 d19a d19b fun H20 th20 k20 => ?_
            walk_at "f"
            exact ⟨rfl, S19.setl nps5 k20, hw19.setl (Ne.symm nps) k20, th20⟩
          · walk_at "f"
            exact ⟨rfl, S11, hw11, th11⟩
        · rintro _ H11 ⟨rfl, S11, hw11, th11⟩
          walk_at "f"
          refine ⟨wl, _, rfl, by decide, by decide, hw11, fun d12 H12 d12a d12b s12 hw12 => ?_⟩
          walk_at "f"
          refine ⟨wl, _, rfl, by decide, by decide, hw12, fun d13 H13 d13a d13b s13 hw13 => ?_⟩
          have S13 := (S11.trans s12).trans s13
          have th13 := (th11.stp nps hw11 s12).stp nps hw12 s13
          obtain ⟨x, y, z, xa, ya, za, hp13, hx13, hy13, hz13⟩ := id th13
          walk_at "f"
          refine g_ixL hp13 rfl ?_
          walk_at "f"
          refine g_new (sz rfl) fun l14 H14 n14 s14 h14 _ => ?_
          have hw14 := hw13.same s14
          refine ⟨wl, l14, _, rfl, hw14, h14, hw13.ne_none n14, Nat.lt_of_lt_of_le (by decide : 0 < 2) (Nat.le_refl _), Nat.lt_of_le_of_lt (Nat.le_refl 2) (by decide), fun v15 H15 hv s15 hw15 => ?_⟩
          have S15 := (S13.trans (Stp.of s14)).trans s15
          have up15 : ∀ {v : V} {x : Th}, ThAt C H13 v x → ThAt C H15 v x := fun h => (h.same s14).stp hw14 s15
          have hp15 := s15 _ _ nps (s14 _ _ hp13)
          obtain ⟨b15, hb15⟩ : ∃ b, ThAt C H15 v15 b := by
            simp only [List.mem_cons, List.not_mem_nil, or_false] at hv
            rcases hv with rfl | rfl
            · exact ⟨.num (.i d13), rfl, by omega, by omega⟩
            · exact ⟨ya, up15 hy13⟩
          have hx15 := up15 hx13
          have hy15 := up15 hy13
          have hz15 := up15 hz13
          walk_at "f"
          refine g_new (sz rfl) fun pm H16 n16 s16 h16 _ => ?_
          have npm : pm ≠ wl := hw15.ne_none n16
          have npm5 : H5 pm = none := S15.free hw15 n16
          have hw16 := hw15.same s16
          have S16 := S15.trans (Stp.of s16)
          have hp16 := s16 _ _ hp15
          have nsm : ps ≠ pm := ne_of_none hp15 n16
          walk_at "f"
          refine g_bm ?_
          walk_at "f"
          refine ⟨tyL h16, ?_⟩
          walk_at "f"
          refine g_ixL hp16 rfl ?_
          walk_at "f"
          refine g_new (sz rfl) fun l17 H17 n17 s17 h17 _ => ?_
          have hw17 := hw16.same s17
          refine ⟨wl, l17, _, rfl, hw17, h17, hw16.ne_none n17, Nat.lt_of_lt_of_le (by decide : 0 < 4) (Nat.le_refl _), Nat.lt_of_le_of_lt (Nat.le_refl 4) (by decide), fun v18 H18 hv s18 hw18 => ?_⟩
          have S18 := (S16.trans (Stp.of s17)).trans s18
          have up18 : ∀ {v : V} {x : Th}, ThAt C H15 v x → ThAt C H18 v x := fun h => ((h.same s16).same s17).stp hw17 s18
          obtain ⟨c18, hc18⟩ : ∃ b, ThAt C H18 v18 b := by
            simp only [List.mem_cons, List.not_mem_nil, or_false] at hv
            rcases hv with rfl | rfl | rfl | rfl
            · exact ⟨.num (.i 1), rfl, by decide, by decide⟩
            · exact ⟨.num (.i 2), rfl, by decide, by decide⟩
            · exact ⟨za, up18 hz15⟩
            · exact ⟨.num (.i (-1)), rfl, by decide, by decide⟩
          have h18 := s18 _ _ npm (s17 _ _ h16)
          have hp18 := s18 _ _ nps (s17 _ _ hp16)
          walk_at "f"
          refine g_app h18 (Nat.lt_of_le_of_lt (Nat.le_refl 2) (by decide)) fun H19 h19 k19 => ?_
          have S19 := S18.setl npm5 k19
          have hw19 := hw18.setl (Ne.symm npm) k19
          have up19 : ∀ {v : V} {x : Th}, ThAt C H18 v x → ThAt C H19 v x := fun h => h.lst h18 k19
          have hp19 := (k19 _ nsm).trans hp18
          have t1 : Th3 C H19 ps := ⟨x, y, z, xa, ya, za, hp19, up19 (up18 hx15), up19 (up18 hy15), up19 (up18 hz15)⟩
          have t2 : Th3 C H19 pm := ⟨.int d12, v15, v18, .num (.i d12), b15, c18, h19, ⟨rfl, by omega, by omega⟩, up19 (up18 hb15), up19 hc18⟩
          walk_at "f"
          refine g_new (sz rfl) fun l20 H20 n20 s20 h20 _ => ?_
          refine ⟨l20, rfl, ⟨_, SqL.of h20⟩, ?_⟩
          refine for_list (K := K) (a := l20) (xs := [.ref ps, .ref pm]) (fun i' σ' H' => ∃ e7 e8 e9, σ' = [some (.ref a), some (.ref po), some (.int c), some (.ref wl), some (.int (0 + (i : Int))), some (.ref ps), some (.ref pm), e7, e8, e9] ∧ Same H20 H') ⟨_, _, _, rfl, Same.refl _⟩ ?_ ?_ ?_
          · rintro i _ H' _ ⟨_, _, _, _, sH⟩
            exact SqL.of (sH _ _ h20)
          · rintro i' zz _ H21 hz ⟨e7, e8, e9, rfl, s21⟩
            obtain ⟨p, rfl, hp⟩ : ∃ p, zz = .ref p ∧ Th3 C H21 p := by
              have := List.mem_of_getElem? hz
              simp only [List.mem_cons, List.not_mem_nil, or_false] at this
              rcases this with rfl | rfl
              · exact ⟨_, rfl, (t1.same s20).same s21⟩
              · exact ⟨_, rfl, (t2.same s20).same s21⟩
            obtain ⟨u1, u2, u3, b1, b2, b3, hp, g1, g2, g3⟩ := hp
            refine ⟨p, _, rfl, SqL.of hp, rfl, ?_⟩
            walk_at "f"
            refine g_said g1 g2 g3 fun o1 H22 s22 o22 => ?_
            walk_at "f"
            refine g_due (g1.same s22) (g2.same s22) (g3.same s22) fun o2 H23 s23 o23 => ?_
            walk_at "f"
            refine g_alike (u := u2) g1 g3 (o22.same s23) o23 fun H24 s24 => ?_
            walk_at "f"
            refine iteF ?_
            walk_at "f"
            exact ⟨_, _, _, rfl, ((s21.trans s22).trans s23).trans s24⟩
          · rintro _ H21 ⟨e7, e8, e9, rfl, s21⟩
            walk_at "f"
            exact ⟨_, _, _, _, _, _, rfl, S19.trans (Stp.of (s20.trans s21)), hw19.same (s20.trans s21)⟩
      · rintro _ H6 ⟨e4, e5, e6, e7, e8, e9, rfl, s6, hw6⟩
        walk_at "f"
        refine ⟨wl, rfl, hw6, fun H7 s7 hw7 => ?_⟩
        walk_at "f"
        refine iteF ?_
        walk_at "f"
        exact ⟨_, _, _, _, _, _, _, _, rfl, s4.trans (tot _ (s6.trans s7))⟩
    · rintro _ H4 ⟨e2, e3, e4, e5, e6, e7, e8, e9, rfl, s4⟩
      walk_at "f"
      exact q _
end
end Up

set_option Elab.async false
set_option linter.all false
set_option maxRecDepth 100000
set_option maxHeartbeats 0
namespace Up
open PySem PySem.Spec PyProof.Rows L2
def d_isplain : He.DefD := ⟨("is_plain", none), "is_plain", "is_plain", defArgs s_isplain, defBody s_isplain, defScope s_isplain, [], []⟩
def d_reduced : He.DefD := ⟨("reduced", none), "reduced", "reduced", defArgs s_reduced, defBody s_reduced, defScope s_reduced, [], []⟩
def d_fits : He.DefD := ⟨("fits", none), "fits", "fits", defArgs s_fits, defBody s_fits, defScope s_fits, [], []⟩
def d_signof : He.DefD := ⟨("sign_of", none), "sign_of", "sign_of", defArgs s_signof, defBody s_signof, defScope s_signof, [], []⟩
def d_Float_init : He.DefD := ⟨("Float", some "__init__"), "__init__", "Float.__init__", defArgs s_Float_init, defBody s_Float_init, defScope s_Float_init, [], []⟩
def d_Float_ratio : He.DefD := ⟨("Float", some "ratio"), "ratio", "Float.ratio", defArgs s_Float_ratio, defBody s_Float_ratio, defScope s_Float_ratio, [], []⟩
def d_Float_isfinite : He.DefD := ⟨("Float", some "is_finite"), "is_finite", "Float.is_finite", defArgs s_Float_isfinite, defBody s_Float_isfinite, defScope s_Float_isfinite, [], []⟩
def d_Thrown_init : He.DefD := ⟨("Thrown", some "__init__"), "__init__", "Thrown.__init__", defArgs s_Thrown_init, defBody s_Thrown_init, defScope s_Thrown_init, [.int 1], []⟩
def d_infinity : He.DefD := ⟨("infinity", none), "infinity", "infinity", defArgs s_infinity, defBody s_infinity, defScope s_infinity, [], []⟩
def d_nan : He.DefD := ⟨("nan", none), "nan", "nan", defArgs s_nan, defBody s_nan, defScope s_nan, [], []⟩
def d_nearest : He.DefD := ⟨("nearest", none), "nearest", "nearest", defArgs s_nearest, defBody s_nearest, defScope s_nearest, [], []⟩
def d_isnumber : He.DefD := ⟨("is_number", none), "is_number", "is_number", defArgs s_isnumber, defBody s_isnumber, defScope s_isnumber, [], []⟩
def d_tofloat : He.DefD := ⟨("to_float", none), "to_float", "to_float", defArgs s_tofloat, defBody s_tofloat, defScope s_tofloat, [], []⟩
def d_added : He.DefD := ⟨("added", none), "added", "added", defArgs s_added, defBody s_added, defScope s_added, [], []⟩
def d_multiplied : He.DefD := ⟨("multiplied", none), "multiplied", "multiplied", defArgs s_multiplied, defBody s_multiplied, defScope s_multiplied, [], []⟩
def d_divided : He.DefD := ⟨("divided", none), "divided", "divided", defArgs s_divided, defBody s_divided, defScope s_divided, [], []⟩
def d_byfloats : He.DefD := ⟨("by_floats", none), "by_floats", "by_floats", defArgs s_byfloats, defBody s_byfloats, defScope s_byfloats, [], []⟩
def d_arith : He.DefD := ⟨("arith", none), "arith", "arith", defArgs s_arith, defBody s_arith, defScope s_arith, [], []⟩
def d_placeof : He.DefD := ⟨("place_of", none), "place_of", "place_of", defArgs s_placeof, defBody s_placeof, defScope s_placeof, [], []⟩
def d_orderof : He.DefD := ⟨("order_of", none), "order_of", "order_of", defArgs s_orderof, defBody s_orderof, defScope s_orderof, [], []⟩
def d_compare : He.DefD := ⟨("compare", none), "compare", "compare", defArgs s_compare, defBody s_compare, defScope s_compare, [], []⟩
def d_same : He.DefD := ⟨("same", none), "same", "same", defArgs s_same, defBody s_same, defScope s_same, [], []⟩
def d_iswithin : He.DefD := ⟨("is_within", none), "is_within", "is_within", defArgs s_iswithin, defBody s_iswithin, defScope s_iswithin, [], []⟩
def d_ForPlan_init : He.DefD := ⟨("ForPlan", some "__init__"), "__init__", "ForPlan.__init__", defArgs s_ForPlan_init, defBody s_ForPlan_init, defScope s_ForPlan_init, [], []⟩
def d_ForPlan_goeson : He.DefD := ⟨("ForPlan", some "goes_on"), "goes_on", "ForPlan.goes_on", defArgs s_ForPlan_goeson, defBody s_ForPlan_goeson, defScope s_ForPlan_goeson, [], []⟩
def d_wholeplan : He.DefD := ⟨("whole_plan", none), "whole_plan", "whole_plan", defArgs s_wholeplan, defBody s_wholeplan, defScope s_wholeplan, [], []⟩
def d_forplan : He.DefD := ⟨("for_plan", none), "for_plan", "for_plan", defArgs s_forplan, defBody s_forplan, defScope s_forplan, [], []⟩
def d_Lwell : He.DefD := ⟨("_law_well", none), "_law_well", "_law_well", defArgs s_Lwell, defBody s_Lwell, defScope s_Lwell, [], []⟩
def d_Ldraw : He.DefD := ⟨("_law_draw", none), "_law_draw", "_law_draw", defArgs s_Ldraw, defBody s_Ldraw, defScope s_Ldraw, [], []⟩
def d_Lone : He.DefD := ⟨("_law_one", none), "_law_one", "_law_one", defArgs s_Lone, defBody s_Lone, defScope s_Lone, [], []⟩
def d_Lgreat : He.DefD := ⟨("_law_great", none), "_law_great", "_law_great", defArgs s_Lgreat, defBody s_Lgreat, defScope s_Lgreat, [], []⟩
def d_Lfinite : He.DefD := ⟨("_law_finite", none), "_law_finite", "_law_finite", defArgs s_Lfinite, defBody s_Lfinite, defScope s_Lfinite, [], []⟩
def d_Lfloat : He.DefD := ⟨("_law_float", none), "_law_float", "_law_float", defArgs s_Lfloat, defBody s_Lfloat, defScope s_Lfloat, [], []⟩
def d_Lint : He.DefD := ⟨("_law_int", none), "_law_int", "_law_int", defArgs s_Lint, defBody s_Lint, defScope s_Lint, [], []⟩
def d_Lnumber : He.DefD := ⟨("_law_number", none), "_law_number", "_law_number", defArgs s_Lnumber, defBody s_Lnumber, defScope s_Lnumber, [], []⟩
def d_Lsaid : He.DefD := ⟨("_law_said", none), "_law_said", "_law_said", defArgs s_Lsaid, defBody s_Lsaid, defScope s_Lsaid, [], []⟩
def d_Lisnumber : He.DefD := ⟨("_law_is_number", none), "_law_is_number", "_law_is_number", defArgs s_Lisnumber, defBody s_Lisnumber, defScope s_Lisnumber, [], []⟩
def d_Ldueofints : He.DefD := ⟨("_law_due_of_ints", none), "_law_due_of_ints", "_law_due_of_ints", defArgs s_Ldueofints, defBody s_Ldueofints, defScope s_Ldueofints, [], []⟩
def d_Ldue : He.DefD := ⟨("_law_due", none), "_law_due", "_law_due", defArgs s_Ldue, defBody s_Ldue, defScope s_Ldue, [], []⟩
def d_Lisalike : He.DefD := ⟨("_law_is_alike", none), "_law_is_alike", "_law_is_alike", defArgs s_Lisalike, defBody s_Lisalike, defScope s_Lisalike, [], []⟩
def d_Lcountright : He.DefD := ⟨("_law_count_right", none), "_law_count_right", "_law_count_right", defArgs s_Lcountright, defBody s_Lcountright, defScope s_Lcountright, [], []⟩
def d_law : He.DefD := ⟨("law", none), "law", "law", defArgs s_law, defBody s_law, defScope s_law, [], []⟩
def hfn : List He.DefD := [d_isplain, d_reduced, d_fits, d_signof, d_Float_init, d_Float_ratio, d_Float_isfinite, d_Thrown_init, d_infinity, d_nan, d_nearest, d_isnumber,
  d_tofloat, d_added, d_multiplied, d_divided, d_byfloats, d_arith, d_placeof, d_orderof, d_compare, d_same, d_iswithin, d_ForPlan_init,
  d_ForPlan_goeson, d_wholeplan, d_forplan, d_Lwell, d_Ldraw, d_Lone, d_Lgreat, d_Lfinite, d_Lfloat, d_Lint, d_Lnumber, d_Lsaid,
  d_Lisnumber, d_Ldueofints, d_Ldue, d_Lisalike, d_Lcountright, d_law]
def hglo : List Str := (["is_plain", "reduced", "fits", "sign_of", "infinity", "nan", "nearest", "is_number", "to_float", "added", "multiplied", "divided"] : List Str) ++
  (["by_floats", "arith", "place_of", "order_of", "compare", "same", "is_within", "whole_plan", "for_plan", "_law_well", "_law_draw", "_law_one"] : List Str) ++
  (["_law_great", "_law_finite", "_law_float", "_law_int", "_law_number", "_law_said", "_law_is_number", "_law_due_of_ints", "_law_due", "_law_is_alike", "_law_count_right", "law"] : List Str) ++
  (["Float", "Thrown", "ForPlan"] : List Str)
def hfa : List He.Fa := hglo.map He.Fa.glo ++ (bltNames.map He.Fa.free ++ [.int "LEAST" (-9223372036854775808), .int "MOST" (9223372036854775807), .int "ROOM" (9007199254740992), .int "LOWEST" (-1074), .int "TOO_GREAT" (1024), .free "ArithmeticError", .mkr "Float", .meth "Float" "ratio", .meth "Float" "is_finite", .meth "Thrown" "__init__", .mkr "ForPlan", .meth "ForPlan" "goes_on"])
def thB (K : PySem.W.Frag) (C : Addr) (f : Addr) : Bool := PySem.W.excInitIn K C aeT "ArithmeticError.__new__" && (PySem.W.excOver K C aeT && (PySem.W.hasDictIn K C && (decide (PySem.W.findIn K (.ref C) "__setattr__" = some (some (.builtin "object.__setattr__"))) &&
  (decide (PySem.W.subIn K (.ref C) (.type "BaseException") = some true) && (decide (PySem.W.typeIn K (.ref C) = some (.type "type")) && (PySem.W.keepIn K (.ref C) && (noB K C ["value", "level"] && (xfB K C && (decide (PySem.W.exmOne K (.ref C) (.ref C) = some true) &&
  ((match PySem.W.findCls K (.type "ArithmeticError") (.type "type") "__init__" with | some (.val (.builtin n)) => n == "ArithmeticError.__init__" | _ => false) && decide (PySem.W.typeIn K (.ref f) = some (.type "function"))))))))))))
def hex (K : PySem.W.Frag) : Bool := ownB K (He.ga K "Float") && (noB K (He.ga K "Float") ["sign", "top", "power"] && (kitB' K (He.ga K "Float") true [.ref (He.ga K "Float")] &&
  (kitB' K (He.ga K "Float") false [.type "int", .type "bool", .type "str", .type "NoneType", .type "list", .type "tuple", .type "dict"] && ((ownB K (He.ga K "ForPlan") && (noB K (He.ga K "ForPlan") ["value", "stride", "left", "limit"] && decide (He.ga K "ForPlan" ≠ He.ga K "Float"))) && thB K (He.ga K "Thrown") (He.ma K (He.ga K "Thrown") "__init__")))))
abbrev hR : PySem.W.OpenRow := PySem.W.OpenLaw.row PySem.Challenge.rw_upvalues_k08_rounds_of_numbers
abbrev hk : PySem.W.Hook := He.hookX 5 hfa hfn [] [] hex
def hob (s : PySem.W.SharedT) : He.AlX := He.obsX 5 hfa hfn [] [] hex (HandSHeadRun.getT s)
theorem hob_eq (s : PySem.W.SharedT) : hob s = hk.obs s.abs := He.obsX_eq (HandSHeadRun.getT_eq s)
def hloose : List PySem.Str := (["_wall", "LuaError", "InvalidArgument", "Thrown", "LEAST", "MOST", "ROOM", "LOWEST", "TOO_GREAT", "Float", "is_plain", "reduced", "fits", "sign_of", "nan", "infinity", "nearest", "is_number", "wrapped", "to_float", "whole_of", "arith", "whole_or_thrown", "by_bits", "by_floats", "added", "multiplied", "divided", "floored", "remainder"] : List PySem.Str) ++ (["order_of", "place_of", "compare", "same", "ForPlan", "is_within", "for_plan", "whole_plan", "_law_well", "_law_draw", "_law_one", "_law_great", "_law_finite", "_law_float", "_law_int", "_law_number", "_law_said", "_law_is_number", "_law_due_of_ints", "_law_due", "_law_is_alike", "_law_count_right"] : List PySem.Str)
theorem hrun (w : World) : HandSHeadRun.RunEq hR (PySem.W.view hR.prog [56]) hk hob 6000 hloose w := by
  intro os
  kernel_rfl
end Up

set_option Elab.async false
set_option linter.all false
set_option maxRecDepth 100000
set_option maxHeartbeats 0
namespace Up
open PySem PySem.Spec PyProof.Rows L2
theorem facts {P : Program} {w : World} {K : PySem.W.Frag} {h : Heap} {mg : Str → Option Value} {f : Addr} (X : K.In h) (G : h.Ns mainGlobals mg) (hfa' : mg ("law" : Str) = some (.ref f)) (cs : He.SaysX hfa hfn [] [] hex w h K) :
    ∃ fd : FuncData, (∀ (s : Shared) (v : Value), BindsTo s fd ⟨[v], []⟩ [("_law_script", v)]) ∧ ∀ base : Heap, K.In base → base.Ns mainGlobals mg → FnOk P w K mg base CX0 12 f fd ["_law_script"] (spLaw K) := by
  have c := cs.t.d
  have glo : ∀ x ∈ hglo, mg x = some (.ref (He.ga K x)) := fun x hx => He.glo_ok X G (c.facts (f := .glo x) (List.mem_append_left _ (List.mem_map_of_mem hx)))
  have B : Blt mg := blt_of fun x hx => He.free_ok X G (c.facts (f := .free x) (List.mem_append_right _ (List.mem_append_left _ (List.mem_map_of_mem hx))))
  have i_LEAST : ∃ t, mg "LEAST" = some (.int (-9223372036854775808) t) := He.int_ok X G (c.facts (f := .int "LEAST" (-9223372036854775808)) (List.mem_append_right _ (List.mem_append_right _ (by simp))))
  have i_MOST : ∃ t, mg "MOST" = some (.int (9223372036854775807) t) := He.int_ok X G (c.facts (f := .int "MOST" (9223372036854775807)) (List.mem_append_right _ (List.mem_append_right _ (by simp))))
  have i_ROOM : ∃ t, mg "ROOM" = some (.int (9007199254740992) t) := He.int_ok X G (c.facts (f := .int "ROOM" (9007199254740992)) (List.mem_append_right _ (List.mem_append_right _ (by simp))))
  have i_LOWEST : ∃ t, mg "LOWEST" = some (.int (-1074) t) := He.int_ok X G (c.facts (f := .int "LOWEST" (-1074)) (List.mem_append_right _ (List.mem_append_right _ (by simp))))
  have i_TOO_GREAT : ∃ t, mg "TOO_GREAT" = some (.int (1024) t) := He.int_ok X G (c.facts (f := .int "TOO_GREAT" (1024)) (List.mem_append_right _ (List.mem_append_right _ (by simp))))
  have mk_Float := He.mkr_ok (c.facts (f := .mkr "Float") (List.mem_append_right _ (List.mem_append_right _ (by simp))))
  have mt_Float_ratio := He.meth_ok (c.facts (f := .meth "Float" "ratio") (List.mem_append_right _ (List.mem_append_right _ (by simp))))
  have mt_Float_isfinite := He.meth_ok (c.facts (f := .meth "Float" "is_finite") (List.mem_append_right _ (List.mem_append_right _ (by simp))))
  have mt_Thrown_init := He.meth_ok (c.facts (f := .meth "Thrown" "__init__") (List.mem_append_right _ (List.mem_append_right _ (by simp))))
  have mk_ForPlan := He.mkr_ok (c.facts (f := .mkr "ForPlan") (List.mem_append_right _ (List.mem_append_right _ (by simp))))
  have mt_ForPlan_goeson := He.meth_ok (c.facts (f := .meth "ForPlan" "goes_on") (List.mem_append_right _ (List.mem_append_right _ (by simp))))
  have ex := cs.more
  unfold hex at ex
  simp only [Bool.and_eq_true] at ex
  obtain ⟨x1, x2, x3, x4, x5, x6⟩ := ex
  obtain ⟨z1, z2, z3⟩ := x5
  have hne : He.ga K "ForPlan" ≠ He.ga K "Float" := of_decide_eq_true z3
  have OP := ownB_ok z1
  have TP : PlC K mg (He.ga K "ForPlan") := ⟨OP.cl, noB_ok z2 (by simp), noB_ok z2 (by simp), noB_ok z2 (by simp), noB_ok z2 (by simp), glo "ForPlan" (by simp [hglo])⟩
  have T : FlC K mg (He.ga K "Float") := {
    own := ownB_ok x1, nS := noB_ok x2 (by simp), nT := noB_ok x2 (by simp), nP := noB_ok x2 (by simp), mg := glo "Float" (by simp [hglo]), yes := kitB'_ok x3 (by simp)
    fi := kitB'_ok x4 (by simp), fb := kitB'_ok x4 (by simp), fs := kitB'_ok x4 (by simp), fn := kitB'_ok x4 (by simp), fl := kitB'_ok x4 (by simp), ft := kitB'_ok x4 (by simp), fd := kitB'_ok x4 (by simp) }
  unfold thB at x6
  simp only [Bool.and_eq_true, decide_eq_true_eq] at x6
  obtain ⟨y1, y2, y3, y4, y5, y6, y7, y8, y9, y10, y11, y12⟩ := x6
  have y11 : PySem.W.findCls K (.type "ArithmeticError") (.type "type") "__init__" = some (.val (.builtin "ArithmeticError.__init__")) := by
    split at y11
    · rename_i n e
      rw [e, eq_of_beq y11]
    · cases y11
  have TH : ThK K mg (He.ga K "Thrown") := {
    ax := ⟨y1, y2, y3, y4, y5, y6, y7⟩, nV := noB_ok y8 (by simp), nL := noB_ok y8 (by simp), xf := xfB_ok y9, te := y10, ae := He.free_ok X G (c.facts (f := .free "ArithmeticError") (List.mem_append_right _ (List.mem_append_right _ (by simp)))), vV := y11, mg := glo "Thrown" (by simp [hglo]) }
  obtain ⟨f_isplain, F_isplain⟩ := c.defs (d := d_isplain) (by simp [hfn])
  obtain ⟨f_reduced, F_reduced⟩ := c.defs (d := d_reduced) (by simp [hfn])
  obtain ⟨f_fits, F_fits⟩ := c.defs (d := d_fits) (by simp [hfn])
  obtain ⟨f_signof, F_signof⟩ := c.defs (d := d_signof) (by simp [hfn])
  obtain ⟨f_Float_init, F_Float_init⟩ := c.defs (d := d_Float_init) (by simp [hfn])
  obtain ⟨f_Float_ratio, F_Float_ratio⟩ := c.defs (d := d_Float_ratio) (by simp [hfn])
  obtain ⟨f_Float_isfinite, F_Float_isfinite⟩ := c.defs (d := d_Float_isfinite) (by simp [hfn])
  obtain ⟨f_Thrown_init, F_Thrown_init⟩ := c.defs (d := d_Thrown_init) (by simp [hfn])
  obtain ⟨f_infinity, F_infinity⟩ := c.defs (d := d_infinity) (by simp [hfn])
  obtain ⟨f_nan, F_nan⟩ := c.defs (d := d_nan) (by simp [hfn])
  obtain ⟨f_nearest, F_nearest⟩ := c.defs (d := d_nearest) (by simp [hfn])
  obtain ⟨f_isnumber, F_isnumber⟩ := c.defs (d := d_isnumber) (by simp [hfn])
  obtain ⟨f_tofloat, F_tofloat⟩ := c.defs (d := d_tofloat) (by simp [hfn])
  obtain ⟨f_added, F_added⟩ := c.defs (d := d_added) (by simp [hfn])
  obtain ⟨f_multiplied, F_multiplied⟩ := c.defs (d := d_multiplied) (by simp [hfn])
  obtain ⟨f_divided, F_divided⟩ := c.defs (d := d_divided) (by simp [hfn])
  obtain ⟨f_byfloats, F_byfloats⟩ := c.defs (d := d_byfloats) (by simp [hfn])
  obtain ⟨f_arith, F_arith⟩ := c.defs (d := d_arith) (by simp [hfn])
  obtain ⟨f_placeof, F_placeof⟩ := c.defs (d := d_placeof) (by simp [hfn])
  obtain ⟨f_orderof, F_orderof⟩ := c.defs (d := d_orderof) (by simp [hfn])
  obtain ⟨f_compare, F_compare⟩ := c.defs (d := d_compare) (by simp [hfn])
  obtain ⟨f_same, F_same⟩ := c.defs (d := d_same) (by simp [hfn])
  obtain ⟨f_iswithin, F_iswithin⟩ := c.defs (d := d_iswithin) (by simp [hfn])
  obtain ⟨f_ForPlan_init, F_ForPlan_init⟩ := c.defs (d := d_ForPlan_init) (by simp [hfn])
  obtain ⟨f_ForPlan_goeson, F_ForPlan_goeson⟩ := c.defs (d := d_ForPlan_goeson) (by simp [hfn])
  obtain ⟨f_wholeplan, F_wholeplan⟩ := c.defs (d := d_wholeplan) (by simp [hfn])
  obtain ⟨f_forplan, F_forplan⟩ := c.defs (d := d_forplan) (by simp [hfn])
  obtain ⟨f_Lwell, F_Lwell⟩ := c.defs (d := d_Lwell) (by simp [hfn])
  obtain ⟨f_Ldraw, F_Ldraw⟩ := c.defs (d := d_Ldraw) (by simp [hfn])
  obtain ⟨f_Lone, F_Lone⟩ := c.defs (d := d_Lone) (by simp [hfn])
  obtain ⟨f_Lgreat, F_Lgreat⟩ := c.defs (d := d_Lgreat) (by simp [hfn])
  obtain ⟨f_Lfinite, F_Lfinite⟩ := c.defs (d := d_Lfinite) (by simp [hfn])
  obtain ⟨f_Lfloat, F_Lfloat⟩ := c.defs (d := d_Lfloat) (by simp [hfn])
  obtain ⟨f_Lint, F_Lint⟩ := c.defs (d := d_Lint) (by simp [hfn])
  obtain ⟨f_Lnumber, F_Lnumber⟩ := c.defs (d := d_Lnumber) (by simp [hfn])
  obtain ⟨f_Lsaid, F_Lsaid⟩ := c.defs (d := d_Lsaid) (by simp [hfn])
  obtain ⟨f_Lisnumber, F_Lisnumber⟩ := c.defs (d := d_Lisnumber) (by simp [hfn])
  obtain ⟨f_Ldueofints, F_Ldueofints⟩ := c.defs (d := d_Ldueofints) (by simp [hfn])
  obtain ⟨f_Ldue, F_Ldue⟩ := c.defs (d := d_Ldue) (by simp [hfn])
  obtain ⟨f_Lisalike, F_Lisalike⟩ := c.defs (d := d_Lisalike) (by simp [hfn])
  obtain ⟨f_Lcountright, F_Lcountright⟩ := c.defs (d := d_Lcountright) (by simp [hfn])
  obtain ⟨f_law, F_law⟩ := c.defs (d := d_law) (by simp [hfn])
  have e := hfa'.symm.trans (glo "law" (by simp [hglo]))
  cases e
  have b := FunD.bindsA (ps := ["_law_script"]) F_law fun _ _ _ _ _ _ us hl => match us, hl with | [_], _ => rfl
  refine ⟨f_law, fun s v => b s [v] rfl, fun base _ _ => ?_⟩
  have c_isplain : Fn P w K mg base CX0 1 "is_plain" _ [] _ := fn_mk F_isplain (glo "is_plain" (by simp [hglo])) (ok_isplain F_isplain B) (fun _ _ _ _ _ _ us hl => match us, hl with | [_], _ => rfl)
  have c_reduced : Fn P w K mg base CX0 1 "reduced" _ [] _ := fn_mk F_reduced (glo "reduced" (by simp [hglo])) (ok_reduced F_reduced B) (fun _ _ _ _ _ _ us hl => match us, hl with | [_, _], _ => rfl)
  have c_fits : Fn P w K mg base CX0 1 "fits" _ [] _ := fn_mk F_fits (glo "fits" (by simp [hglo])) (ok_fits F_fits B i_ROOM i_LOWEST i_TOO_GREAT) (fun _ _ _ _ _ _ us hl => match us, hl with | [_, _], _ => rfl)
  have c_signof : Fn P w K mg base CX0 1 "sign_of" _ [] _ := fn_mk F_signof (glo "sign_of" (by simp [hglo])) (ok_signof F_signof) (fun _ _ _ _ _ _ us hl => match us, hl with | [_], _ => rfl)
  have c_Float : Cn P w K mg base CX0 2 "Float" (He.ga K "Float") _ [] _ := cn_mk F_Float_init mk_Float T.mg (ok_Finit F_Float_init B T c_isplain c_reduced c_fits) (fun _ _ _ _ _ _ us hl => match us, hl with | [_, _, _, _], _ => rfl)
  have c_Float_ratio : Mt P w K mg base CX0 1 (He.ga K "Float") "ratio" _ _ := mt_mk F_Float_ratio mt_Float_ratio T.own.cl (ok_ratio F_Float_ratio B T) (fun _ _ _ _ _ _ us hl => match us, hl with | [_], _ => rfl)
  have c_Float_isfinite : Mt P w K mg base CX0 1 (He.ga K "Float") "is_finite" _ _ := mt_mk F_Float_isfinite mt_Float_isfinite T.own.cl (ok_isfinite F_Float_isfinite B T) (fun _ _ _ _ _ _ us hl => match us, hl with | [_], _ => rfl)
  have c_Thrown : CThr P w K mg base (He.ga K "Thrown") := by
    obtain ⟨ds, hd, hb⟩ := FunD.binds1 (ps := ["self", "value", "level"]) F_Thrown_init 2 0 (by show [V.int 1] ≠ []; simp) rfl (fun _ _ _ _ _ _ _ us its hu hi => match us, its, hu, hi with | [_, _], [_], _, _ => ⟨_, rfl, rfl⟩)
    exact ⟨TH, _, _, ds, mt_Thrown_init.at_, y12, ok_Tinit F_Thrown_init TH, hb, hd⟩
  have c_infinity : Fn P w K mg base CX0 4 "infinity" _ [] _ := fn_mk F_infinity (glo "infinity" (by simp [hglo])) (ok_infinity F_infinity c_Float) (fun _ _ _ _ _ _ us hl => match us, hl with | [_], _ => rfl)
  have c_nan : Fn P w K mg base CX0 4 "nan" _ [] _ := fn_mk F_nan (glo "nan" (by simp [hglo])) (ok_nan F_nan c_Float) (fun _ _ _ _ _ _ us hl => match us, hl with | [], _ => rfl)
  have c_nearest : Fn P w K mg base CX0 5 "nearest" _ [] _ := fn_mk F_nearest (glo "nearest" (by simp [hglo])) (ok_nearest F_nearest B i_ROOM i_LOWEST i_TOO_GREAT c_Float c_infinity) (fun _ _ _ _ _ _ us hl => match us, hl with | [_, _, _], _ => rfl)
  have c_isnumber : Fn P w K mg base CX0 2 "is_number" _ [] _ := fn_mk F_isnumber (glo "is_number" (by simp [hglo])) (ok_isnumber F_isnumber B T c_isplain) (fun _ _ _ _ _ _ us hl => match us, hl with | [_], _ => rfl)
  have c_tofloat : Fn P w K mg base CX0 6 "to_float" _ [] _ := fn_mk F_tofloat (glo "to_float" (by simp [hglo])) (ok_tofloat F_tofloat B T c_nearest c_signof) (fun _ _ _ _ _ _ us hl => match us, hl with | [_], _ => rfl)
  have c_added : Fn P w K mg base CX0 6 "added" _ [] _ := fn_mk F_added (glo "added" (by simp [hglo])) (ok_added F_added B T c_Float c_nan c_Float_ratio c_nearest c_signof) (fun _ _ _ _ _ _ us hl => match us, hl with | [_, _], _ => rfl)
  have c_multiplied : Fn P w K mg base CX0 6 "multiplied" _ [] _ := fn_mk F_multiplied (glo "multiplied" (by simp [hglo])) (ok_multiplied F_multiplied B T c_nan c_infinity c_Float_ratio c_nearest) (fun _ _ _ _ _ _ us hl => match us, hl with | [_, _], _ => rfl)
  have c_divided : Fn P w K mg base CX0 6 "divided" _ [] _ := fn_mk F_divided (glo "divided" (by simp [hglo])) (ok_divided F_divided B T c_Float c_nan c_infinity c_Float_ratio c_nearest) (fun _ _ _ _ _ _ us hl => match us, hl with | [_, _], _ => rfl)
  have c_byfloats : Fn P w K mg base CX0 7 "by_floats" _ [] _ := fn_mk F_byfloats (glo "by_floats" (by simp [hglo])) (ok_byfloats F_byfloats B T c_Float c_nan c_added c_multiplied c_divided) (fun _ _ _ _ _ _ us hl => match us, hl with | [_, _, _], _ => rfl)
  have c_arith : Fn P w K mg base CX0 8 "arith" _ [] _ := fn_mk F_arith (glo "arith" (by simp [hglo])) (ok_arith F_arith B T c_byfloats c_tofloat) (fun _ _ _ _ _ _ us hl => match us, hl with | [_, _, _], _ => rfl)
  have c_placeof : Fn P w K mg base CX0 2 "place_of" _ [] _ := fn_mk F_placeof (glo "place_of" (by simp [hglo])) (ok_placeof F_placeof B T i_TOO_GREAT c_Float_isfinite c_Float_ratio) (fun _ _ _ _ _ _ us hl => match us, hl with | [_], _ => rfl)
  have c_orderof : Fn P w K mg base CX0 3 "order_of" _ [] _ := fn_mk F_orderof (glo "order_of" (by simp [hglo])) (ok_orderof F_orderof B c_placeof) (fun _ _ _ _ _ _ us hl => match us, hl with | [_, _], _ => rfl)
  have c_compare : Fn P w K mg base CX0 4 "compare" _ [] _ := fn_mk F_compare (glo "compare" (by simp [hglo])) (ok_compare F_compare B c_orderof) (fun _ _ _ _ _ _ us hl => match us, hl with | [_, _, _], _ => rfl)
  have c_same : Fn P w K mg base CX0 4 "same" _ [] _ := fn_mk F_same (glo "same" (by simp [hglo])) (ok_sameN F_same B T c_isnumber c_orderof) (fun _ _ _ _ _ _ us hl => match us, hl with | [_, _], _ => rfl)
  have c_iswithin : Fn P w K mg base CX0 5 "is_within" _ [] _ := fn_mk F_iswithin (glo "is_within" (by simp [hglo])) (ok_iswithin F_iswithin B c_compare) (fun _ _ _ _ _ _ us hl => match us, hl with | [_, _, _], _ => rfl)
  have c_ForPlan : Cn P w K mg base CX0 1 "ForPlan" (He.ga K "ForPlan") _ [] _ := cn_mk F_ForPlan_init mk_ForPlan TP.mg (ok_Pinit F_ForPlan_init B TP) (fun _ _ _ _ _ _ us hl => match us, hl with | [_, _, _, _, _], _ => rfl)
  have c_ForPlan_goeson : Mt P w K mg base CX0 9 (He.ga K "ForPlan") "goes_on" _ _ := mt_mk F_ForPlan_goeson mt_ForPlan_goeson TP.cl (ok_goeson F_ForPlan_goeson B TP hne c_arith c_iswithin) (fun _ _ _ _ _ _ us hl => match us, hl with | [_], _ => rfl)
  have c_wholeplan : Fn P w K mg base (L2.CX P w) 5 "whole_plan" _ [] _ := fn_mk F_wholeplan (glo "whole_plan" (by simp [hglo])) (ok_wholeplan F_wholeplan B T i_LEAST i_MOST c_Thrown c_isnumber c_orderof c_signof c_Float_isfinite c_Float_ratio c_ForPlan) (fun _ _ _ _ _ _ us hl => match us, hl with | [_, _, _], _ => rfl)
  have c_forplan : Fn P w K mg base (L2.CX P w) 7 "for_plan" _ [] _ := fn_mk F_forplan (glo "for_plan" (by simp [hglo])) (ok_forplan F_forplan B T c_Thrown c_isplain c_isnumber c_wholeplan c_tofloat c_iswithin c_ForPlan) (fun _ _ _ _ _ _ us hl => match us, hl with | [_, _, _], _ => rfl)
  have c_Lwell : Fn P w K mg base CX0 1 "_law_well" _ [] _ := fn_mk F_Lwell (glo "_law_well" (by simp [hglo])) (ok_Lwell F_Lwell B) (fun _ _ _ _ _ _ us hl => match us, hl with | [_], _ => rfl)
  have c_Ldraw : Fn P w K mg base CX0 1 "_law_draw" _ [] _ := fn_mk F_Ldraw (glo "_law_draw" (by simp [hglo])) (ok_Ldraw F_Ldraw B) (fun _ _ _ _ _ _ us hl => match us, hl with | [_, _], _ => rfl)
  have c_Lone : Fn P w K mg base CX0 2 "_law_one" _ [] _ := fn_mk F_Lone (glo "_law_one" (by simp [hglo])) (ok_Lone F_Lone B c_Ldraw) (fun _ _ _ _ _ _ us hl => match us, hl with | [_, _], _ => rfl)
  have c_Lgreat : Fn P w K mg base CX0 2 "_law_great" _ [] _ := fn_mk F_Lgreat (glo "_law_great" (by simp [hglo])) (ok_Lgreat F_Lgreat B c_Ldraw) (fun _ _ _ _ _ _ us hl => match us, hl with | [_, _], _ => rfl)
  have c_Lfinite : Fn P w K mg base CX0 3 "_law_finite" _ [] _ := fn_mk F_Lfinite (glo "_law_finite" (by simp [hglo])) (ok_Lfinite F_Lfinite B c_Ldraw c_Lone c_Lgreat) (fun _ _ _ _ _ _ us hl => match us, hl with | [_], _ => rfl)
  have c_Lfloat : Fn P w K mg base CX0 4 "_law_float" _ [] _ := fn_mk F_Lfloat (glo "_law_float" (by simp [hglo])) (ok_Lfloat F_Lfloat B c_Float c_Ldraw c_Lone c_Lfinite) (fun _ _ _ _ _ _ us hl => match us, hl with | [_], _ => rfl)
  have c_Lint : Fn P w K mg base CX0 3 "_law_int" _ [] _ := fn_mk F_Lint (glo "_law_int" (by simp [hglo])) (ok_Lint F_Lint B c_Ldraw c_Lone c_Lgreat) (fun _ _ _ _ _ _ us hl => match us, hl with | [_], _ => rfl)
  have c_Lnumber : Fn P w K mg base CX0 5 "_law_number" _ [] _ := fn_mk F_Lnumber (glo "_law_number" (by simp [hglo])) (ok_Lnumber F_Lnumber B c_Float c_Ldraw c_Lone c_Lint c_Lfloat) (fun _ _ _ _ _ _ us hl => match us, hl with | [_], _ => rfl)
  have c_Lsaid : Fn P w K mg base CX0 10 "_law_said" _ [] _ := fn_mk F_Lsaid (glo "_law_said" (by simp [hglo])) (ok_Lsaid F_Lsaid B TH TP hne c_forplan c_ForPlan_goeson) (fun _ _ _ _ _ _ us hl => match us, hl with | [_, _, _], _ => rfl)
  have c_Lisnumber : Fn P w K mg base CX0 1 "_law_is_number" _ [] _ := fn_mk F_Lisnumber (glo "_law_is_number" (by simp [hglo])) (ok_Lisnumber F_Lisnumber B T) (fun _ _ _ _ _ _ us hl => match us, hl with | [_], _ => rfl)
  have c_Ldueofints : Fn P w K mg base CX0 5 "_law_due_of_ints" _ [] _ := fn_mk F_Ldueofints (glo "_law_due_of_ints" (by simp [hglo])) (ok_Ldueofints F_Ldueofints B c_compare c_Lisnumber) (fun _ _ _ _ _ _ us hl => match us, hl with | [_, _, _], _ => rfl)
  have c_Ldue : Fn P w K mg base CX0 9 "_law_due" _ [] _ := fn_mk F_Ldue (glo "_law_due" (by simp [hglo])) (ok_Ldue F_Ldue B T c_compare c_arith c_tofloat c_Lisnumber c_Ldueofints) (fun _ _ _ _ _ _ us hl => match us, hl with | [_, _, _], _ => rfl)
  have c_Lisalike : Fn P w K mg base CX0 5 "_law_is_alike" _ [] _ := fn_mk F_Lisalike (glo "_law_is_alike" (by simp [hglo])) (ok_Lisalike F_Lisalike B T c_same) (fun _ _ _ _ _ _ us hl => match us, hl with | [_, _], _ => rfl)
  have c_Lcountright : Fn P w K mg base CX0 11 "_law_count_right" _ [] _ := fn_mk F_Lcountright (glo "_law_count_right" (by simp [hglo])) (ok_Lcountright F_Lcountright B T c_Float c_Ldraw c_Lone c_Lsaid c_Ldue c_Lisalike) (fun _ _ _ _ _ _ us hl => match us, hl with | [_], _ => rfl)
  exact ok_law F_law B T c_Float c_Lwell c_Ldraw c_Lone c_Lnumber c_Lsaid c_Ldue c_Lisalike c_Lcountright
end Up
open PySem PySem.W PySem.Calls PyProof.Rows
theorem PySem.Challenge.cw_upvalues_k08_rounds_of_numbers_holds : PySem.Challenge.rw_upvalues_k08_rounds_of_numbers.Holds := by
  w_on; o_law
  refine HandSHeadRun.head_any (r := OpenLaw.row PySem.Challenge.rw_upvalues_k08_rounds_of_numbers) (q := view (OpenLaw.row PySem.Challenge.rw_upvalues_k08_rounds_of_numbers).prog [56]) (H := Up.hk) (ob := Up.hob) (M := 6000) (loose := Up.hloose) (d := HandSHeadRun.topDef (OpenLaw.row PySem.Challenge.rw_upvalues_k08_rounds_of_numbers).prog 56) (kwd := []) Up.hob_eq
    (by kernel_rfl) (fun s => by kernel_rfl) Up.hrun (by kernel_rfl) (by kernel_rfl) (by kernel_rfl) (by rfl) (by first | assumption | decide +kernel) (by decide +kernel) ⟨rfl, rfl, rfl, rfl, rfl, by decide +kernel⟩ ?hw ?hc
  case hw => w_witness2
  case hc =>
    refine L2.walk_ofE (l := PySem.Challenge.rw_upvalues_k08_rounds_of_numbers) (n := 63) (k := 12) (x := "_law_script") (CX := L2.CX0) rfl (by decide) (by kernel_rfl) ⟨rfl, by decide, by decide⟩ ?F (fun _ _ _ _ z => z)
    intro w mg fa h Y G hmg0
    obtain ⟨K, KX, c⟩ := Y
    have hmg : mg ("law" : PySem.Str) = some (.ref fa) := by
      have e : (HandSHeadRun.topDef (OpenLaw.row PySem.Challenge.rw_upvalues_k08_rounds_of_numbers).prog 56).name = ("law" : PySem.Str) := by kernel_rfl
      rw [← e]
      exact hmg0
    obtain ⟨fd, hb, hF⟩ := Up.facts (P := (PySem.Challenge.rw_upvalues_k08_rounds_of_numbers).prog) (w := w) KX G hmg c
    exact ⟨K, fd, Up.spLaw K, KX, hb, fun H a ns hl _ hS => ⟨a, ns, rfl, hS, hl, fun _ => rfl⟩, hF⟩
#print axioms PySem.Challenge.cw_upvalues_k08_rounds_of_numbers_holds
