import PyProof.Rows.All
import Wide.All
import OpenK.AllK
import Wide.FinOn
import PyProof.EqAt
import PyProof.EqKinds
import PyProof.TupleCall
import HandS.ForMost
import HandS.IsInst
import HandS.Wide
import HandS.WideBits
import HandS.TupAny
import HandS.Deep
import HandS.Flow
import HandS.Defaults
import HandS.Exc
import HandS.WordsExc
import HandS.Codes
import HandS.More
import HandS.Walk
import KE.KStateDown
import HandS.Head0
import HandS.Head1
import HandS.Head2
import HandS.HeadEnd
import HandS.HeadHook1
import HandS.HeadHook2
import HandS.HeadHook3
import HandS.HeadHook4
import PySem.Challenge.RW_upvalues_k05_whole_order_of_numbers
set_option Elab.async false
set_option linter.all false
set_option maxRecDepth 100000
set_option maxHeartbeats 4000000
namespace Up
open PySem PySem.Spec PyProof.Rows L2

theorem sz {n : Nat} (h : Nat.ble n 100000 = true) : n ≤ sizeLine := Nat.le_trans (Nat.le_of_ble_eq_true h) (by decide)
/-! ### a new object, by what is known of the heap behind it -/
def NewAt (H : Hp) (o : HO) (Q : VK) : Prop := ∀ p H', H p = none → Same H H' → H' p = some o → (∀ b, b ≠ p → H' b = H b) → Q (.ref p) H'
theorem NewAt.all {H : Hp} {o : HO} {Q : VK} (h : NewAt H o Q) : ∀ p, H p = none → Q (.ref p) (upd H p o) := fun p hp =>
  h p _ hp (fun b u e => by rw [upd_ne (ne_of_none e hp)]; exact e) upd_same fun b hb => upd_ne hb
def tTupN (t : TA) : TE := fun σ H Q => t σ H fun xs H1 => xs.length ≤ sizeLine ∧ NewAt H1 (.tup xs) Q
def tLstN (t : TA) : TE := fun σ H Q => t σ H fun xs H1 => xs.length ≤ sizeLine ∧ NewAt H1 (.lst xs) Q
section
variable {X : Cx} {es : List Expr} {t : TA} {pos : Pos}
theorem pe_tupN {x1} (h : PA X es t) : PE X (.Tuple es x1 pos) (tTupN t) := by
  refine ⟨fun pins s σ H Q I hq => ?_⟩
  refine wpAny_Tuple_spliced (thn (h.run pos pins s σ H _ I hq) fun us s1 ⟨xs, H1, I1, r, z, q⟩ => ⟨(by rw [← r.length]; exact z), ?_⟩)
  exact ⟨.ref s1.heap.objs.size, upd H1 s1.heap.objs.size (.tup xs), I1.laid (t' := s1.toks) (fun b u e => Heap.get?_push_of_some _ e) (Nat.le_refl _) ⟨z, us, r, ⟨_, Heap.get?_push_size _ rfl, rfl, _, rfl⟩⟩, rfl, q.all _ (I1.hok.fresh (Nat.le_refl _))⟩
theorem pe_lstN (h : PA X es t) : PE X (.List es pos) (tLstN t) := by
  refine ⟨fun pins s σ H Q I hq => ?_⟩
  refine wpAny_List_spliced (thn (h.run pos pins s σ H _ I hq) fun us s1 ⟨xs, H1, I1, r, z, q⟩ => ⟨(by rw [← r.length]; exact z), ?_⟩)
  exact ⟨.ref s1.heap.objs.size, upd H1 s1.heap.objs.size (.lst xs), I1.laid (t' := s1.toks) (fun b u e => Heap.get?_push_of_some _ e) (Nat.le_refl _) ⟨z, us, 0, r, Heap.get?_push_size _ rfl⟩, rfl, q.all _ (I1.hok.fresh (Nat.le_refl _))⟩
end
/-! ### operators by the kinds of their values -/
section
variable {X : Cx} {f : Value → Value → Sem Value} {r r' : R2}
theorem op_or (h : OpR X f r) (h' : OpR X f r') : OpR X f (fun x y H Q => r x y H Q ∨ r' x y H Q) := by
  intro pins s σ H x y v u Q I rx ry q
  rcases q with q | q
  · exact h pins s σ H x y v u Q I rx ry q
  · exact h' pins s σ H x y v u Q I rx ry q
theorem op_wk (h : OpR X f r) (k : ∀ x y H Q, r' x y H Q → r x y H Q) : OpR X f r' := by
  intro pins s σ H x y v u Q I rx ry q
  exact h pins s σ H x y v u Q I rx ry (k _ _ _ _ q)
theorem op_wh {S : Prop} (h : S → OpR X f r) (k : ∀ x y H Q, r' x y H Q → S ∧ r x y H Q) : OpR X f r' := by
  intro pins s σ H x y v u Q I rx ry q
  exact h (k _ _ _ _ q).1 pins s σ H x y v u Q I rx ry (k _ _ _ _ q).2
end
/-- two lists that are read -/
def oCatS (K : PySem.W.Frag) : R2 := fun x y H Q => ∃ a b xs ys, x = .ref a ∧ y = .ref b ∧ SqL K H a xs ∧ SqL K H b ys ∧ xs.length + ys.length ≤ sizeLine ∧ NewAt H (.lst (xs ++ ys)) Q
theorem op_catS {X : Cx} : OpR X (binaryOp .Add) (oCatS X.K) := by
  intro pins s σ H x y v u Q I rx ry h
  obtain ⟨a, b, xs, ys, rfl, rfl, ha, hb, hz, q⟩ := h
  cases rx
  cases ry
  obtain ⟨its, r1, p1, _⟩ := I.list ha
  obtain ⟨jts, r2, p2, _⟩ := I.list hb
  have l1 := r1.length
  have l2 := r2.length
  obtain ⟨⟨c1, d1, t1, z1⟩, n1, e1, k1, _, w1⟩ := p1
  obtain ⟨⟨c2, d2, t2, z2⟩, n2, e2, k2, _, w2⟩ := p2
  simp only at k1 w1 k2 w2
  subst k1 w1 k2 w2
  refine concat_meets (S := _) ⟨_, e1, rfl⟩ ⟨_, e2, rfl⟩ noFill_list_add seq_list_add PySem.F.slot_list_add PySem.F.entry_list_add (PySem.F.args_list_add_2 _ _) (list_addW a b its.toArray jts.toArray n1 n2 d1 d2 z1 z2 (by rw [List.size_toArray, List.size_toArray]; omega)) ⟨e1, e2, ?_⟩
  rw [show its.toArray ++ jts.toArray = (its ++ jts).toArray by simp]
  exact ⟨.ref _, _, I.lnew (t' := s.toks) (r1.append r2) (by rw [List.length_append]; omega), rfl, q.all _ I.fresh⟩
/-- two tuples -/
def oCatU (K : PySem.W.Frag) : R2 := fun x y H Q => ∃ a b xs ys, x = .ref a ∧ y = .ref b ∧ SqT K H a xs ∧ SqT K H b ys ∧ xs.length + ys.length ≤ sizeLine ∧ xs ≠ [] ∧ ys ≠ [] ∧ NewAt H (.tup (xs ++ ys)) Q
/-- a + b -/
def oAdd (K : PySem.W.Frag) : R2 := fun x y H Q => match x, y with
  | .int i, .int j => Q (.int (i + j)) H
  | .str a, .str b => a.length + b.length ≤ sizeLine ∧ Q (.str (a ++ b)) H
  | .ref a, .ref b => oCatS K (.ref a) (.ref b) H Q ∨ oCatU K (.ref a) (.ref b) H Q
  | _, _ => False
theorem op_oAdd {X : Cx} : OpR X (binaryOp .Add) (oAdd X.K) := by
  refine op_wk (op_or op_add (op_or op_add_str (op_or op_catS op_catA))) fun x y H Q q => ?_
  cases x <;> cases y <;> first | exact q.elim | skip
  · exact .inl ⟨_, _, rfl, rfl, q⟩
  · exact .inr (.inl ⟨_, _, rfl, rfl, q⟩)
  · rcases q with q | ⟨c, d, xs, ys, e1, e2, h1, h2, hz, n1, n2, q⟩
    · exact .inr (.inr (.inl q))
    · exact .inr (.inr (.inr ⟨c, d, xs, ys, e1, e2, h1, h2, hz, fun z => absurd z n1, fun _ z => absurd z n2, fun _ _ => q.all⟩))
/-- a - b, of ints and of bools -/
def oSub : R2 := fun x y H Q => match x, y with
  | .int i, .int j => Q (.int (i - j)) H
  | .bl i, .bl j => Q (.int (b2i i - b2i j)) H
  | _, _ => False
theorem op_sub_bb {X : Cx} : OpR X (binaryOp .Sub) (fun x y H Q => ∃ i j, x = .bl i ∧ y = .bl j ∧ Q (.int (b2i i - b2i j)) H) := by
  intro pins s σ H x y v u Q I rx ry h
  obtain ⟨i, j, rfl, rfl, q⟩ := h
  cases rx
  cases ry
  exact sub_bool ⟨.int (b2i i - b2i j), H, I.tok _, ⟨_, rfl⟩, q⟩
theorem op_oSub {X : Cx} : OpR X (binaryOp .Sub) oSub := by
  refine op_wk (op_or op_sub op_sub_bb) fun x y H Q q => ?_
  cases x <;> cases y <;> first | exact q.elim | skip
  · exact .inr ⟨_, _, rfl, rfl, q⟩
  · exact .inl ⟨_, _, rfl, rfl, q⟩
/-- a * b -/
def oMul : R2 := fun x y H Q => match x, y with
  | .int i, .int j => IntMulOk i j ∧ Q (.int (i * j)) H
  | .ref a, .int k => ∃ xs, H a = some (.lst xs) ∧ -(2 ^ 63) ≤ k ∧ k < 2 ^ 63 ∧ xs.length * k.toNat ≤ sizeLine ∧ NewAt H (.lst (List.replicate k.toNat xs).flatten) Q
  | _, _ => False
theorem op_mulK {X : Cx} : OpR X (binaryOp .Mult) (rI IntMulOk fun i j => .int (i * j)) := opI fun _ _ _ _ _ _ _ hc q => mul_int q hc
theorem op_oMul {X : Cx} : OpR X (binaryOp .Mult) oMul := by
  refine op_wk (op_or op_mulK op_rep) fun x y H Q q => ?_
  cases x <;> cases y <;> first | exact q.elim | skip
  · exact .inl ⟨_, _, rfl, rfl, q⟩
  · obtain ⟨xs, h1, h2, h3, h4, q⟩ := q
    exact .inr ⟨_, _, xs, rfl, rfl, h1, h2, h3, h4, q.all⟩
/-- a // b -/
def oDiv : R2 := fun x y H Q => match x, y with
  | .int i, .int j => (j ≠ 0 ∧ j.natAbs.log2 < 9000) ∧ Q (.int (i.fdiv j)) H
  | _, _ => False
theorem op_oDiv {X : Cx} : OpR X (binaryOp .FloorDiv) oDiv := by
  refine op_wk (r := rI (fun _ j => j ≠ 0 ∧ j.natAbs.log2 < 9000) fun i j => .int (i.fdiv j)) (opI fun _ _ _ _ _ _ _ hc q => floordiv_int hc.1 q (.inl (PyProof.noPylong_of_log2 hc.2))) fun x y H Q q => ?_
  cases x <;> cases y <;> first | exact q.elim | skip
  exact ⟨_, _, rfl, rfl, q⟩
/-- a % b -/
def oMod : R2 := fun x y H Q => match x, y with
  | .int i, .int j => j ≠ 0 ∧ Q (.int (i.fmod j)) H
  | _, _ => False
theorem op_oMod {X : Cx} : OpR X (binaryOp .Mod) oMod := by
  refine op_wk op_modN fun x y H Q q => ?_
  cases x <;> cases y <;> first | exact q.elim | skip
  exact ⟨_, _, rfl, rfl, q⟩
/-- an operator of two ints with a condition -/
def oII (C : Int → Int → Prop) (g : Int → Int → V) : R2 := fun x y H Q => match x, y with
  | .int i, .int j => C i j ∧ Q (g i j) H
  | _, _ => False
theorem op_oII {X : Cx} {f : Value → Value → Sem Value} {C : Int → Int → Prop} {g : Int → Int → V} (h : OpR X f (rI C g)) : OpR X f (oII C g) := by
  refine op_wk h fun x y H Q q => ?_
  cases x <;> cases y <;> first | exact q.elim | skip
  exact ⟨_, _, rfl, rfl, q⟩
def oI0 (g : Int → Int → V) : R2 := fun x y H Q => match x, y with
  | .int i, .int j => Q (g i j) H
  | _, _ => False
theorem op_oI0 {X : Cx} {f : Value → Value → Sem Value} {g : Int → Int → V} (h : OpR X f (rI0 g)) : OpR X f (oI0 g) := by
  refine op_wk h fun x y H Q q => ?_
  cases x <;> cases y <;> first | exact q.elim | skip
  exact ⟨_, _, rfl, rfl, q⟩
abbrev oPow : R2 := oII CPow fun i j => .int (i ^ j.toNat)
abbrev oShl : R2 := oII CShl fun i j => .int (i * 2 ^ j.toNat)
abbrev oShr : R2 := oII (fun _ j => 0 ≤ j) fun i j => .int (i / 2 ^ j.toNat)
abbrev oAnd : R2 := oI0 fun i j => .int (Builtin.bitAnd i j)
abbrev oOr : R2 := oI0 fun i j => .int (Builtin.bitOr i j)
abbrev oXor : R2 := oI0 fun i j => .int (Builtin.bitXor i j)
theorem op_oPow {X : Cx} : OpR X (binaryOp .Pow) oPow := op_oII op_pow
theorem op_oShl {X : Cx} : OpR X (binaryOp .LShift) oShl := op_oII op_shlW
theorem op_oShr {X : Cx} : OpR X (binaryOp .RShift) oShr := op_oII op_shr
theorem op_oAnd {X : Cx} : OpR X (binaryOp .BitAnd) oAnd := op_oI0 op_and
theorem op_oOr {X : Cx} : OpR X (binaryOp .BitOr) oOr := op_oI0 L2.op_or
theorem op_oXor {X : Cx} : OpR X (binaryOp .BitXor) oXor := op_oI0 op_xor
/-! ### comparisons -/
def oCmp (g : Int → Int → Bool) (k : Str → Str → Bool) : R2 := fun x y H Q => match x, y with
  | .int i, .int j => Q (.bl (g i j)) H
  | .str a, .str b => Q (.bl (k a b)) H
  | _, _ => False
theorem op_oCmp {X : Cx} {f : Value → Value → Sem Value} {g : Int → Int → Bool} {k : Str → Str → Bool} (h : OpR X f (rI0 fun i j => .bl (g i j))) (h' : OpR X f (fun x y H Q => ∃ i j, x = .str i ∧ y = .str j ∧ Q (.bl (k i j)) H)) : OpR X f (oCmp g k) := by
  refine op_wk (op_or h h') fun x y H Q q => ?_
  cases x <;> cases y <;> first | exact q.elim | skip
  · exact .inl ⟨_, _, rfl, rfl, q⟩
  · exact .inr ⟨_, _, rfl, rfl, q⟩
abbrev oLt : R2 := oCmp (fun i j => decide (i < j)) fun a b => decide (a.cps.toList < b.cps.toList)
theorem op_oLt {X : Cx} : OpR X (compareOp .Lt) oLt := op_oCmp op_lt op_lt_str
abbrev oLe : R2 := oI0 fun i j => .bl (decide (i ≤ j))
abbrev oGt : R2 := oI0 fun i j => .bl (decide (j < i))
abbrev oGe : R2 := oI0 fun i j => .bl (decide (j ≤ i))
theorem op_oLe {X : Cx} : OpR X (compareOp .LtE) oLe := op_oI0 op_le
theorem op_oGt {X : Cx} : OpR X (compareOp .Gt) oGt := op_oI0 op_gt
theorem op_oGe {X : Cx} : OpR X (compareOp .GtE) oGe := op_oI0 op_ge
/-- a == b of scalars, of data -/
def oEq (K : PySem.W.Frag) : R2 := fun x y H Q => rEq x y H Q ∨ rEqD K x y H Q
def oNe (K : PySem.W.Frag) : R2 := fun x y H Q => rNe x y H Q ∨ rNeD K x y H Q
theorem op_oEq {X : Cx} (hu : X.A.units + 64 < cLine) : OpR X (compareOp .Eq) (oEq X.K) := op_or op_eq (op_eqD hu)
theorem op_oNe {X : Cx} (hu : X.A.units + 64 < cLine) : OpR X (compareOp .NotEq) (oNe X.K) := op_or op_ne (op_neD hu)

/-! ### slices, divmod -/
def oSlL (K : PySem.W.Frag) : V → Option Int → Option Int → Hp → VK → Prop := fun x lo hi H Q => ∃ a xs, x = .ref a ∧ SqL K H a xs ∧ NewAt H (.lst (cutV xs lo hi)) Q
theorem sl_lstN {X : Cx} : SlR X (oSlL X.K) := by
  intro pins s σ H x v vl vu lo hi sl Q I rx hs pl pu h
  obtain ⟨a, xs, e, hq, q⟩ := h
  exact sl_list pins s σ H x v vl vu lo hi sl Q I rx hs pl pu ⟨a, xs, e, hq, q.all⟩
def rDivm : List V → Hp → VK → Prop := fun xs H Q => ∃ i j, xs = [.int i, .int j] ∧ (0 < j ∧ j.natAbs.log2 < 9000) ∧ NewAt H (.tup [.int (i / j), .int (i % j)]) Q
theorem call_divmodK {X : Cx} : CallR X (.builtin "divmod") rDivm := by
  intro pins s σ H xs us Q I r h
  obtain ⟨i, j, e, hc, q⟩ := h
  exact call_divmodW pins s σ H xs us Q I r ⟨i, j, e, ⟨hc.1, PyProof.noPylong_of_log2 hc.2⟩, q.all⟩
/-! ### targets: o.f of an instance -/
def gFld (K : PySem.W.Frag) (to : TE) (f : Str) : TG := fun v σ H Q => to σ H fun x H1 => ∃ a C dx fs, x = .ref a ∧ H1 a = some (.ins C dx fs) ∧ Cls K C ∧ NoAttr K C f ∧ fs.length < 1000 ∧ Q σ (upd H1 a (.ins C dx (putF f v fs)))
theorem pg_fld {X : Cx} {o : Expr} {f : Str} {pos : Pos} {to : TE} (ho : PE X o to)
    (ha : ∀ v, assign (.Attribute o f pos) X.env v = (do
      let ov ← holding [v] (eval o X.env)
      standAt pos.atName
      holding [v, ov] (setAttr ov f v)
      release [v, ov] []) := by intro _; rfl) : PG X (.Attribute o f pos) (gFld X.K to f) := by
  refine ⟨fun pins s σ H v u Q I r h => ?_⟩
  rw [ha]
  refine wpAny_bind (wpAny_holding (thn (ho.run pins s σ H _ I h) fun ov s1 ⟨x, H1, I1, r1, a, C, dx, fs, ex, ea, c, n, l, q1⟩ => ?_))
  subst ex
  obtain rfl : ov = Value.ref a := r1
  refine wpAny_bind (wpAny_standAt (wpAny_bind (wpAny_holding (setattr_ok I1 ea c n l r fun s3 I3 => ?_))))
  exact wpAny_release ⟨σ, _, I3, q1⟩

/-! ### a def of the text, called by its name -/
section
variable (P : Program) (w : World) (K : PySem.W.Frag) (mg : Str → Option Value) (base : Heap)
/-- the module's name x holds a def that keeps sp -/
def Fn (CX : CXT) (k : Nat) (x : Str) (ps : List Str) (dvs : List V) (sp : Sp) : Prop :=
  ∃ f fd ds, FnOk P w K mg base CX k f fd ps sp ∧ mg x = some (.ref f) ∧ PySem.W.keepIn K (.ref f) = true ∧ Binds K fd ps ds ∧ Vals dvs ds
/-- the class at C has a method m that keeps sp -/
def Mt (CX : CXT) (k : Nat) (C : Addr) (m : Str) (ps : List Str) (sp : Sp) : Prop :=
  ∃ f fd, FnOk P w K mg base CX k f fd ps sp ∧ Meth K C m f ∧ Binds K fd ps [] ∧ Cls K C
/-- the name x holds a class at C that is made by an __init__ that keeps sp -/
def Cn (CX : CXT) (k : Nat) (x : Str) (C : Addr) (ps : List Str) (dvs : List V) (sp : Sp) : Prop :=
  ∃ f fd ds, FnOk P w K mg base CX k f fd ps sp ∧ Mk K C f ∧ mg x = some (.ref C) ∧ Binds K fd ps ds ∧ Vals dvs ds
end
section
variable {X : Cx} {CX : CXT} {k : Nat} {C : Addr} {x m : Str} {ps : List Str} {dvs : List V} {sp : Sp} {E : XK} {p pos apos : Pos} {e o : Expr} {es : List Expr} {ta : TE} {t : TA}
theorem pe_fn (F : Fn X.prog X.w X.K X.mg X.base CX k x ps dvs sp) (hr : Room k X.A) (hx : Passes CX X E) (ha : PA X (e :: es) t) (hg : Gl X x := by rfl)
    (hdb : (x == ("__debug__" : Str)) = false := by decide) (he : starEach (e :: es) X.env = (false, eval e X.env) :: starEach es X.env := by rfl) (hpl : (backTo pos (starEach es X.env)).any (·.1) = false := by rfl) :
    PE X (.Call (.Name x p) (e :: es) [] pos) (tCall sp dvs E t) := by
  obtain ⟨f, fd, ds, F, hm, hk, hb, hd⟩ := F
  exact pe_call F hr hg hm hk hb hd hx ha hdb he hpl
theorem pe_fn0 (F : Fn X.prog X.w X.K X.mg X.base CX k x ps dvs sp) (hr : Room k X.A) (hx : Passes CX X E) (hg : Gl X x := by rfl)
    (hdb : (x == ("__debug__" : Str)) = false := by decide) : PE X (.Call (.Name x p) [] [] pos) (tCall sp dvs E tNil) := by
  obtain ⟨f, fd, ds, F, hm, hk, hb, hd⟩ := F
  exact pe_call0 F hr hg hm hk hb hd hx hdb
/-- C(..): a new instance and its dict, then __init__ -/
def MakeR (C : Addr) (sp : Sp) (vs : List V) (H : Hp) (Q : VK) (E : XK) : Prop := ∀ x dx H', H x = none → H dx = none → dx ≠ x → Same H H' → H' x = some (.ins C dx []) → (∀ b, b ≠ x → b ≠ dx → H' b = H b) →
  sp (.ref x :: vs) H' (fun v H2 => v = .non ∧ Q (.ref x) H2) E
def tMakeN (C : Addr) (sp : Sp) (dvs : List V) (E : XK) (t : TA) : TE := fun σ H Q => t σ H fun vs H1 => MakeR C sp (vs ++ dvs) H1 Q E
theorem pe_cn (F : Cn X.prog X.w X.K X.mg X.base CX k x C ps dvs sp) (hr : Room (k + 1) X.A) (hx : Passes CX X E) (ha : PA X (e :: es) t) (hg : Gl X x := by rfl)
    (hdb : (x == ("__debug__" : Str)) = false := by decide) (he : starEach (e :: es) X.env = (false, eval e X.env) :: starEach es X.env := by rfl) (hpl : (backTo pos (starEach es X.env)).any (·.1) = false := by rfl) :
    PE X (.Call (.Name x p) (e :: es) [] pos) (tMakeN C sp dvs E t) := by
  obtain ⟨f, fd, ds, F, hM, hm, hb, hd⟩ := F
  refine ⟨fun pins s σ H Q I h => ?_⟩
  refine wpAny_Call_Name_kw (ld_glob I hg hm ?_ hdb)
  refine PySem.W.callWith_K (h₀ := X.base) I.ok.mod.kin hM.kp (thn (ha.run pos pins s σ H _ I h) fun us s1 ⟨vs, H1, I1, r, q⟩ => ⟨I1.kIn, ?_⟩) he hpl
  refine run_make hM F hr hb hd hx I1 r fun y dy n1 n2 ne => q y dy _ n1 n2 ne (fun b u z => ?_) upd_same fun b hb1 hb2 => ?_
  · rw [upd_ne (ne_of_none z n1), upd_ne (ne_of_none z n2)]; exact z
  · rw [upd_ne hb1, upd_ne hb2]
theorem pe_mt {pl : Sem Bool} (F : Mt X.prog X.w X.K X.mg X.base CX k C m ps sp) (hr : Room k X.A) (hx : Passes CX X E) (he : PE X o ta) (ha : PA X (e :: es) t)
    (hst : starEach (e :: es) X.env = (false, eval e X.env) :: starEach es X.env := by rfl) (hpl : (backTo pos (starEach es X.env)).any (·.1) = false := by rfl)
    (ht : eval (.Call (.Attribute o m apos) (e :: es) [] pos) X.env = (do
      let ov ← eval o X.env
      standAt apos.atName
      let (f, first) ← holding [ov] (getMethod ov m pl)
      callWith pos f first (backTo pos (starEach (e :: es) X.env)) (backToKw pos (keywordEach [] X.env))) := by rfl) :
    PE X (.Call (.Attribute o m apos) (e :: es) [] pos) (tMeth C m sp [] E ta t) := by
  obtain ⟨f, fd, F, hm, hb, c⟩ := F
  exact pe_meth (pl := pl) he c hm F hr hb .nil hx ha hst hpl ht
theorem pe_mt0 {pl : Sem Bool} (F : Mt X.prog X.w X.K X.mg X.base CX k C m ps sp) (hr : Room k X.A) (hx : Passes CX X E) (he : PE X o ta)
    (ht : eval (.Call (.Attribute o m apos) [] [] pos) X.env = (do
      let ov ← eval o X.env
      standAt apos.atName
      let (f, first) ← holding [ov] (getMethod ov m pl)
      callWith pos f first (backTo pos (starEach [] X.env)) (backToKw pos (keywordEach [] X.env))) := by rfl) :
    PE X (.Call (.Attribute o m apos) [] [] pos) (tMeth C m sp [] E ta tNil) := by
  obtain ⟨f, fd, F, hm, hb, c⟩ := F
  exact pe_meth0 (pl := pl) he c hm F hr hb .nil hx ht
end

/-! ### the rules with the written part named (within a comprehension) -/
section
variable {X : Cx} (K : PySem.W.Frag)
theorem call_isiE (h : X.K = K) : CallR X (.builtin "isinstance") (rIsi K) := h ▸ call_isi
theorem call_len_seqE (h : X.K = K) : CallR X (.builtin "len") (fun xs H Q => ∃ p ys, xs = [.ref p] ∧ (SqL K H p ys ∨ SqT K H p ys) ∧ Q (.int ys.length) H) := h ▸ call_len_seq
theorem op_oAddE (h : X.K = K) : OpR X (binaryOp .Add) (oAdd K) := h ▸ op_oAdd
theorem op_oEqE (h : X.K = K) (hu : X.A.units + 64 < cLine) : OpR X (compareOp .Eq) (oEq K) := h ▸ op_oEq hu
theorem op_oNeE (h : X.K = K) (hu : X.A.units + 64 < cLine) : OpR X (compareOp .NotEq) (oNe K) := h ▸ op_oNe hu
theorem op_inE (h : X.K = K) : OpR X (compareOp .In) (rIn K false) := h ▸ op_in_seq
theorem op_notInE (h : X.K = K) : OpR X (compareOp .NotIn) (rIn K true) := h ▸ op_notIn_seq
theorem ix_seqE (h : X.K = K) : IxR X (rIx K) := h ▸ ix_seq
theorem pe_fldE {e : Expr} {f : Str} {pos : Pos} {ta : TE} (h : X.K = K) (he : PE X e ta) (hb : attributeBase e f X.env (eval e X.env) = eval e X.env) : PE X (.Attribute e f pos) (tFld K ta f) := h ▸ pe_fld he hb
end
/-! ### names of the module -/
theorem pe_gint {X : Cx} {x : Str} {i : Int} {pos : Pos} (h : ∃ t, X.mg x = some (.int i t)) (hg : Gl X x := by rfl) (hd : (x == ("__debug__" : Str)) = false := by decide) : PE X (.Name x pos) (tC (.int i)) := by
  obtain ⟨t, h⟩ := h
  exact pe_glob hg h ⟨_, rfl⟩ hd
theorem pe_gref {X : Cx} {x : Str} {C : Addr} {pos : Pos} (h : X.mg x = some (.ref C)) (hg : Gl X x := by rfl) (hd : (x == ("__debug__" : Str)) = false := by decide) : PE X (.Name x pos) (tC (.ref C)) := pe_glob hg h rfl hd
/-- the built-ins that the text does not hide -/
structure Blt (mg : Str → Option Value) : Prop where
  len : mg "len" = none
  int : mg "int" = none
  bool : mg "bool" = none
  str : mg "str" = none
  isinstance : mg "isinstance" = none
  abs : mg "abs" = none
  max : mg "max" = none
  min : mg "min" = none
  divmod : mg "divmod" = none
  range : mg "range" = none
  enumerate : mg "enumerate" = none
  zip : mg "zip" = none
  list : mg "list" = none
  tuple : mg "tuple" = none
  ord : mg "ord" = none
  sorted : mg "sorted" = none
def bltNames : List Str := ["len", "int", "bool", "str", "isinstance", "abs", "max", "min", "divmod", "range", "enumerate", "zip", "list", "tuple", "ord", "sorted"]
theorem blt_of {mg : Str → Option Value} (h : ∀ x ∈ bltNames, mg x = none) : Blt mg := by
  have g : ∀ x, x ∈ bltNames → mg x = none := h
  exact ⟨g _ (by simp [bltNames]), g _ (by simp [bltNames]), g _ (by simp [bltNames]), g _ (by simp [bltNames]), g _ (by simp [bltNames]), g _ (by simp [bltNames]), g _ (by simp [bltNames]), g _ (by simp [bltNames]), g _ (by simp [bltNames]), g _ (by simp [bltNames]), g _ (by simp [bltNames]), g _ (by simp [bltNames]), g _ (by simp [bltNames]), g _ (by simp [bltNames]), g _ (by simp [bltNames]), g _ (by simp [bltNames])⟩
section
variable {X : Cx}
theorem pe_tyInt {pos : Pos} (B : Blt X.mg) (hg : Gl X "int" := by rfl) : PE X (.Name "int" pos) (tC (.ty "int")) := pe_bltn (u := .type "int") hg B.int (by decide +kernel) rfl
theorem pe_tyBool {pos : Pos} (B : Blt X.mg) (hg : Gl X "bool" := by rfl) : PE X (.Name "bool" pos) (tC (.ty "bool")) := pe_bltn (u := .type "bool") hg B.bool (by decide +kernel) rfl
theorem pe_tyStr {pos : Pos} (B : Blt X.mg) (hg : Gl X "str" := by rfl) : PE X (.Name "str" pos) (tC (.ty "str")) := pe_bltn (u := .type "str") hg B.str (by decide +kernel) rfl
end
end Up

set_option Elab.async false
set_option linter.all false
set_option maxRecDepth 100000
set_option maxHeartbeats 4000000
namespace Up
open PySem PySem.Spec PyProof.Rows L2
/-! ### one step of a reading each -/
section
variable {K : PySem.W.Frag} {D : Ends} {σ : L2.St} {H : Hp} {Q : VK} {ta tb te : TE} {t u : TS} {c d : TT}
theorem g_seq (h : t { D with nx := u D } σ H) : tSeq t u D σ H := h
theorem g_ifs (h : c σ H fun b H1 => if b = true then t D σ H1 else u D σ H1) : tIfS c t u D σ H := h
theorem g_asg {g : TG} (h : te σ H fun x H1 => g x σ H1 D.nx) : tAsg te g D σ H := h
theorem g_name {i : Nat} {v : V} {R : L2.St → Hp → Prop} (h : R (σ.set i (some v)) H) : gName i v σ H R := h
theorem g_drop (h : te σ H fun _ H1 => D.nx σ H1) : tDrop te D σ H := h
theorem g_ret (h : te σ H D.rt) : tRet te D σ H := h
theorem g_retN (h : D.rt .non H) : tRetN D σ H := h
theorem g_next (h : D.nx σ H) : tNext D σ H := h
theorem g_sfld {f : Str} (h : te σ H fun y H1 => ta σ H1 fun x H2 => ∃ a C dx fs, x = .ref a ∧ H2 a = some (.ins C dx fs) ∧ Cls K C ∧ NoAttr K C f ∧ fs.length < 1000 ∧ D.nx σ (upd H2 a (.ins C dx (putF f y fs)))) : sFld K ta te f D σ H := h
theorem g_var {i : Nat} {v : V} (e : σ[i]? = some (some v)) (h : Q v H) : tVar i σ H Q := ⟨v, e, h⟩
theorem g_c {v : V} (h : Q v H) : tC v σ H Q := h
theorem g_op {r : R2} (h : ta σ H fun x H1 => tb σ H1 fun y H2 => r x y H2 Q) : tOp r ta tb σ H Q := h
theorem g_un {r : V → Hp → VK → Prop} (h : ta σ H fun x H1 => r x H1 Q) : tUn r ta σ H Q := h
theorem g_neg {i : Int} (h : Q (.int (-i)) H) : rU (fun i => .int (-i)) (.int i) H Q := ⟨i, rfl, h⟩
theorem g_if (h : c σ H fun b H1 => if b = true then ta σ H1 Q else tb σ H1 Q) : tIf c ta tb σ H Q := h
theorem g_cb {r : List V → Hp → VK → Prop} {t : TA} (h : t σ H fun vs H1 => r vs H1 Q) : tCB r t σ H Q := h
theorem g_cons {t : TA} {R : List V → Hp → Prop} (h : ta σ H fun x H1 => t σ H1 fun xs H2 => R (x :: xs) H2) : tCons ta t σ H R := h
theorem g_nil {R : List V → Hp → Prop} (h : R [] H) : tNil σ H R := h
theorem g_bits (h : ta σ H fun x H1 => ∃ i, x = .int i ∧ Q (.int (Builtin.Int.intBits i : Nat)) H1) : tBits ta σ H Q := h
theorem g_call {sp : Sp} {dvs : List V} {E : XK} {t : TA} (h : t σ H fun vs H1 => sp (vs ++ dvs) H1 Q E) : tCall sp dvs E t σ H Q := h
theorem g_fld {f : Str} (h : ta σ H fun x H1 => ∃ a C dx fs v, x = .ref a ∧ H1 a = some (.ins C dx fs) ∧ Cls K C ∧ NoAttr K C f ∧ fs.lookup f = some v ∧ Q v H1) : tFld K ta f σ H Q := h
theorem g_gtup {n : Nat} {t : TGs} {v : V} {R : L2.St → Hp → Prop} (h : ∃ a xs, v = .ref a ∧ SqT K H a xs ∧ xs.length = n ∧ t xs σ H R) : gTup K n t v σ H R := h
theorem g_gcons {t : TG} {u : TGs} {v : V} {r : List V} {R : L2.St → Hp → Prop} (h : t v σ H fun σ' H' => u r σ' H' R) : gCons t u (v :: r) σ H R := ⟨v, r, rfl, h⟩
theorem g_gnil {R : L2.St → Hp → Prop} (h : R σ H) : gNil [] σ H R := ⟨rfl, h⟩
theorem g_gfld {f : Str} {v : V} {R : L2.St → Hp → Prop} (h : ta σ H fun x H1 => ∃ a C dx fs, x = .ref a ∧ H1 a = some (.ins C dx fs) ∧ Cls K C ∧ NoAttr K C f ∧ fs.length < 1000 ∧ R σ (upd H1 a (.ins C dx (putF f v fs)))) : gFld K ta f v σ H R := h
/-! tests -/
section
variable {R : Bool → Hp → Prop} {T : Bool → Prop}
theorem g_tt (h : ta σ H fun x H' => ∃ k, x = .bl k ∧ R k H') : tTest ta σ H R := h
theorem g_tB (h : ta σ H fun x H' => ∃ k, x = .bl k ∧ R k H') : tB ta σ H R := h
theorem g_bl {b : Bool} (h : T b) : ∃ k, V.bl b = .bl k ∧ T k := ⟨b, rfl, h⟩
theorem g_and (h : c σ H fun k H1 => if k = true then d σ H1 R else R false H1) : tAnd c d σ H R := h
theorem g_or (h : c σ H fun k H1 => if k = true then R true H1 else d σ H1 R) : tOr c d σ H R := h
theorem g_not (h : c σ H fun k H1 => R (!k) H1) : tNot c σ H R := h
theorem g_andV (h : ta σ H fun x H1 => ∃ c, x = .bl c ∧ if c = true then tb σ H1 Q else Q (.bl false) H1) : tAndV ta tb σ H Q := h
theorem g_orV (h : ta σ H fun x H1 => ∃ c, x = .bl c ∧ if c = true then Q (.bl true) H1 else tb σ H1 Q) : tOrV ta tb σ H Q := h
theorem g_notV (h : ta σ H fun x H1 => ∃ c, x = .bl c ∧ Q (.bl (!c)) H1) : tNotV ta σ H Q := h
end
/-! ints -/
section
variable {i j : Int}
theorem g_addI (h : Q (.int (i + j)) H) : oAdd K (.int i) (.int j) H Q := h
theorem g_addS {a b : Str} (hz : a.length + b.length ≤ sizeLine) (h : Q (.str (a ++ b)) H) : oAdd K (.str a) (.str b) H Q := ⟨hz, h⟩
theorem g_subI (h : Q (.int (i - j)) H) : oSub (.int i) (.int j) H Q := h
theorem g_subB {i j : Bool} (h : Q (.int (b2i i - b2i j)) H) : oSub (.bl i) (.bl j) H Q := h
theorem g_mulI (hm : IntMulOk i j) (h : Q (.int (i * j)) H) : oMul (.int i) (.int j) H Q := ⟨hm, h⟩
theorem g_divI (hm : j ≠ 0) (hl : j.natAbs.log2 < 9000) (h : Q (.int (i.fdiv j)) H) : oDiv (.int i) (.int j) H Q := ⟨⟨hm, hl⟩, h⟩
theorem g_modI (hm : j ≠ 0) (h : Q (.int (i.fmod j)) H) : oMod (.int i) (.int j) H Q := ⟨hm, h⟩
theorem g_II {C : Int → Int → Prop} {g : Int → Int → V} (hm : C i j) (h : Q (g i j) H) : oII C g (.int i) (.int j) H Q := ⟨hm, h⟩
theorem g_I0 {g : Int → Int → V} (h : Q (g i j) H) : oI0 g (.int i) (.int j) H Q := h
theorem g_cmpI {g : Int → Int → Bool} {k : Str → Str → Bool} (h : Q (.bl (g i j)) H) : oCmp g k (.int i) (.int j) H Q := h
theorem g_bitsI {T : Int → Prop} (h : T i) : ∃ n, V.int i = .int n ∧ T n := ⟨i, rfl, h⟩
theorem g_eqI (h : Q (.bl (decide (i = j))) H) : oEq K (.int i) (.int j) H Q := by
  refine Or.inl ⟨rfl, ?_⟩
  have e : decide (V.int i = V.int j) = decide (i = j) := by simp
  rw [e]; exact h
theorem g_neI (h : Q (.bl (!decide (i = j))) H) : oNe K (.int i) (.int j) H Q := by
  refine Or.inl ⟨rfl, ?_⟩
  have e : decide (V.int i = V.int j) = decide (i = j) := by simp
  rw [e]; exact h
theorem g_eqS {a b : Str} (h : Q (.bl (decide (a = b))) H) : oEq K (.str a) (.str b) H Q := by
  refine Or.inl ⟨rfl, ?_⟩
  have e : decide (V.str a = V.str b) = decide (a = b) := by simp
  rw [e]; exact h
theorem g_neS {a b : Str} (h : Q (.bl (!decide (a = b))) H) : oNe K (.str a) (.str b) H Q := by
  refine Or.inl ⟨rfl, ?_⟩
  have e : decide (V.str a = V.str b) = decide (a = b) := by simp
  rw [e]; exact h
theorem g_eqB {a b : Bool} (h : Q (.bl (decide (a = b))) H) : oEq K (.bl a) (.bl b) H Q := by
  refine Or.inl ⟨rfl, ?_⟩
  have e : decide (V.bl a = V.bl b) = decide (a = b) := by simp
  rw [e]; exact h
theorem g_neB {a b : Bool} (h : Q (.bl (!decide (a = b))) H) : oNe K (.bl a) (.bl b) H Q := by
  refine Or.inl ⟨rfl, ?_⟩
  have e : decide (V.bl a = V.bl b) = decide (a = b) := by simp
  rw [e]; exact h
theorem g_eqx {x y : V} (hs : scal x y = true) (hn : x ≠ y) (h : Q (.bl false) H) : oEq K x y H Q := by
  refine Or.inl ⟨hs, ?_⟩
  rw [decide_eq_false hn]; exact h
theorem g_nex {x y : V} (hs : scal x y = true) (hn : x ≠ y) (h : Q (.bl true) H) : oNe K x y H Q := by
  refine Or.inl ⟨hs, ?_⟩
  rw [decide_eq_false hn]; exact h
theorem g_isN {x : V} (h : Q (.bl (decide (x = .non))) H) : (fun x y H Q => y = V.non ∧ Q (.bl (decide (x = .non))) H : R2) x .non H Q := ⟨rfl, h⟩
end
/-! ifs -/
theorem g_ite {p : Prop} [Decidable p] {A B : Prop} (h1 : p → A) (h2 : ¬ p → B) : if decide p = true then A else B := by
  by_cases h : p
  · rw [if_pos (decide_eq_true h)]; exact h1 h
  · rw [if_neg (by simp [h])]; exact h2 h
theorem g_iten {p : Prop} [Decidable p] {A B : Prop} (h1 : ¬ p → A) (h2 : p → B) : if (!decide p) = true then A else B := by
  by_cases h : p
  · rw [if_neg (by simp [h])]; exact h2 h
  · rw [if_pos (by simp [h])]; exact h1 h
theorem g_iteb {b : Bool} {A B : Prop} (h1 : b = true → A) (h2 : b = false → B) : if b = true then A else B := by
  cases b
  · exact h2 rfl
  · exact h1 rfl
theorem g_yes {p : Prop} [Decidable p] {A B : Prop} (hp : p) (h : A) : if decide p = true then A else B := by
  rw [if_pos (decide_eq_true hp)]; exact h
theorem g_no {p : Prop} [Decidable p] {A B : Prop} (hp : ¬ p) (h : B) : if decide p = true then A else B := by
  rw [if_neg (by simp [hp])]; exact h
theorem g_cut {t u : TS} (R : L2.St → Hp → Prop) (h1 : t { D with nx := R } σ H) (h2 : ∀ σ' H', R σ' H' → u D σ' H') : C8.tCut t u D σ H := ⟨R, h1, h2⟩
theorem g_meth {C : Addr} {m : Str} {sp : Sp} {dvs : List V} {E : XK} {t : TA} (h : ta σ H fun x H1 => ∃ a dx fs, x = .ref a ∧ H1 a = some (.ins C dx fs) ∧ fs.lookup m = none ∧ t σ H1 fun vs H2 => sp (x :: (vs ++ dvs)) H2 Q E) : tMeth C m sp dvs E ta t σ H Q := h
theorem g_par {i j : Nat} {ta : TA} (h : ta σ H fun vs H1 => ∃ v w, vs = [v, w] ∧ D.nx ((σ.set i (some v)).set j (some w)) H1) : tPar i j ta D σ H := h
theorem g_par2 {a b : V} {T : V → V → Prop} (h : T a b) : ∃ v w, [a, b] = [v, w] ∧ T v w := ⟨a, b, rfl, h⟩
theorem g_rfl {a : V} {T : Prop} (h : T) : a = a ∧ T := ⟨rfl, h⟩
theorem g_ixT {p : Addr} {xs : List V} {i : Int} {v : V} (h : H p = some (.tup xs)) (e : atI xs i = some v) (q : Q v H) : rIx K (.ref p) (.int i) H Q := .inr (.inl ⟨p, xs, i, v, rfl, rfl, SqT.of h, e, q⟩)
theorem g_ixL {p : Addr} {xs : List V} {i : Int} {v : V} (h : H p = some (.lst xs)) (e : atI xs i = some v) (q : Q v H) : rIx K (.ref p) (.int i) H Q := .inl ⟨p, xs, i, v, rfl, rfl, SqL.of h, e, q⟩
/-! loops -/
theorem g_for {wi : TI} {g : TG} {tb : TS} (h : wi σ H fun J H1 => ∃ W : Nat → Nat → L2.St → Hp → Prop, (∃ m, W 0 m σ H1) ∧ ∀ i m σ H, W i m σ H →
  (J.stop i H ∧ D.nx σ H) ∨ (J.go i H ∧ ∃ N : L2.St → Hp → Prop, (∀ σ' H', N σ' H' → ∃ m', m' < m ∧ W (i + 1) m' σ' H') ∧ ∀ x H', J.yld i H x H' → g x σ H' fun σ2 H2 => tb { D with nx := N, ct := N, bk := D.nx } σ2 H2)) : tFor wi g tb D σ H := h
theorem g_iList {R : It → Hp → Prop} (h : te σ H fun x H1 => ∃ a, x = .ref a ∧ (∃ xs, SqL K H1 a xs) ∧ R (Itl K a) H1) : iList K te σ H R := h
theorem g_iTup {R : It → Hp → Prop} (h : te σ H fun x H1 => ∃ a, x = .ref a ∧ (∃ xs, SqT K H1 a xs) ∧ R (Itt K a) H1) : iTup K te σ H R := h
theorem g_iRng1 {ta : TA} {R : It → Hp → Prop} (h : ta σ H fun vs H1 => ∃ j : Int, vs = [.int j] ∧ -(2 ^ 62) ≤ j ∧ j < 2 ^ 62 ∧ R (Itr 0 j.toNat) H1) : iRng1 ta σ H R := h
theorem g_iEnum {ta : TA} {R : It → Hp → Prop} (h : ta σ H fun vs H1 => ∃ a xs, vs = [.ref a] ∧ SqL K H1 a xs ∧ R (Ite K a) H1) : iEnum K ta σ H R := h
theorem g_slice {r : V → Option Int → Option Int → Hp → VK → Prop} {tl th : TO} (h : te σ H fun x H1 => tl σ H1 fun l H2 => th σ H2 fun u H3 => r x l u H3 Q) : tSl r te tl th σ H Q := h
theorem g_po0 {R : Option Int → Hp → Prop} (h : R none H) : tNoPart σ H R := h
theorem g_po1 {R : Option Int → Hp → Prop} (h : te σ H fun x H1 => ∃ i, x = .int i ∧ R (some i) H1) : tPart te σ H R := h
theorem g_poI {i : Int} {T : Int → Prop} (h : T i) : ∃ n, V.int i = .int n ∧ T n := ⟨i, rfl, h⟩
theorem g_gsub {to ti : TE} {t : TSet} {v : V} {R : L2.St → Hp → Prop} (h : to σ H fun o H1 => ti σ H1 fun i H2 => t o i v H2 fun H3 => R σ H3) : gSub to ti t v σ H R := h
theorem g_intI {i : Int} {T : Int → Prop} {U : Prop} (h : T i) : (∃ j, [V.int i] = [.int j] ∧ T j) ∨ U := .inl ⟨i, rfl, h⟩
theorem g_intB {b : Bool} {T : Bool → Prop} {U : Prop} (h : T b) : U ∨ ∃ k, [V.bl b] = [.bl k] ∧ T k := .inr ⟨b, rfl, h⟩
theorem g_setL {p : Addr} {xs : List V} {k : Int} {j : Nat} {v : V} {R : Hp → Prop} (h : H p = some (.lst xs)) (e : ixN xs.length k = some j) (q : ∀ H', H' p = some (.lst (xs.set j v)) → (∀ b, b ≠ p → H' b = H b) → R H') : rSetL (.ref p) (.int k) v H R :=
  ⟨p, xs, k, j, rfl, rfl, h, e, q _ upd_same fun b hb => upd_ne hb⟩
theorem g_max2 {i j : Int} {T : Int → Int → Prop} (h : T i j) : ∃ a b, [V.int i, V.int j] = [.int a, .int b] ∧ T a b := ⟨i, j, rfl, h⟩
theorem g_abs1 {i : Int} {T : Int → Prop} (h : T i) : ∃ a, [V.int i] = [.int a] ∧ T a := ⟨i, rfl, h⟩
theorem g_lenL {p : Addr} {xs : List V} {T : List V → Prop} (h : H p = some (.lst xs)) (q : T xs) : ∃ p' ys, [V.ref p] = [.ref p'] ∧ (SqL K H p' ys ∨ SqT K H p' ys) ∧ T ys := ⟨p, xs, rfl, .inl (SqL.of h), q⟩
theorem g_lc {wi : TI} {g : TG} {tt : TT} {vs : List Nat} (h : wi σ H fun J H1 => ∀ D, H1 D = none → ∃ W : Nat → Nat → Hp → Prop, (∃ m, W 0 m (upd H1 D (.lst []))) ∧ ∀ i m H, W i m H →
  (J.stop i H ∧ Q (.ref D) H) ∨ (J.go i H ∧ ∃ Nx : Hp → Prop, (∀ H', Nx H' → ∃ m', m' < m ∧ W (i + 1) m' H') ∧ ∀ x H', J.yld i H x H' → g x (wipe σ vs) H' fun σ2 H2 => wipe σ2 vs = wipe σ vs ∧ tt σ2 H2 fun b H3 =>
    if b = true then te σ2 H3 fun y H4 => ∃ acc, H4 D = some (.lst acc) ∧ acc.length < sizeLine ∧ Nx (upd H4 D (.lst (acc ++ [y]))) else Nx H3)) : tLc wi g tt te vs σ H Q := h
theorem g_yesT {R : Bool → Hp → Prop} (h : R true H) : tYes σ H R := h
theorem dp_bl : ∀ bs : List Bool, DpAll K H (bs.map V.bl) (bs.map PyData.bool)
  | [] => .nil
  | b :: bs => .cons (.bl b) (dp_bl bs)
theorem g_eqBs {a b : Addr} {bs : List Bool} (ha : H a = some (.lst (bs.map V.bl))) (hb : H b = some (.lst (bs.map V.bl))) (hs : SeqAt.shaped (.list (bs.map PyData.bool)) = true) (q : Q (.bl true) H) : oEq K (.ref a) (.ref b) H Q := by
  refine .inr ⟨_, _, .lst (SqL.of ha) (dp_bl bs), .lst (SqL.of hb) (dp_bl bs), hs, hs, ?_⟩
  rw [SeqAt.eqv_refl _ (SeqAt.canLay_of_shaped hs)]
  exact q
/-! new objects -/
theorem g_tup {t : TA} (h : t σ H fun xs H1 => xs.length ≤ sizeLine ∧ NewAt H1 (.tup xs) Q) : tTupN t σ H Q := h
theorem g_lst {t : TA} (h : t σ H fun xs H1 => xs.length ≤ sizeLine ∧ NewAt H1 (.lst xs) Q) : tLstN t σ H Q := h
theorem g_new {n : Nat} {o : HO} (hn : n ≤ sizeLine) (h : ∀ p H', H p = none → Same H H' → H' p = some o → (∀ b, b ≠ p → H' b = H b) → Q (.ref p) H') : n ≤ sizeLine ∧ NewAt H o Q := ⟨hn, h⟩
theorem g_make {C : Addr} {sp : Sp} {dvs : List V} {E : XK} {t : TA} (h : t σ H fun vs H1 => MakeR C sp (vs ++ dvs) H1 Q E) : tMakeN C sp dvs E t σ H Q := h
end
end Up

set_option Elab.async false
set_option linter.all false
set_option maxRecDepth 100000
set_option maxHeartbeats 4000000
namespace Up
open PySem PySem.Spec PyProof.Rows L2
/-! ### what a call hands back, over a heap in which all that stood stands -/
abbrev Ret (H : Hp) (v : V) (Q : VK) : Prop := ∀ H', Same H H' → Q v H'
abbrev RetT (H : Hp) (xs : List V) (Q : VK) : Prop := ∀ H' a, H a = none → Same H H' → H' a = some (.tup xs) → Q (.ref a) H'
abbrev RetL (H : Hp) (xs : List V) (Q : VK) : Prop := ∀ H' a, H a = none → Same H H' → H' a = some (.lst xs) → Q (.ref a) H'
/-! ### what is known of a value's kind -/
def isI : V → Bool
  | .int _ => true
  | _ => false
def isB : V → Bool
  | .bl _ => true
  | _ => false
def isS : V → Bool
  | .str _ => true
  | _ => false
/-- the classes int, bool, str asked of x -/
structure Kn (K : PySem.W.Frag) (H : Hp) (x : V) (t : Value) : Prop where
  ty : TyX K H x t
  int : PySem.W.kitOne K t (.type "int") = some (isI x || isB x)
  bool : PySem.W.kitOne K t (.type "bool") = some (isB x)
  str : PySem.W.kitOne K t (.type "str") = some (isS x)
theorem kn_non {K : PySem.W.Frag} {H : Hp} : Kn K H .non (.type "NoneType") := ⟨.base .non, kit_ty (r := false) (by decide +kernel), kit_ty (r := false) (by decide +kernel), kit_ty (r := false) (by decide +kernel)⟩
theorem kn_bl {K : PySem.W.Frag} {H : Hp} {b : Bool} : Kn K H (.bl b) (.type "bool") := ⟨.base (.bl b), kit_ty (r := true) (by decide +kernel), kit_ty (r := true) (by decide +kernel), kit_ty (r := false) (by decide +kernel)⟩
theorem kn_int {K : PySem.W.Frag} {H : Hp} {i : Int} : Kn K H (.int i) (.type "int") := ⟨.base (.int i), kit_ty (r := true) (by decide +kernel), kit_ty (r := false) (by decide +kernel), kit_ty (r := false) (by decide +kernel)⟩
theorem kn_str {K : PySem.W.Frag} {H : Hp} {i : Str} : Kn K H (.str i) (.type "str") := ⟨.base (.str i), kit_ty (r := false) (by decide +kernel), kit_ty (r := false) (by decide +kernel), kit_ty (r := true) (by decide +kernel)⟩
theorem kn_lst {K : PySem.W.Frag} {H : Hp} {a : Addr} {xs : List V} (h : H a = some (.lst xs)) : Kn K H (.ref a) (.type "list") := ⟨.base (.lst h), kit_ty (r := false) (by decide +kernel), kit_ty (r := false) (by decide +kernel), kit_ty (r := false) (by decide +kernel)⟩
theorem kn_tup {K : PySem.W.Frag} {H : Hp} {a : Addr} {xs : List V} (h : H a = some (.tup xs)) : Kn K H (.ref a) (.type "tuple") := ⟨.base (.tup h), kit_ty (r := false) (by decide +kernel), kit_ty (r := false) (by decide +kernel), kit_ty (r := false) (by decide +kernel)⟩
theorem kn_dK {K : PySem.W.Frag} {H : Hp} {a : Addr} {xs : List (Key × V)} (h : H a = some (.dK xs)) : Kn K H (.ref a) (.type "dict") := ⟨.base (.dK h), kit_ty (r := false) (by decide +kernel), kit_ty (r := false) (by decide +kernel), kit_ty (r := false) (by decide +kernel)⟩
/-- an own class whose instances are no int, bool, str -/
structure OwnC (K : PySem.W.Frag) (C : Addr) : Prop where
  cl : Cls K C
  ha : PySem.W.findIn K (.ref C) "__class__" = some (some (.builtin "object.__class__"))
  hn : PySem.W.specialIn K (.builtin "object.__class__") "__get__" = some (some (.builtin "getset_descriptor.__get__"))
  htk : PySem.W.takesIn K (.builtin "object.__class__") = some true
  hm : PySem.W.mroIn K C (.type "object") = some true
  int : PySem.W.kitOne K (.ref C) (.type "int") = some false
  bool : PySem.W.kitOne K (.ref C) (.type "bool") = some false
  str : PySem.W.kitOne K (.ref C) (.type "str") = some false
theorem kn_ins {K : PySem.W.Frag} {H : Hp} {a C dx : Addr} {fs : List (Str × V)} (T : OwnC K C) (h : H a = some (.ins C dx fs)) : Kn K H (.ref a) (.ref C) := ⟨.base (.ins h T.cl T.ha T.hn T.htk T.hm), T.int, T.bool, T.str⟩
theorem g_isi {K : PySem.W.Frag} {H : Hp} {Q : VK} {x c : V} {t u : Value} {b : Bool} (ht : TyX K H x t) (hc : ClsV c u) (hk : PySem.W.kitOne K t u = some b) (q : Q (.bl b) H) : rIsi K [x, c] H Q := ⟨x, c, t, u, b, rfl, hc, ht, hk, q⟩
section
variable {K : PySem.W.Frag} {H H' : Hp} {Q : VK} {x : V} {t : Value}
theorem TyX.same (s : Same H H') (h : TyX K H x t) : TyX K H' x t := by
  cases h with
  | base h => cases h with
    | non => exact .base .non
    | bl b => exact .base (.bl b)
    | int b => exact .base (.int b)
    | str b => exact .base (.str b)
    | flt b => exact .base (.flt b)
    | lst e => exact .base (.lst (s _ _ e))
    | frz e => exact .base (.frz (s _ _ e))
    | tup e => exact .base (.tup (s _ _ e))
    | dK e => exact .base (.dK (s _ _ e))
    | dT e => exact .base (.dT (s _ _ e))
    | ins e c h1 h2 h3 h4 => exact .base (.ins (s _ _ e) c h1 h2 h3 h4)
  | byt b => exact .byt b
  | set e => exact .set (s _ _ e)
  | kList e c => exact .kList e c
  | kTuple e c => exact .kTuple e c
  | kDict e c => exact .kDict e c
  | fTuple e => exact .fTuple (s _ _ e)
  | fDict e => exact .fDict (s _ _ e)
theorem Kn.same (s : Same H H') (h : Kn K H x t) : Kn K H' x t := ⟨TyX.same s h.ty, h.int, h.bool, h.str⟩
theorem g_isiInt (h : Kn K H x t) (q : Q (.bl (isI x || isB x)) H) : rIsi K [x, .ty "int"] H Q := g_isi h.ty (.ty _) h.int q
theorem g_isiBool (h : Kn K H x t) (q : Q (.bl (isB x)) H) : rIsi K [x, .ty "bool"] H Q := g_isi h.ty (.ty _) h.bool q
theorem g_isiStr (h : Kn K H x t) (q : Q (.bl (isS x)) H) : rIsi K [x, .ty "str"] H Q := g_isi h.ty (.ty _) h.str q
end
end Up

set_option Elab.async false
set_option linter.all false
set_option maxRecDepth 100000
set_option maxHeartbeats 4000000
namespace Up
open PySem PySem.Spec PyProof.Rows L2 PySem.SeqAt HN
/-! ### == of None and of instances of a class without an own one -/
structure IdC (K : PySem.W.Frag) (C : Addr) : Prop where
  hm : PySem.W.mroIn K C (.type "object") = some true
  he : PySem.W.findIn K (.ref C) "__eq__" = some (some (.builtin "object.__eq__"))
  hn : PySem.W.subIn K (.ref C) (.type "NoneType") = some false
section
variable {M : Model} {prog : Program} {w : World} {A : Around} {E : Value → Shared → Prop} {s : Shared} {K : PySem.W.Frag} {x y C : Addr} {ox oy : Obj} {od oe : Option Obj}
theorem inst_nt (I : PySem.W.InstAt s.heap x ox C od) : ox.cls ≠ .type "tuple" := by
  obtain ⟨_, hc, _, _⟩ := I
  rw [hc]; exact fun z => nomatch z
theorem obj_other {Q : Value → Shared → Prop} (X : K.In s.heap) (I : PySem.W.InstAt s.heap x ox C od) (J : PySem.W.InstAt s.heap y oy C oe) (T : IdC K C) (hxy : x ≠ y) (hq : Q .notImplemented s) :
    wpAny (model prog w) A (call (.builtin "object.__eq__") [.ref x, .ref y]) Q E s :=
  wpAny_call (codeAny_call_builtin PySem.F.cmp_object.eq.plain PySem.F.cmpEntry_eq (PySem.W.check_slot PySem.F.cmpKind_eq PySem.F.cmpSplit_eq (I.type.andThen (PySem.W.looks_mroIn X T.hm)) (PySem.F.cmpArgs_eq _ _) (objEq_entry_other hxy I.1 J.1 (inst_nt I) hq)))
theorem obj_same {Q : Value → Shared → Prop} (X : K.In s.heap) (I : PySem.W.InstAt s.heap x ox C od) (T : IdC K C) (hq : Q (.bool true) s) :
    wpAny (model prog w) A (call (.builtin "object.__eq__") [.ref x, .ref x]) Q E s :=
  wpAny_call (codeAny_call_builtin PySem.F.cmp_object.eq.plain PySem.F.cmpEntry_eq (PySem.W.check_slot PySem.F.cmpKind_eq PySem.F.cmpSplit_eq (I.type.andThen (PySem.W.looks_mroIn X T.hm)) (PySem.F.cmpArgs_eq _ _) (objEq_entry_same hq)))
theorem try_other {Q : Option Value → Shared → Prop} (X : K.In s.heap) (I : PySem.W.InstAt s.heap x ox C od) (J : PySem.W.InstAt s.heap y oy C oe) (T : IdC K C) (hxy : x ≠ y) (hq : Q none s) :
    wpAny (model prog w) A (tryCompare (.ref x) "__eq__" (.ref y)) Q E s := by
  unfold tryCompare
  exact wpAny_bind (ifBound_objEq X I T.he (obj_other X I J T hxy (wpAny_pure hq)))
theorem try_same {Q : Option Value → Shared → Prop} (X : K.In s.heap) (I : PySem.W.InstAt s.heap x ox C od) (T : IdC K C) (hq : Q (some (.bool true)) s) :
    wpAny (model prog w) A (tryCompare (.ref x) "__eq__" (.ref x)) Q E s := by
  unfold tryCompare
  exact wpAny_bind (ifBound_objEq X I T.he (obj_same X I T (wpAny_pure hq)))
theorem try_rn {Q : Option Value → Shared → Prop} (X : K.In s.heap) (I : PySem.W.InstAt s.heap x ox C od) (T : IdC K C) (hq : Q none s) :
    wpAny (model prog w) A (tryCompare (.ref x) "__eq__" .none) Q E s := by
  unfold tryCompare
  exact wpAny_bind (ifBound_objEq X I T.he (HN.call_objEq X I T.hm (wpAny_pure hq)))
theorem try_nr {Q : Option Value → Shared → Prop} (hq : Q none s) : wpAny (model prog w) A (tryCompare .none "__eq__" (.ref x)) Q E s :=
  wpAny_tryCompare_declines (show s.TypeIs .none "NoneType" from rfl) PySem.F.slot_NoneType_eq_refl (call_gives PySem.F.slot_NoneType_eq_refl rfl PySem.F.entry_NoneType_eq (PySem.F.args_NoneType_eq_2 _ _) (NoneType___eq___none_ref_0 x) ⟨rfl, hq⟩)
theorem rc_same {Q : Value → Shared → Prop} (hu : A.units < cLine) (X : K.In s.heap) (I : PySem.W.InstAt s.heap x ox C od) (T : IdC K C) (hq : Q (.bool true) s) : wpAny (model prog w) A (richCompare .Eq (.ref x) (.ref x)) Q E s := by
  simp only [richCompare, cmpInfo_Eq, oneThing_ref]
  refine wpAny_holding (wpAny_bind (wpAny_cRoomFor hu ?_))
  refine wpAny_bind (I.type.here (wpAny_bind (I.type.here ?_)))
  simp only [bne_self_eq_false, Bool.false_eq_true, if_false]
  refine wpAny_bind (wpAny_pure (wpAny_bind (m := tryCompare (.ref x) _ (.ref x)) (try_same X I T ?_)))
  exact wpAny_pure hq
theorem rc_other {Q : Value → Shared → Prop} (hu : A.units < cLine) (X : K.In s.heap) (I : PySem.W.InstAt s.heap x ox C od) (J : PySem.W.InstAt s.heap y oy C oe) (T : IdC K C) (hxy : x ≠ y) (hq : Q (.bool false) s) : wpAny (model prog w) A (richCompare .Eq (.ref x) (.ref y)) Q E s := by
  simp only [richCompare, cmpInfo_Eq, oneThing_ref]
  refine wpAny_holding (wpAny_bind (wpAny_cRoomFor hu ?_))
  refine wpAny_bind (I.type.here (wpAny_bind (J.type.here ?_)))
  simp only [bne_self_eq_false, Bool.false_eq_true, if_false]
  refine wpAny_bind (wpAny_pure (wpAny_bind (m := tryCompare (.ref x) _ (.ref y)) (try_other X I J T hxy ?_)))
  simp only [Bool.false_eq_true, if_false, Bool.not_false, if_true]
  refine wpAny_bind (m := tryCompare (.ref y) _ (.ref x)) (try_other X J I T hxy.symm ?_)
  exact wpAny_bind (wpAny_rule (wpAny_bind (wpAny_isSame_ref_other hxy I.1 J.1 (inst_nt I) (wpAny_pure hq))))
theorem rc_nr {Q : Value → Shared → Prop} (hu : A.units < cLine) (X : K.In s.heap) (I : PySem.W.InstAt s.heap x ox C od) (T : IdC K C) (hq : Q (.bool false) s) : wpAny (model prog w) A (richCompare .Eq .none (.ref x)) Q E s := by
  have h0 : oneThing? .Eq .none (.ref x) = none := rfl
  simp only [richCompare, cmpInfo_Eq, h0]
  refine wpAny_holding (wpAny_bind (wpAny_cRoomFor hu ?_))
  refine wpAny_bind (wpAny_typeOf (show s.TypeIs .none "NoneType" from rfl) (wpAny_bind (I.type.here ?_)))
  split
  · refine wpAny_bind ((PySem.W.looks_subIn X T.hn).here ?_)
    simp only [Bool.false_eq_true, if_false, Bool.not_false, if_true]
    refine wpAny_bind (m := tryCompare .none _ (.ref x)) (try_nr ?_)
    refine wpAny_bind (m := tryCompare (.ref x) _ .none) (try_rn X I T ?_)
    exact wpAny_bind (wpAny_rule (wpAny_bind (wpAny_of_eq (rfl : isSame .none (.ref x) = pure false) (wpAny_pure hq))))
  · rename_i q
    exact absurd (by simp) q
end
/-- None, or an instance of the class at C -/
def IdV (C : Addr) (H : Hp) (x : V) : Prop := x = .non ∨ ∃ a dx fs, x = .ref a ∧ H a = some (.ins C dx fs)
def rEqId (C : Addr) : R2 := fun x y H Q => IdV C H x ∧ IdV C H y ∧ Q (.bl (decide (x = y))) H
theorem op_eqId {X : Cx} {C : Addr} (T : IdC X.K C) (hu : X.A.units + 64 < cLine) : OpR X (compareOp .Eq) (rEqId C) := by
  intro pins s σ H x y v u Q I rx ry h
  obtain ⟨h1, h2, q⟩ := h
  have hu0 : X.A.units < cLine := by omega
  show wpAny (model X.prog X.w) X.A (richCompare .Eq v u) (EP X pins σ Q) X.xe s
  rcases h1 with rfl | ⟨a, dx, fs, rfl, ha⟩
  · rcases h2 with rfl | ⟨b, dy, gs, rfl, hb⟩
    · exact op_eq pins s σ H .non .non v u Q I rx ry ⟨rfl, q⟩
    · cases rx
      cases ry
      obtain ⟨mA, O, _⟩ := ins_get I.hok hb
      obtain ⟨od, J, _⟩ := O.look
      exact rc_nr hu0 I.kIn J T ⟨.bl false, H, I, rfl, q⟩
  · obtain ⟨mA, O, _⟩ := ins_get I.hok ha
    obtain ⟨od, J, _⟩ := O.look
    rcases h2 with rfl | ⟨b, dy, gs, rfl, hb⟩
    · cases rx
      cases ry
      exact rc_none hu0 I.kIn J T.hm T.he X.prog X.w X.xe _ ⟨.bl false, H, I, rfl, q⟩
    · cases rx
      cases ry
      obtain ⟨mB, O2, _⟩ := ins_get I.hok hb
      obtain ⟨oe, J2, _⟩ := O2.look
      by_cases hab : a = b
      · subst hab
        rw [decide_eq_true rfl] at q
        exact rc_same hu0 I.kIn J T ⟨.bl true, H, I, rfl, q⟩
      · rw [decide_eq_false (fun z => hab (by injection z))] at q
        exact rc_other hu0 I.kIn J J2 T hab ⟨.bl false, H, I, rfl, q⟩
def oEqI (K : PySem.W.Frag) (C : Addr) : R2 := fun x y H Q => oEq K x y H Q ∨ rEqId C x y H Q
theorem op_oEqI {X : Cx} {C : Addr} (T : IdC X.K C) (hu : X.A.units + 64 < cLine) : OpR X (compareOp .Eq) (oEqI X.K C) := op_or (op_oEq hu) (op_eqId T hu)
end Up

set_option Elab.async false
set_option linter.all false
set_option maxRecDepth 100000
set_option maxHeartbeats 4000000
namespace Up
open PySem PySem.Spec PyProof.Rows L2
/-! ### the source of draws: a list of three ints that each draw changes -/
def Well (H : Hp) (w : Addr) : Prop := ∃ a b c : Int, H w = some (.lst [.int a, .int b, .int c]) ∧ 0 ≤ a ∧ 0 ≤ b ∧ b < 2147483647 ∧ 0 ≤ c
/-- all but the list at w stands -/
def Stp (w : Addr) (H H' : Hp) : Prop := ∀ b o, b ≠ w → H b = some o → H' b = some o
theorem Stp.refl (w : Addr) (H : Hp) : Stp w H H := fun _ _ _ h => h
theorem Stp.trans {w : Addr} {H H1 H2 : Hp} (a : Stp w H H1) (b : Stp w H1 H2) : Stp w H H2 := fun c o n h => b c o n (a c o n h)
theorem Stp.of {w : Addr} {H H' : Hp} (s : Same H H') : Stp w H H' := fun b o _ h => s b o h
theorem Well.same {w : Addr} {H H' : Hp} (h : Well H w) (s : Same H H') : Well H' w := by
  obtain ⟨a, b, c, h, r⟩ := h
  exact ⟨a, b, c, s _ _ h, r⟩
theorem Well.ne_none {w p : Addr} {H : Hp} (h : Well H w) (n : H p = none) : p ≠ w := by
  obtain ⟨a, b, c, h, _⟩ := h
  exact fun z => by rw [z, h] at n; cases n
/-- a place that holds no list -/
theorem Well.ne {w p : Addr} {H : Hp} {o : HO} (h : Well H w) (e : H p = some o) (n : ∀ xs, o ≠ .lst xs) : p ≠ w := by
  obtain ⟨a, b, c, h, _⟩ := h
  exact fun z => by
    rw [z, h] at e
    exact n _ (Option.some.inj e).symm
theorem Stp.ins {w p C dx : Addr} {H H' : Hp} {fs : List (Str × V)} (s : Stp w H H') (h : Well H w) (e : H p = some (.ins C dx fs)) : H' p = some (.ins C dx fs) := s _ _ (h.ne e fun _ z => by cases z) e
theorem Stp.free {w p : Addr} {H H' : Hp} (s : Stp w H H') (h : Well H' w) (e : H' p = none) : H p = none := by
  cases q : H p with
  | none => rfl
  | some o =>
    have n : p ≠ w := h.ne_none e
    rw [s p o n q] at e
    cases e
end Up

set_option Elab.async false
set_option linter.all false
set_option maxRecDepth 100000
set_option maxHeartbeats 4000000
namespace Up
open PySem
/-! ### numbers of bits, the lowest bit -/
def bitsN (n : Nat) : Nat := if n = 0 then 0 else n.log2 + 1
theorem intBits_nat (n : Nat) : Builtin.Int.intBits (n : Int) = bitsN n := by
  unfold Builtin.Int.intBits bitsN
  by_cases h : n = 0
  · subst h; rfl
  · rw [if_neg h, if_neg (by simpa using h)]
    simp
theorem intBits_neg (n : Int) : Builtin.Int.intBits n = bitsN n.natAbs := by
  unfold Builtin.Int.intBits bitsN
  by_cases h : n = 0
  · subst h; rfl
  · rw [if_neg (by simpa using h), if_neg (by simpa using h)]
theorem bits_lt (n : Nat) : n < 2 ^ bitsN n := by
  unfold bitsN
  by_cases h : n = 0
  · subst h; decide
  · rw [if_neg h]; exact Nat.lt_log2_self
theorem bits_ge {n : Nat} (h : n ≠ 0) : 2 ^ (bitsN n - 1) ≤ n := by
  unfold bitsN
  rw [if_neg h]
  exact Nat.log2_self_le h
theorem bits_le {n k : Nat} (h : n < 2 ^ k) : bitsN n ≤ k := by
  unfold bitsN
  by_cases h0 : n = 0
  · rw [if_pos h0]; exact Nat.zero_le _
  · rw [if_neg h0]
    exact (Nat.log2_lt h0).mpr h
theorem le_bits {n k : Nat} (h : 2 ^ k ≤ n) : k + 1 ≤ bitsN n := by
  rcases Nat.lt_or_ge k (bitsN n) with h1 | h1
  · exact h1
  · have h2 := bits_lt n
    have h3 : 2 ^ bitsN n ≤ 2 ^ k := Nat.pow_le_pow_right (by decide) h1
    omega
theorem bits_pow (k : Nat) : bitsN (2 ^ k) = k + 1 := by
  have h1 := le_bits (n := 2 ^ k) (k := k) (Nat.le_refl _)
  have h2 := bits_le (n := 2 ^ k) (k := k + 1) (Nat.pow_lt_pow_right (by decide) (Nat.lt_succ_self k))
  omega
theorem bits_pos {n : Nat} (h : n ≠ 0) : 1 ≤ bitsN n := by
  unfold bitsN; rw [if_neg h]; omega
def tz (n : Nat) : Nat := if h : n = 0 then 0 else if n % 2 = 1 then 0 else tz (n / 2) + 1
termination_by n
decreasing_by omega
theorem tz_odd {n : Nat} (h : n % 2 = 1) : tz n = 0 := by
  unfold tz
  rw [dif_neg (by omega), if_pos h]
theorem tz_even {n : Nat} (h0 : n ≠ 0) (h : n % 2 = 0) : tz n = tz (n / 2) + 1 := by
  rw [tz, dif_neg h0, if_neg (by omega)]
theorem land_two (a b : Nat) : a &&& b = 2 * ((a / 2) &&& (b / 2)) + (a % 2) * (b % 2) := by
  have h1 : (a &&& b) / 2 = (a / 2) &&& (b / 2) := Nat.and_div_two ..
  have h2 : (a &&& b) % 2 = (a % 2) * (b % 2) := by
    have e := Nat.and_mod_two_pow (a := a) (b := b) (n := 1)
    simp only [Nat.pow_one] at e
    rw [e]
    rcases Nat.mod_two_eq_zero_or_one a with ha | ha <;> rcases Nat.mod_two_eq_zero_or_one b with hb | hb <;> rw [ha, hb] <;> rfl
  omega
theorem land_pred : ∀ (n : Nat), n ≠ 0 → n &&& (n - 1) = n - 2 ^ tz n ∧ 2 ^ tz n ≤ n ∧ n / 2 ^ tz n % 2 = 1 ∧ n / 2 ^ tz n * 2 ^ tz n = n := by
  intro n
  induction n using Nat.strongRecOn with
  | _ n ih =>
    intro h0
    rcases Nat.mod_two_eq_zero_or_one n with he | ho
    · obtain ⟨i1, i2, i3, i4⟩ := ih (n / 2) (by omega) (by omega)
      rw [tz_even h0 he, Nat.pow_succ]
      have e2 : (n - 1) / 2 = n / 2 - 1 := by omega
      have ep : n / (2 ^ tz (n / 2) * 2) = n / 2 / 2 ^ tz (n / 2) := by rw [Nat.mul_comm, Nat.div_div_eq_div_mul]
      refine ⟨?_, by omega, by rw [ep]; exact i3, ?_⟩
      · rw [land_two n (n - 1), e2, i1, he, Nat.zero_mul]
        omega
      · rw [ep, ← Nat.mul_assoc, i4]
        omega
    · rw [tz_odd ho]
      refine ⟨?_, by omega, by simpa using ho, by simp⟩
      rw [land_two n (n - 1)]
      have e2 : (n - 1) / 2 = n / 2 := by omega
      have e3 : (n - 1) % 2 = 0 := by omega
      rw [e2, e3, Nat.and_self, Nat.mul_zero]
      omega
theorem low_bit {n : Nat} (h : n ≠ 0) : Builtin.bitAnd (n : Int) (0 - (n : Int)) = ((2 ^ tz n : Nat) : Int) := by
  rw [PyProof.Rows.bitAnd_pn (by omega) (by omega)]
  have e : (Builtin.bitNot (0 - (n : Int))).toNat = n - 1 := by unfold Builtin.bitNot; omega
  obtain ⟨i1, i2, _⟩ := land_pred n h
  rw [e, Int.toNat_natCast, i1]
  omega
theorem low_bits {n : Nat} (h : n ≠ 0) : ((Builtin.Int.intBits (Builtin.bitAnd (n : Int) (0 - (n : Int))) : Nat) : Int) - 1 = (tz n : Int) := by
  rw [low_bit h, intBits_nat, bits_pow]
  omega
theorem bits_shift {n : Nat} (h : n ≠ 0) : bitsN (n / 2 ^ tz n) + tz n = bitsN n := by
  obtain ⟨_, _, i3, i4⟩ := land_pred n h
  have hm : n / 2 ^ tz n ≠ 0 := by intro z; rw [z] at i3; omega
  generalize n / 2 ^ tz n = m at *
  generalize tz n = v at *
  have h1 := bits_lt m
  have h2 := bits_ge hm
  have h3 := bits_pos hm
  have a : bitsN n ≤ bitsN m + v := bits_le (by
    rw [← i4, Nat.pow_add]
    exact Nat.mul_lt_mul_of_pos_right h1 (Nat.two_pow_pos _))
  have b : bitsN m - 1 + v + 1 ≤ bitsN n := le_bits (by
    rw [← i4, Nat.pow_add]
    exact Nat.mul_le_mul_right _ h2)
  omega
end Up

set_option Elab.async false
set_option linter.all false
set_option maxRecDepth 100000
set_option maxHeartbeats 4000000
namespace Up
open PySem
/-! ### the nearest float to a fraction: power, scaled parts, rounding -/
def nrP (t b : Nat) : Int := if (-1074 : Int) > (bitsN t : Int) - (bitsN b : Int) - 53 then -1074 else (bitsN t : Int) - (bitsN b : Int) - 53
def nrT (t : Nat) (p : Int) : Nat := if p < 0 then t * 2 ^ (0 - p).toNat else t
def nrB (b : Nat) (p : Int) : Nat := if p < 0 then b else b * 2 ^ p.toNat
def nrBig (t b : Nat) : Bool := decide (9007199254740992 ≤ nrT t (nrP t b) / nrB b (nrP t b))
def nrB2 (t b : Nat) : Nat := if nrBig t b then nrB b (nrP t b) * 2 else nrB b (nrP t b)
def nrP2 (t b : Nat) : Int := if nrBig t b then nrP t b + 1 else nrP t b
def nrQ (t b : Nat) : Nat := nrT t (nrP t b) / nrB2 t b
def nrR (t b : Nat) : Nat := nrT t (nrP t b) % nrB2 t b
def nrUp (t b : Nat) : Bool := decide (nrB2 t b < 2 * nrR t b) || (decide (2 * nrR t b = nrB2 t b) && decide (nrQ t b % 2 = 1))
def nrW (t b : Nat) : Nat := if nrUp t b then nrQ t b + 1 else nrQ t b
theorem nrP_lo (t b : Nat) : -1074 ≤ nrP t b := by unfold nrP; split <;> omega
theorem nrP_ge (t b : Nat) : (bitsN t : Int) - (bitsN b : Int) - 53 ≤ nrP t b := by unfold nrP; split <;> omega
theorem nrP_hi {t b : Nat} : nrP t b ≤ bitsN t := by unfold nrP; split <;> omega
theorem nrB_pos {b : Nat} (hb : 0 < b) (p : Int) : 0 < nrB b p := by
  unfold nrB; split
  · exact hb
  · exact Nat.mul_pos hb (Nat.two_pow_pos _)
theorem nrB2_pos {t b : Nat} (hb : 0 < b) : 0 < nrB2 t b := by
  unfold nrB2; split
  · exact Nat.mul_pos (nrB_pos hb _) (by decide)
  · exact nrB_pos hb _
/-- the scaled quotient is below 2 ^ 54 -/
theorem nr_lt54 {t b : Nat} (hb : 0 < b) : nrT t (nrP t b) / nrB b (nrP t b) < 2 ^ 54 := by
  rw [Nat.div_lt_iff_lt_mul (nrB_pos hb _)]
  have h1 := bits_lt t
  have h2 := bits_ge (n := b) (by omega)
  have h3 := bits_pos (n := b) (by omega)
  have h4 := nrP_ge t b
  unfold nrT nrB
  by_cases hp : nrP t b < 0
  · rw [if_pos hp, if_pos hp]
    have e1 : t * 2 ^ (0 - nrP t b).toNat < 2 ^ (bitsN t) * 2 ^ (0 - nrP t b).toNat := Nat.mul_lt_mul_of_pos_right h1 (Nat.two_pow_pos _)
    rw [← Nat.pow_add] at e1
    have e2 : 2 ^ (bitsN t + (0 - nrP t b).toNat) ≤ 2 ^ (54 + (bitsN b - 1)) := Nat.pow_le_pow_right (by decide) (by omega)
    rw [Nat.pow_add 2 54] at e2
    have e3 : 2 ^ 54 * 2 ^ (bitsN b - 1) ≤ 2 ^ 54 * b := Nat.mul_le_mul_left _ h2
    omega
  · rw [if_neg hp, if_neg hp]
    have e2 : 2 ^ bitsN t ≤ 2 ^ (54 + ((bitsN b - 1) + (nrP t b).toNat)) := Nat.pow_le_pow_right (by decide) (by omega)
    rw [Nat.pow_add 2 54, Nat.pow_add 2 (bitsN b - 1)] at e2
    have e3 : 2 ^ (bitsN b - 1) * 2 ^ (nrP t b).toNat ≤ b * 2 ^ (nrP t b).toNat := Nat.mul_le_mul_right _ h2
    have e4 : 2 ^ 54 * (2 ^ (bitsN b - 1) * 2 ^ (nrP t b).toNat) ≤ 2 ^ 54 * (b * 2 ^ (nrP t b).toNat) := Nat.mul_le_mul_left _ e3
    omega
theorem nrQ_lt {t b : Nat} (hb : 0 < b) : nrQ t b < 2 ^ 53 := by
  have h := nr_lt54 (t := t) hb
  unfold nrQ nrB2
  by_cases hg : nrBig t b = true
  · rw [if_pos hg, ← Nat.div_div_eq_div_mul]
    omega
  · rw [if_neg hg]
    have h2 : ¬ 9007199254740992 ≤ nrT t (nrP t b) / nrB b (nrP t b) := fun z => hg (decide_eq_true z)
    omega
theorem nrW_le {t b : Nat} (hb : 0 < b) : nrW t b ≤ 2 ^ 53 := by
  have h := nrQ_lt (t := t) hb
  unfold nrW; split <;> omega
theorem nrP2_lo (t b : Nat) : -1074 ≤ nrP2 t b := by
  have := nrP_lo t b
  unfold nrP2; split <;> omega
theorem nrB2_bits {t b m : Nat} (h1 : bitsN t ≤ m) (h2 : bitsN b ≤ m) (hb : 0 < b) : nrB2 t b < 2 ^ (m + 1) := by
  have h3 := bits_lt b
  have h4 := bits_pos (n := b) (by omega)
  have hB : nrB b (nrP t b) < 2 ^ m := by
    unfold nrB
    by_cases hp : nrP t b < 0
    · rw [if_pos hp]
      exact Nat.lt_of_lt_of_le h3 (Nat.pow_le_pow_right (by decide) h2)
    · rw [if_neg hp]
      have hx : nrP t b = (bitsN t : Int) - (bitsN b : Int) - 53 := by
        have hp' := hp
        unfold nrP at hp' ⊢
        split at hp' <;> rename_i hc
        · omega
        · rw [if_neg hc]
      have e1 : b * 2 ^ (nrP t b).toNat < 2 ^ bitsN b * 2 ^ (nrP t b).toNat := Nat.mul_lt_mul_of_pos_right h3 (Nat.two_pow_pos _)
      rw [← Nat.pow_add] at e1
      exact Nat.lt_of_lt_of_le e1 (Nat.pow_le_pow_right (by decide) (by omega))
  unfold nrB2
  rw [Nat.pow_succ]
  split <;> omega
end Up

set_option Elab.async false
set_option linter.all false
set_option maxRecDepth 100000
set_option maxHeartbeats 4000000
namespace Up
open PySem PySem.Spec PyProof.Rows L2
/-! ### what the head's one Bool says of a class -/
def ownB (K : PySem.W.Frag) (C : Addr) : Bool :=
  PySem.W.plainGet K C Str.empty && (PySem.W.hasDictIn K C && (PySem.W.plainOver K C && (decide (PySem.W.findIn K (.ref C) "__setattr__" = some (some (.builtin "object.__setattr__"))) &&
  (decide (PySem.W.findIn K (.ref C) "__class__" = some (some (.builtin "object.__class__"))) && (decide (PySem.W.specialIn K (.builtin "object.__class__") "__get__" = some (some (.builtin "getset_descriptor.__get__"))) &&
  (decide (PySem.W.takesIn K (.builtin "object.__class__") = some true) && (decide (PySem.W.mroIn K C (.type "object") = some true) && (decide (PySem.W.kitOne K (.ref C) (.type "int") = some false) &&
  (decide (PySem.W.kitOne K (.ref C) (.type "bool") = some false) && decide (PySem.W.kitOne K (.ref C) (.type "str") = some false))))))))))
theorem ownB_ok {K : PySem.W.Frag} {C : Addr} (h : ownB K C = true) : OwnC K C := by
  unfold ownB at h
  simp only [Bool.and_eq_true, decide_eq_true_eq] at h
  obtain ⟨h1, h2, h3, h4, h5, h6, h7, h8, h9, h10, h11⟩ := h
  exact ⟨⟨h1, h2, h3, h4⟩, h5, h6, h7, h8, h9, h10, h11⟩
def idB (K : PySem.W.Frag) (C : Addr) : Bool := decide (PySem.W.mroIn K C (.type "object") = some true) && (decide (PySem.W.findIn K (.ref C) "__eq__" = some (some (.builtin "object.__eq__"))) && decide (PySem.W.subIn K (.ref C) (.type "NoneType") = some false))
theorem idB_ok {K : PySem.W.Frag} {C : Addr} (h : idB K C = true) : IdC K C := by
  unfold idB at h
  simp only [Bool.and_eq_true, decide_eq_true_eq] at h
  exact ⟨h.1, h.2.1, h.2.2⟩
def noB (K : PySem.W.Frag) (C : Addr) (xs : List Str) : Bool := xs.all fun f => decide (PySem.W.findIn K (.ref C) f = some none)
theorem noB_ok {K : PySem.W.Frag} {C : Addr} {xs : List Str} (h : noB K C xs = true) {f : Str} (hf : f ∈ xs) : NoAttr K C f := by
  have e := List.all_eq_true.mp h f hf
  exact of_decide_eq_true (p := PySem.W.findIn K (.ref C) f = some none) e
/-- isinstance(a value of the kind T, the class at C) is b -/
def kitB' (K : PySem.W.Frag) (C : Addr) (b : Bool) (xs : List Value) : Bool := xs.all fun t => decide (PySem.W.kitOne K t (.ref C) = some b)
theorem kitB'_ok {K : PySem.W.Frag} {C : Addr} {b : Bool} {xs : List Value} (h : kitB' K C b xs = true) {t : Value} (ht : t ∈ xs) : PySem.W.kitOne K t (.ref C) = some b := of_decide_eq_true (List.all_eq_true.mp h t ht)
section
variable {P : Program} {w : World} {K : PySem.W.Frag} {mg : Str → Option Value} {base : Heap}
/-- a def by its promise, from the head's facts -/
theorem fn_mk {CX : CXT} {k : Nat} {x y qual : Str} {params : Arguments} {body : List Stmt} {scope : Scope} {f : Addr} {fd : FuncData} {ps : List Str} {sp : Sp} (F : FunD K y qual params body scope [] [] f fd) (hm : mg x = some (.ref f)) (ok : FnOk P w K mg base CX k f fd ps sp)
    (h : ∀ (kV doc pm : Value) (an : Option Addr) (cdv ct : Value) (us : List Value), us.length = ps.length → bindArgs (PySem.W.fnOf y qual params body scope .none kV doc pm an cdv ct) ⟨us, []⟩ = pure (ps.zip us)) : Fn P w K mg base CX k x ps [] sp :=
  ⟨f, fd, [], ok, hm, F.kp, F.bindsN h, .nil⟩
theorem mt_mk {CX : CXT} {k : Nat} {m qual : Str} {params : Arguments} {body : List Stmt} {scope : Scope} {f C : Addr} {fd : FuncData} {ps : List Str} {sp : Sp} (F : FunD K m qual params body scope [] [] f fd) (hm : Meth K C m f) (cl : Cls K C) (ok : FnOk P w K mg base CX k f fd ps sp)
    (h : ∀ (kV doc pm : Value) (an : Option Addr) (cdv ct : Value) (us : List Value), us.length = ps.length → bindArgs (PySem.W.fnOf m qual params body scope .none kV doc pm an cdv ct) ⟨us, []⟩ = pure (ps.zip us)) : Mt P w K mg base CX k C m ps sp :=
  ⟨f, fd, ok, hm, F.bindsN h, cl⟩
theorem cn_mk {CX : CXT} {k : Nat} {x qual : Str} {params : Arguments} {body : List Stmt} {scope : Scope} {f C : Addr} {fd : FuncData} {ps : List Str} {sp : Sp} (F : FunD K "__init__" qual params body scope [] [] f fd) (hM : Mk K C f) (hm : mg x = some (.ref C)) (ok : FnOk P w K mg base CX k f fd ps sp)
    (h : ∀ (kV doc pm : Value) (an : Option Addr) (cdv ct : Value) (us : List Value), us.length = ps.length → bindArgs (PySem.W.fnOf "__init__" qual params body scope .none kV doc pm an cdv ct) ⟨us, []⟩ = pure (ps.zip us)) : Cn P w K mg base CX k x C ps [] sp :=
  ⟨f, fd, [], ok, hM, hm, F.bindsN h, .nil⟩
end
end Up

set_option Elab.async false
set_option linter.all false
set_option maxRecDepth 100000
set_option maxHeartbeats 4000000
namespace Up
open PySem PySem.Spec PyProof.Rows L2
local macro_rules | `(tactic| walk_at "u") => `(tactic| first
  | with_reducible refine g_seq ?_
  | with_reducible refine g_asg ?_
  | with_reducible refine g_op ?_
  | ((with_reducible show tVar _ _ _ _); apply g_var; exact rfl)
  | with_reducible refine g_c ?_
  | with_reducible refine g_name ?_
  | with_reducible refine g_ifs ?_
  | with_reducible refine g_tt ?_
  | with_reducible refine g_tB ?_
  | with_reducible refine g_bl ?_
  | with_reducible refine g_ret ?_
  | with_reducible refine g_cb ?_
  | with_reducible refine g_cons ?_
  | with_reducible refine g_nil ?_
  | with_reducible refine g_call ?_
  | with_reducible refine g_and ?_
  | with_reducible refine g_or ?_
  | with_reducible refine g_not ?_
  | with_reducible refine g_andV ?_
  | with_reducible refine g_orV ?_
  | with_reducible refine g_notV ?_
  | with_reducible refine g_if ?_
  | with_reducible refine g_un ?_
  | with_reducible refine g_neg ?_
  | with_reducible refine g_addI ?_
  | with_reducible refine g_subI ?_
  | with_reducible refine g_subB ?_
  | with_reducible refine g_I0 ?_
  | with_reducible refine g_cmpI ?_
  | with_reducible refine g_eqI ?_
  | with_reducible refine g_neI ?_
  | with_reducible refine g_eqS ?_
  | with_reducible refine g_neS ?_
  | with_reducible refine g_eqB ?_
  | with_reducible refine g_neB ?_
  | with_reducible refine g_bits ?_
  | with_reducible refine g_bitsI ?_
  | with_reducible refine g_fld ?_
  | with_reducible refine g_tup ?_
  | with_reducible refine g_lst ?_
  | with_reducible refine g_gtup ?_
  | with_reducible refine g_make ?_
  | with_reducible refine g_lc ?_
  | with_reducible refine g_yesT ?_
  | with_reducible refine g_intI ?_
  | with_reducible refine g_intB ?_
  | with_reducible refine g_max2 ?_
  | with_reducible refine g_abs1 ?_
  | with_reducible refine g_for ?_
  | with_reducible refine g_iList ?_
  | with_reducible refine g_iTup ?_
  | with_reducible refine g_iRng1 ?_
  | with_reducible refine g_iEnum ?_
  | with_reducible refine g_slice ?_
  | with_reducible refine g_po0 ?_
  | with_reducible refine g_po1 ?_
  | with_reducible refine g_gsub ?_
  | with_reducible refine g_par ?_
  | with_reducible refine g_par2 ?_
  | with_reducible refine g_rfl ?_
  | with_reducible refine g_meth ?_
  | with_reducible refine g_gcons ?_
  | with_reducible refine g_gnil ?_
  | with_reducible refine g_gfld ?_
  | with_reducible refine g_sfld ?_
  | with_reducible refine g_drop ?_
  | with_reducible refine g_next ?_
  | with_reducible refine iteT ?_
  | with_reducible refine iteF ?_)
local macro_rules | `(tactic| walk_at "go") => `(tactic| (repeat walk_at "u"))

def top (i : Nat) : Stmt := PySem.Challenge.pw_upvalues_k05_whole_order_of_numbers.main.body.getD i (.Pass ⟨0, 0, 0, 0⟩)
section
variable {P : Program} {w : World} {K : PySem.W.Frag} {mg : Str → Option Value} {base : Heap}
/-! is_plain -/
abbrev s_isplain : Stmt := top 13
theorem sc_isplain : FnScope ["number"] ["number"] (defScope s_isplain) := ⟨rfl, rfl, rfl, by decide +kernel, rfl, by decide +kernel, by decide +kernel⟩
def sp_isplain (K : PySem.W.Frag) : Sp := fun vs H Q _ => ∃ x t, vs = [x] ∧ Kn K H x t ∧ Q (.bl (isI x)) H
theorem ok_isplain {f : Addr} {fd : FuncData} (F : FunD K "is_plain" "is_plain" (defArgs s_isplain) (defBody s_isplain) (defScope s_isplain) [] [] f fd) (B : Blt mg) : FnOk P w K mg base CX0 1 f fd ["number"] (sp_isplain K) := by
  refine F.ok sc_isplain (fun vs H Q E h => ?_) (fun cdv A outer s H vs Q E hr h => ?_)
  · obtain ⟨x, t, rfl, _⟩ := h; rfl
  · obtain ⟨x, t, rfl, hk, q⟩ := h
    refine ⟨_, PSs.nox (pss_one (ps_ret (pe_and (pe_callB call_isi (by rfl) B.isinstance (by decide +kernel) (pa_cons (pv 0) (pa_cons (pe_tyInt B) pa_nil))) (pe_one (pe_not (pe_callB call_isi (by rfl) B.isinstance (by decide +kernel) (pa_cons (pv 0) (pa_cons (pe_tyBool B) pa_nil)))))))), ?_⟩
    walk_at "go"
    refine g_isiInt hk ?_
    walk_at "go"
    cases x <;> first | exact iteF q | (refine iteT ?_; walk_at "go"; refine g_isiBool hk ?_; walk_at "go"; exact q)
/-! reduced -/
abbrev s_reduced : Stmt := top 14
theorem sc_reduced : FnScope ["top", "power", "less"] ["top", "power"] (defScope s_reduced) := ⟨rfl, rfl, rfl, by decide +kernel, rfl, by decide +kernel, by decide +kernel⟩
/-- the lowest bit's place -/
def lowB (n : Int) : Int := ((Builtin.Int.intBits (Builtin.bitAnd n (0 - n)) : Nat) : Int) - 1
def redV : V → Int → V × Int
  | .int n, p => if n = 0 then (.int 0, 0) else (.int (n / 2 ^ (lowB n).toNat), p + lowB n)
  | v, _ => (v, 0)
def isIN (x : V) : Prop := x = .str "inf" ∨ x = .str "nan"
theorem inf_nan : ¬ (("inf" : Str) = "nan") := by decide +kernel
def sp_reduced : Sp := fun vs H Q _ => ∃ x p, vs = [x, .int p] ∧ (isIN x ∨ ∃ n, x = .int n ∧ (n ≠ 0 → 0 ≤ lowB n)) ∧ RetT H [(redV x p).1, .int (redV x p).2] Q
theorem ok_reduced {f : Addr} {fd : FuncData} (F : FunD K "reduced" "reduced" (defArgs s_reduced) (defBody s_reduced) (defScope s_reduced) [] [] f fd) (B : Blt mg) : FnOk P w K mg base CX0 1 f fd ["top", "power"] sp_reduced := by
  refine F.ok sc_reduced (fun vs H Q E h => ?_) (fun cdv A outer s H vs Q E hr h => ?_)
  · obtain ⟨x, t, rfl, _⟩ := h; rfl
  · obtain ⟨x, p, rfl, hx, q⟩ := h
    refine ⟨_, PSs.nox (pss_cons (ps_if (PW.pt (pw_or (pt_cmpR op_in_seq (pv 0) (pe_tupN (pa_cons pe_str (pa_cons pe_str pa_nil))) (by rfl)) (pw_or1 (pt_cmpR (op_oEq hr.units) (pv 0) pe_int (nomark _))))) (pss_one (ps_ret (pe_tupN (pa_cons (pv 0) (pa_cons pe_int pa_nil))))) pss_nil)
  (pss_cons (ps_set (i := 2) sc_reduced.nd rfl (Or.inl rfl) (pe_op op_oSub (pe_bits (pe_op op_oAnd (pv 0) (pe_op op_oSub pe_int (pv 0)))) pe_int))
  (pss_one (ps_ret (pe_tupN (pa_cons (pe_op op_oShr (pv 0) (pv 2)) (pa_cons (pe_op op_oAdd (pv 1) (pv 2)) pa_nil))))))), ?_⟩
    walk_at "go"
    refine g_new (sz rfl) fun a H1 na s1 ha _ => ?_
    rcases hx with (rfl | rfl) | ⟨n, rfl, hn⟩
    · refine ⟨a, _, rfl, .inr (SqT.of ha), rfl, rfl, ?_⟩
      walk_at "go"
      refine iteT ?_
      walk_at "go"
      refine g_new (sz rfl) fun b H2 nb s2 hb _ => ?_
      exact q _ _ (s1.free nb) (s1.trans s2) hb
    · refine ⟨a, _, rfl, .inr (SqT.of ha), rfl, rfl, ?_⟩
      walk_at "go"
      refine iteT ?_
      walk_at "go"
      refine g_new (sz rfl) fun b H2 nb s2 hb _ => ?_
      exact q _ _ (s1.free nb) (s1.trans s2) hb
    · refine ⟨a, _, rfl, .inr (SqT.of ha), rfl, rfl, ?_⟩
      walk_at "go"
      refine iteF ?_
      walk_at "go"
      refine g_ite (fun h0 => ?_) fun h0 => ?_
      · walk_at "go"
        refine g_new (sz rfl) fun b H2 nb s2 hb _ => ?_
        subst h0
        exact q _ _ (s1.free nb) (s1.trans s2) hb
      · walk_at "go"
        refine g_II (hn h0) ?_
        walk_at "go"
        refine g_new (sz rfl) fun b H2 nb s2 hb _ => ?_
        have e : redV (.int n) p = (.int (n / 2 ^ (lowB n).toNat), p + lowB n) := if_neg h0
        rw [e] at q
        exact q _ _ (s1.free nb) (s1.trans s2) hb
/-! fits -/
abbrev s_fits : Stmt := top 15
theorem sc_fits : FnScope ["top", "power"] ["top", "power"] (defScope s_fits) := ⟨rfl, rfl, rfl, by decide +kernel, rfl, by decide +kernel, by decide +kernel⟩
def fitsB (n p : Int) : Bool := (decide (n < 9007199254740992) && (decide (-1074 ≤ p) && decide (((Builtin.Int.intBits n : Nat) : Int) + p ≤ 1024))) || decide (n = 0)
def sp_fits : Sp := fun vs H Q _ => ∃ n p, vs = [.int n, .int p] ∧ Q (.bl (fitsB n p)) H
theorem ok_fits {f : Addr} {fd : FuncData} (F : FunD K "fits" "fits" (defArgs s_fits) (defBody s_fits) (defScope s_fits) [] [] f fd) (B : Blt mg) (i_ROOM : ∃ t, mg "ROOM" = some (.int 9007199254740992 t)) (i_LOWEST : ∃ t, mg "LOWEST" = some (.int (-1074) t)) (i_TOO_GREAT : ∃ t, mg "TOO_GREAT" = some (.int 1024 t)) :
    FnOk P w K mg base CX0 1 f fd ["top", "power"] sp_fits := by
  refine F.ok sc_fits (fun vs H Q E h => ?_) (fun cdv A outer s H vs Q E hr h => ?_)
  · obtain ⟨x, t, rfl, _⟩ := h; rfl
  · obtain ⟨n, p, rfl, q⟩ := h
    refine ⟨_, PSs.nox (pss_one (ps_ret (pe_or (pe_and (pe_cmpR op_oLt (pv 0) (pe_gint i_ROOM) (nomark _)) (pe_and (pe_cmpR op_oGe (pv 1) (pe_gint i_LOWEST) (nomark _)) (pe_one (pe_cmpR op_oLe (pe_op op_oAdd (pe_bits (pv 0)) (pv 1)) (pe_gint i_TOO_GREAT) (nomark _))))) (pe_one (pe_cmpR (op_oEq hr.units) (pv 0) pe_int (nomark _)))))), ?_⟩
    walk_at "go"
    unfold fitsB at q
    refine g_ite (fun h1 => ?_) fun h1 => ?_
    · walk_at "go"
      refine g_ite (fun h2 => ?_) fun h2 => ?_
      · walk_at "go"
        refine g_ite (fun h3 => ?_) fun h3 => ?_
        · simp only [h1, h2, h3, decide_true, Bool.and_self, Bool.true_or] at q
          exact q
        · walk_at "go"
          simp only [h1, h2, h3, decide_true, decide_false, Bool.and_false, Bool.and_self, Bool.false_or] at q
          exact q
      · walk_at "go"
        simp only [h1, h2, decide_true, decide_false, Bool.and_false, Bool.false_and, Bool.false_or] at q
        exact q
    · walk_at "go"
      simp only [h1, decide_false, Bool.false_and, Bool.false_or] at q
      exact q
/-! sign_of -/
abbrev s_signof : Stmt := top 16
theorem sc_signof : FnScope ["is_negative"] ["is_negative"] (defScope s_signof) := ⟨rfl, rfl, rfl, by decide +kernel, rfl, by decide +kernel, by decide +kernel⟩
def sgnB (b : Bool) : Int := if b then -1 else 1
def sp_signof : Sp := fun vs H Q _ => ∃ b, vs = [.bl b] ∧ Q (.int (sgnB b)) H
theorem ok_signof {f : Addr} {fd : FuncData} (F : FunD K "sign_of" "sign_of" (defArgs s_signof) (defBody s_signof) (defScope s_signof) [] [] f fd) : FnOk P w K mg base CX0 1 f fd ["is_negative"] sp_signof := by
  refine F.ok sc_signof (fun vs H Q E h => ?_) (fun cdv A outer s H vs Q E hr h => ?_)
  · obtain ⟨x, rfl, _⟩ := h; rfl
  · obtain ⟨b, rfl, q⟩ := h
    refine ⟨_, PSs.nox (pss_one (ps_ret (pe_ifExp (pt_val (pv 0)) (pe_un un_neg pe_int) pe_int))), ?_⟩
    walk_at "go"
    cases b
    · refine iteF ?_; walk_at "go"; exact q
    · refine iteT ?_; walk_at "go"; exact q
end
end Up

set_option Elab.async false
set_option linter.all false
set_option maxRecDepth 100000
set_option maxHeartbeats 4000000
namespace Up
open PySem PySem.Spec PyProof.Rows L2
local macro_rules | `(tactic| walk_at "u") => `(tactic| first
  | with_reducible refine g_seq ?_
  | with_reducible refine g_asg ?_
  | with_reducible refine g_op ?_
  | ((with_reducible show tVar _ _ _ _); apply g_var; exact rfl)
  | with_reducible refine g_c ?_
  | with_reducible refine g_name ?_
  | with_reducible refine g_ifs ?_
  | with_reducible refine g_tt ?_
  | with_reducible refine g_tB ?_
  | with_reducible refine g_bl ?_
  | with_reducible refine g_ret ?_
  | with_reducible refine g_cb ?_
  | with_reducible refine g_cons ?_
  | with_reducible refine g_nil ?_
  | with_reducible refine g_call ?_
  | with_reducible refine g_and ?_
  | with_reducible refine g_or ?_
  | with_reducible refine g_not ?_
  | with_reducible refine g_andV ?_
  | with_reducible refine g_orV ?_
  | with_reducible refine g_notV ?_
  | with_reducible refine g_if ?_
  | with_reducible refine g_un ?_
  | with_reducible refine g_neg ?_
  | with_reducible refine g_addI ?_
  | with_reducible refine g_subI ?_
  | with_reducible refine g_subB ?_
  | with_reducible refine g_I0 ?_
  | with_reducible refine g_cmpI ?_
  | with_reducible refine g_eqI ?_
  | with_reducible refine g_neI ?_
  | with_reducible refine g_eqS ?_
  | with_reducible refine g_neS ?_
  | with_reducible refine g_eqB ?_
  | with_reducible refine g_neB ?_
  | with_reducible refine g_bits ?_
  | with_reducible refine g_bitsI ?_
  | with_reducible refine g_fld ?_
  | with_reducible refine g_tup ?_
  | with_reducible refine g_lst ?_
  | with_reducible refine g_gtup ?_
  | with_reducible refine g_make ?_
  | with_reducible refine g_lc ?_
  | with_reducible refine g_yesT ?_
  | with_reducible refine g_intI ?_
  | with_reducible refine g_intB ?_
  | with_reducible refine g_max2 ?_
  | with_reducible refine g_abs1 ?_
  | with_reducible refine g_for ?_
  | with_reducible refine g_iList ?_
  | with_reducible refine g_iTup ?_
  | with_reducible refine g_iRng1 ?_
  | with_reducible refine g_iEnum ?_
  | with_reducible refine g_slice ?_
  | with_reducible refine g_po0 ?_
  | with_reducible refine g_po1 ?_
  | with_reducible refine g_gsub ?_
  | with_reducible refine g_par ?_
  | with_reducible refine g_par2 ?_
  | with_reducible refine g_rfl ?_
  | with_reducible refine g_meth ?_
  | with_reducible refine g_gcons ?_
  | with_reducible refine g_gnil ?_
  | with_reducible refine g_gfld ?_
  | with_reducible refine g_sfld ?_
  | with_reducible refine g_drop ?_
  | with_reducible refine g_next ?_
  | with_reducible refine iteT ?_
  | with_reducible refine iteF ?_)
local macro_rules | `(tactic| walk_at "go") => `(tactic| (repeat walk_at "u"))

/-! ### Float: what its instances are -/
def flF (s : Int) (t : V) (p : Int) : List (Str × V) := [("sign", .int s), ("top", t), ("power", .int p)]
theorem fl_put (s : Int) (t : V) (p : Int) : putF "power" (.int p) (putF "top" t (putF "sign" (.int s) [])) = flF s t p := rfl
theorem fl_sign (s : Int) (t : V) (p : Int) : (flF s t p).lookup ("sign" : Str) = some (.int s) := rfl
theorem fl_top (s : Int) (t : V) (p : Int) : (flF s t p).lookup ("top" : Str) = some t := rfl
theorem fl_power (s : Int) (t : V) (p : Int) : (flF s t p).lookup ("power" : Str) = some (.int p) := rfl
def FlAt (C : Addr) (H : Hp) (a : Addr) (s : Int) (t : V) (p : Int) : Prop := ∃ dx, H a = some (.ins C dx (flF s t p))
theorem FlAt.same {C : Addr} {H H' : Hp} {a : Addr} {s : Int} {t : V} {p : Int} (h : FlAt C H a s t p) (e : Same H H') : FlAt C H' a s t p := by
  obtain ⟨dx, h⟩ := h
  exact ⟨dx, e _ _ h⟩
/-- a right float's parts -/
def FinOk (n p : Int) : Prop := 0 ≤ n ∧ n < 2 ^ 53 ∧ -1074 ≤ p ∧ ((Builtin.Int.intBits n : Nat) : Int) + p ≤ 1024 ∧ (n = 0 → p = 0)
def FlOk (s : Int) (t : V) (p : Int) : Prop := (s = 1 ∨ s = -1) ∧ ((t = .str "nan" ∧ s = 1 ∧ p = 0) ∨ (t = .str "inf" ∧ p = 0) ∨ ∃ n, t = .int n ∧ FinOk n p)
/-- what the text says of the class Float, at C -/
structure FlC (K : PySem.W.Frag) (mg : Str → Option Value) (C : Addr) : Prop where
  own : OwnC K C
  nS : NoAttr K C "sign"
  nT : NoAttr K C "top"
  nP : NoAttr K C "power"
  mg : mg "Float" = some (.ref C)
  yes : PySem.W.kitOne K (.ref C) (.ref C) = some true
  fi : PySem.W.kitOne K (.type "int") (.ref C) = some false
  fb : PySem.W.kitOne K (.type "bool") (.ref C) = some false
  fs : PySem.W.kitOne K (.type "str") (.ref C) = some false
  fn : PySem.W.kitOne K (.type "NoneType") (.ref C) = some false
  fl : PySem.W.kitOne K (.type "list") (.ref C) = some false
  ft : PySem.W.kitOne K (.type "tuple") (.ref C) = some false
  fd : PySem.W.kitOne K (.type "dict") (.ref C) = some false
section
variable {P : Program} {w : World} {K : PySem.W.Frag} {mg : Str → Option Value} {base : Heap} {C : Addr}
/-- what Float(s, top, p) asks, and the parts that it gets -/
def MkOk (s : Int) (top : V) (p : Int) : Prop := (s = 1 ∨ s = -1) ∧ ((top = .str "nan" ∧ s = 1 ∧ p = 0) ∨ (top = .str "inf" ∧ p = 0) ∨ ∃ n : Nat, top = .int n ∧ ∃ m, (redV top p).1 = .int m ∧ fitsB m (redV top p).2 = true)
abbrev s_Float_init : Stmt := inClass (top 12) 0
theorem sc_Float_init : FnScope ["self", "sign", "top", "power"] ["self", "sign", "top", "power"] (defScope s_Float_init) := ⟨rfl, rfl, rfl, by decide +kernel, rfl, by decide +kernel, by decide +kernel⟩
def sp_Finit (C : Addr) : Sp := fun vs H Q _ => ∃ a dx s top p, vs = [.ref a, .int s, top, .int p] ∧ H a = some (.ins C dx []) ∧ MkOk s top p ∧
  ∀ H', (∀ b o, b ≠ a → H b = some o → H' b = some o) → H' a = some (.ins C dx (flF s (redV top p).1 (redV top p).2)) → Q .non H'
theorem lowB_nat {n : Nat} (h : n ≠ 0) : lowB (n : Int) = (tz n : Int) := low_bits h
theorem ok_Finit {f : Addr} {fd : FuncData} (F : FunD K "__init__" "Float.__init__" (defArgs s_Float_init) (defBody s_Float_init) (defScope s_Float_init) [] [] f fd) (B : Blt mg) (T : FlC K mg C) (c_isplain : Fn P w K mg base CX0 1 "is_plain" ["number"] [] (sp_isplain K)) (c_reduced : Fn P w K mg base CX0 1 "reduced" ["top", "power"] [] sp_reduced)
    (c_fits : Fn P w K mg base CX0 1 "fits" ["top", "power"] [] sp_fits) : FnOk P w K mg base CX0 2 f fd ["self", "sign", "top", "power"] (sp_Finit C) := by
  refine F.ok sc_Float_init (fun vs H Q E h => ?_) (fun cdv A outer s H vs Q E hr h => ?_)
  · obtain ⟨a, dx, s, top, p, rfl, _⟩ := h; rfl
  · obtain ⟨a, dx, sg, top, p, rfl, ha, ⟨hs, hk⟩, q⟩ := h
    refine ⟨_, PSs.nox (pss_cons (ps_if (PW.pt (pw_or (pt_not (pt_val (pe_fn c_isplain (hr.mono (by decide)) pass0 (pa_cons (pv 1) pa_nil)))) (pw_or1 (pt_cmpR op_notIn_seq (pv 1) (pe_tupN (pa_cons pe_int (pa_cons (pe_un un_neg pe_int) pa_nil))) (by rfl))))) (pss_one ps_never) pss_nil)
  (C8.pss_cut (ps_if (PW.pt (pw_and (pt_val (pe_callB call_isi (by rfl) B.isinstance (by decide +kernel) (pa_cons (pv 2) (pa_cons (pe_tyStr B) pa_nil)))) (pw_and1 (pt_cmpR op_in_seq (pv 2) (pe_tupN (pa_cons pe_str (pa_cons pe_str pa_nil))) (by rfl))))) (pss_cons (ps_if (PW.pt (pw_and (pt_cmpR (op_oEq hr.units) (pv 2) pe_str (nomark _)) (pw_and1 (pt_cmpR (op_oEq hr.units) (pv 1) (pe_un un_neg pe_int) (nomark _))))) (pss_one ps_never) pss_nil)
  (pss_one (ps_if (PW.pt (pw_or (pt_not (pt_val (pe_fn c_isplain (hr.mono (by decide)) pass0 (pa_cons (pv 3) pa_nil)))) (pw_or1 (pt_cmpR (op_oNe hr.units) (pv 3) pe_int (nomark _))))) (pss_one ps_never) pss_nil))) (pss_one (ps_if (PW.pt (pw_or (pt_not (pt_val (pe_fn c_isplain (hr.mono (by decide)) pass0 (pa_cons (pv 2) pa_nil)))) (pw_or1 (pt_cmpR op_oLt (pv 2) pe_int (nomark _))))) (pss_one ps_never) (pss_one (ps_if (pt_not (pt_val (pe_fn c_isplain (hr.mono (by decide)) pass0 (pa_cons (pv 3) pa_nil)))) (pss_one ps_never) pss_nil)))))
  (pss_cons (ps_fld (pv 0) (pv 1) rfl)
  (pss_cons (ps_asg (pe_fn c_reduced (hr.mono (by decide)) pass0 (pa_cons (pv 2) (pa_cons (pv 3) pa_nil))) (pg_tup rfl (pgs_cons (pg_fld (pv 0)) (pgs_cons (pg_fld (pv 0)) pgs_nil))))
  (pss_one (ps_if (PW.pt (pw_and (pt_cmpR op_notIn_seq (pe_fld (pv 0) rfl) (pe_tupN (pa_cons pe_str (pa_cons pe_str pa_nil))) (by rfl)) (pw_and1 (pt_not (pt_val (pe_fn c_fits (hr.mono (by decide)) pass0 (pa_cons (pe_fld (pv 0) rfl) (pa_cons (pe_fld (pv 0) rfl) pa_nil)))))))) (pss_one ps_never) pss_nil)))))), ?_⟩
    walk_at "go"
    refine ⟨_, _, rfl, kn_int, ?_⟩
    walk_at "go"
    refine iteF ?_
    walk_at "go"
    refine g_new (sz rfl) fun a1 H1 na1 s1 ha1 _ => ?_
    refine ⟨a1, _, rfl, .inr (SqT.of ha1), rfl, rfl, ?_⟩
    walk_at "go"
    have hin : (if true = true then !inV (V.int sg) [V.int 1, V.int (-1)] else inV (V.int sg) [V.int 1, V.int (-1)]) = false := by
      rcases hs with rfl | rfl <;> rfl
    rw [hin]
    walk_at "go"
    refine g_cut (fun σ' H2 => σ' = [some (.ref a), some (.int sg), some top, some (.int p)] ∧ Same H1 H2 ∧ (isIN top ∨ ∃ n : Int, top = .int n ∧ (n ≠ 0 → 0 ≤ lowB n)) ∧ (isIN top ∧ (redV top p).1 = top ∨ ∃ m, (redV top p).1 = .int m ∧ fitsB m (redV top p).2 = true)) ?_ ?_
    · walk_at "go"
      rcases hk with ⟨rfl, rfl, rfl⟩ | ⟨rfl, rfl⟩ | ⟨n, rfl, m, hm, hf⟩
      · refine g_isiStr kn_str ?_
        walk_at "go"
        refine iteT ?_
        walk_at "go"
        refine g_new (sz rfl) fun a2 H2 na2 s2 ha2 _ => ?_
        refine ⟨a2, _, rfl, .inr (SqT.of ha2), rfl, rfl, ?_⟩
        walk_at "go"
        refine iteT ?_
        walk_at "go"
        refine g_yes rfl ?_
        walk_at "go"
        refine g_no (by decide) ?_
        walk_at "go"
        refine ⟨_, _, rfl, kn_int, ?_⟩
        walk_at "go"
        refine iteF ?_
        walk_at "go"
        refine iteF ?_
        walk_at "go"
        exact ⟨rfl, s2, .inl (.inr rfl), .inl ⟨.inr rfl, rfl⟩⟩
      · refine g_isiStr kn_str ?_
        walk_at "go"
        refine iteT ?_
        walk_at "go"
        refine g_new (sz rfl) fun a2 H2 na2 s2 ha2 _ => ?_
        refine ⟨a2, _, rfl, .inr (SqT.of ha2), rfl, rfl, ?_⟩
        walk_at "go"
        refine iteT ?_
        walk_at "go"
        refine g_no (by decide +kernel) ?_
        walk_at "go"
        refine ⟨_, _, rfl, kn_int, ?_⟩
        walk_at "go"
        refine iteF ?_
        walk_at "go"
        refine iteF ?_
        walk_at "go"
        exact ⟨rfl, s2, .inl (.inl rfl), .inl ⟨.inl rfl, rfl⟩⟩
      · refine g_isiStr kn_int ?_
        walk_at "go"
        refine iteF ?_
        walk_at "go"
        refine ⟨_, _, rfl, kn_int, ?_⟩
        walk_at "go"
        refine iteF ?_
        walk_at "go"
        refine g_no (by omega) ?_
        walk_at "go"
        refine ⟨_, _, rfl, kn_int, ?_⟩
        walk_at "go"
        refine iteF ?_
        walk_at "go"
        refine ⟨rfl, Same.refl _, .inr ⟨_, rfl, fun h => ?_⟩, .inr ⟨m, hm, hf⟩⟩
        rw [lowB_nat (by omega)]
        omega
    · rintro σ' H2 ⟨rfl, s2, hx, hy⟩
      have h2 := s2 _ _ (s1 _ _ ha)
      walk_at "go"
      refine ⟨a, C, dx, _, rfl, h2, T.own.cl, T.nS, Nat.le_of_ble_eq_true rfl, ?_⟩
      walk_at "go"
      refine ⟨_, _, rfl, hx, fun H3 a3 na3 s3 ha3 => ?_⟩
      have h3 : H3 a = some (.ins C dx (putF "sign" (.int sg) [])) := s3 _ _ upd_same
      have n3 : a3 ≠ a := fun z => by rw [z, upd_same] at na3; cases na3
      walk_at "go"
      refine ⟨a3, _, rfl, SqT.of ha3, rfl, ?_⟩
      walk_at "go"
      refine ⟨a, C, dx, _, rfl, h3, T.own.cl, T.nT, Nat.le_of_ble_eq_true rfl, ?_⟩
      walk_at "go"
      refine ⟨a, C, dx, _, rfl, upd_same, T.own.cl, T.nP, Nat.le_of_ble_eq_true rfl, ?_⟩
      walk_at "go"
      generalize e4 : upd (upd H3 a (.ins C dx (putF "top" (redV top p).1 (putF "sign" (.int sg) [])))) a (.ins C dx (putF "power" (.int (redV top p).2) (putF "top" (redV top p).1 (putF "sign" (.int sg) [])))) = H4
      have h4 : H4 a = some (.ins C dx (flF sg (redV top p).1 (redV top p).2)) := by rw [← e4]; exact upd_same
      have k4 : ∀ b o, b ≠ a → H b = some o → H4 b = some o := fun b o hb e => by
        rw [← e4, upd_ne hb, upd_ne hb]
        exact s3 _ _ (by rw [upd_ne hb]; exact s2 _ _ (s1 _ _ e))
      refine ⟨a, C, dx, _, _, rfl, h4, T.own.cl, T.nT, fl_top _ _ _, ?_⟩
      walk_at "go"
      refine g_new (sz rfl) fun a5 H5 na5 s5 ha5 _ => ?_
      have fin : ∀ H6, Same H5 H6 → Q .non H6 := fun H6 s6 => q H6 (fun b o hb e => s6 _ _ (s5 _ _ (k4 b o hb e))) (s6 _ _ (s5 _ _ h4))
      rcases hy with ⟨hn, hr⟩ | ⟨m, hm, hf⟩
      · rw [hr]
        refine ⟨a5, _, rfl, .inr (SqT.of ha5), by rcases hn with rfl | rfl <;> rfl, rfl, ?_⟩
        walk_at "go"
        have e : (if true = true then !inV top [V.str "inf", V.str "nan"] else inV top [V.str "inf", V.str "nan"]) = false := by
          rcases hn with rfl | rfl <;> decide +kernel
        rw [e]
        walk_at "go"
        exact fin _ (Same.refl _)
      · rw [hm]
        refine ⟨a5, _, rfl, .inr (SqT.of ha5), rfl, rfl, ?_⟩
        walk_at "go"
        have e : (if true = true then !inV (.int m) [V.str "inf", V.str "nan"] else inV (.int m) [V.str "inf", V.str "nan"]) = true := rfl
        rw [e]
        walk_at "go"
        refine ⟨a, C, dx, _, _, rfl, s5 _ _ h4, T.own.cl, T.nT, fl_top _ _ _, ?_⟩
        walk_at "go"
        refine ⟨a, C, dx, _, _, rfl, s5 _ _ h4, T.own.cl, T.nP, fl_power _ _ _, ?_⟩
        walk_at "go"
        refine ⟨m, _, by rw [hm]; rfl, ?_⟩
        walk_at "go"
        rw [hf]
        walk_at "go"
        exact fin _ (Same.refl _)
end
end Up

set_option Elab.async false
set_option linter.all false
set_option maxRecDepth 100000
set_option maxHeartbeats 4000000
set_option exponentiation.threshold 200000
namespace Up
open PySem PySem.Spec PyProof.Rows L2
local macro_rules | `(tactic| walk_at "u") => `(tactic| first
  | with_reducible refine g_seq ?_
  | with_reducible refine g_asg ?_
  | with_reducible refine g_op ?_
  | ((with_reducible show tVar _ _ _ _); apply g_var; exact rfl)
  | with_reducible refine g_c ?_
  | with_reducible refine g_name ?_
  | with_reducible refine g_ifs ?_
  | with_reducible refine g_tt ?_
  | with_reducible refine g_tB ?_
  | with_reducible refine g_bl ?_
  | with_reducible refine g_ret ?_
  | with_reducible refine g_cb ?_
  | with_reducible refine g_cons ?_
  | with_reducible refine g_nil ?_
  | with_reducible refine g_call ?_
  | with_reducible refine g_and ?_
  | with_reducible refine g_or ?_
  | with_reducible refine g_not ?_
  | with_reducible refine g_andV ?_
  | with_reducible refine g_orV ?_
  | with_reducible refine g_notV ?_
  | with_reducible refine g_if ?_
  | with_reducible refine g_un ?_
  | with_reducible refine g_neg ?_
  | with_reducible refine g_addI ?_
  | with_reducible refine g_subI ?_
  | with_reducible refine g_subB ?_
  | with_reducible refine g_I0 ?_
  | with_reducible refine g_cmpI ?_
  | with_reducible refine g_eqI ?_
  | with_reducible refine g_neI ?_
  | with_reducible refine g_eqS ?_
  | with_reducible refine g_neS ?_
  | with_reducible refine g_eqB ?_
  | with_reducible refine g_neB ?_
  | with_reducible refine g_bits ?_
  | with_reducible refine g_bitsI ?_
  | with_reducible refine g_fld ?_
  | with_reducible refine g_tup ?_
  | with_reducible refine g_lst ?_
  | with_reducible refine g_gtup ?_
  | with_reducible refine g_make ?_
  | with_reducible refine g_lc ?_
  | with_reducible refine g_yesT ?_
  | with_reducible refine g_intI ?_
  | with_reducible refine g_intB ?_
  | with_reducible refine g_max2 ?_
  | with_reducible refine g_abs1 ?_
  | with_reducible refine g_for ?_
  | with_reducible refine g_iList ?_
  | with_reducible refine g_iTup ?_
  | with_reducible refine g_iRng1 ?_
  | with_reducible refine g_iEnum ?_
  | with_reducible refine g_slice ?_
  | with_reducible refine g_po0 ?_
  | with_reducible refine g_po1 ?_
  | with_reducible refine g_gsub ?_
  | with_reducible refine g_par ?_
  | with_reducible refine g_par2 ?_
  | with_reducible refine g_rfl ?_
  | with_reducible refine g_meth ?_
  | with_reducible refine g_gcons ?_
  | with_reducible refine g_gnil ?_
  | with_reducible refine g_gfld ?_
  | with_reducible refine g_sfld ?_
  | with_reducible refine g_drop ?_
  | with_reducible refine g_next ?_
  | with_reducible refine iteT ?_
  | with_reducible refine iteF ?_)
local macro_rules | `(tactic| walk_at "go") => `(tactic| (repeat walk_at "u"))

/-! ### parts of a float that was made -/
theorem red_nat {n : Nat} (h : n ≠ 0) (p : Int) : redV (.int n) p = (.int ((n / 2 ^ tz n : Nat) : Int), p + (tz n : Int)) := by
  have e : redV (.int n) p = (.int ((n : Int) / 2 ^ (lowB n).toNat), p + lowB n) := if_neg (by omega)
  rw [e, lowB_nat h]
  simp
theorem red_zero (p : Int) : redV (.int 0) p = (.int 0, 0) := rfl
theorem fits_of {n : Nat} {p : Int} (h1 : n ≤ 2 ^ 53) (h2 : -1074 ≤ p) (h3 : (bitsN n : Int) + p ≤ 1024) : ∃ m, (redV (.int n) p).1 = .int m ∧ fitsB m (redV (.int n) p).2 = true := by
  by_cases h0 : n = 0
  · subst h0
    exact ⟨0, rfl, by show fitsB 0 0 = true; decide⟩
  · rw [red_nat h0]
    refine ⟨_, rfl, ?_⟩
    obtain ⟨_, i2, i3, i4⟩ := land_pred n h0
    have hb := bits_shift h0
    have hle : n / 2 ^ tz n ≤ n := Nat.div_le_self _ _
    unfold fitsB
    rw [intBits_nat]
    have a1 : ((n / 2 ^ tz n : Nat) : Int) < 9007199254740992 := by
      have : n / 2 ^ tz n ≠ 2 ^ 53 := by intro z; rw [z] at i3; exact absurd i3 (by decide)
      omega
    have a2 : -1074 ≤ p + (tz n : Int) := by omega
    have a3 : ((bitsN (n / 2 ^ tz n) : Nat) : Int) + (p + (tz n : Int)) ≤ 1024 := by omega
    rw [decide_eq_true a1, decide_eq_true a2, decide_eq_true a3]
    rfl
theorem mk_flok {s : Int} {top : V} {p : Int} (h : MkOk s top p) : FlOk s (redV top p).1 (redV top p).2 := by
  obtain ⟨hs, h⟩ := h
  refine ⟨hs, ?_⟩
  rcases h with ⟨rfl, h1, rfl⟩ | ⟨rfl, rfl⟩ | ⟨n, rfl, m, hm, hf⟩
  · exact .inl ⟨rfl, h1, rfl⟩
  · exact .inr (.inl ⟨rfl, rfl⟩)
  · refine .inr (.inr ⟨m, hm, ?_⟩)
    by_cases h0 : n = 0
    · subst h0
      have e : m = 0 := by
        have : (V.int 0) = V.int m := hm
        injection this with z
        exact z.symm
      subst e
      show FinOk 0 0
      exact ⟨by decide, by decide, by decide, by decide, fun _ => rfl⟩
    · rw [red_nat h0] at hm hf ⊢
      obtain ⟨_, i2, i3, i4⟩ := land_pred n h0
      have e : ((n / 2 ^ tz n : Nat) : Int) = m := by injection hm
      have hne : m ≠ 0 := by
        intro z
        rw [z] at e
        have : n / 2 ^ tz n = 0 := by exact_mod_cast e
        rw [this] at i3
        exact absurd i3 (by decide)
      unfold fitsB at hf
      simp only [decide_eq_false hne, Bool.or_false, Bool.and_eq_true, decide_eq_true_eq] at hf
      exact ⟨e ▸ Int.natCast_nonneg _, hf.1, hf.2.1, hf.2.2, fun z => absurd z hne⟩
theorem mk_of_flok {s : Int} {n : Nat} {p : Int} (hs : s = 1 ∨ s = -1) (h1 : n ≤ 2 ^ 53) (h2 : -1074 ≤ p) (h3 : (bitsN n : Int) + p ≤ 1024) : MkOk s (.int n) p := ⟨hs, .inr (.inr ⟨n, rfl, fits_of h1 h2 h3⟩)⟩
/-! ### numbers as values -/
inductive Nm where
  | i (n : Int)
  | f (s : Int) (t : V) (p : Int)
def NumAt (C : Addr) (H : Hp) (v : V) : Nm → Prop
  | .i n => v = .int n
  | .f s t p => ∃ a, v = .ref a ∧ FlAt C H a s t p ∧ FlOk s t p
theorem NumAt.same {C : Addr} {H H' : Hp} {v : V} : ∀ {n : Nm}, NumAt C H v n → Same H H' → NumAt C H' v n
  | .i _, h, _ => h
  | .f _ _ _, ⟨a, e, h, k⟩, s => ⟨a, e, h.same s, k⟩
abbrev RetF (C : Addr) (H : Hp) (s : Int) (t : V) (p : Int) (Q : VK) : Prop := ∀ H' a, H a = none → Same H H' → FlAt C H' a s t p → Q (.ref a) H'
section
variable {P : Program} {w : World} {K : PySem.W.Frag} {mg : Str → Option Value} {base : Heap} {C : Addr}
/-- Float(s, top, p) -/
theorem mkF {H : Hp} {Q : VK} {E : XK} {s : Int} {top : V} {p : Int} (hk : MkOk s top p) (q : RetF C H s (redV top p).1 (redV top p).2 Q) :
    MakeR C (sp_Finit C) ([.int s, top, .int p] ++ []) H Q E := by
  intro x dx H' nx ndx ne s1 hx _
  exact ⟨x, dx, s, top, p, rfl, hx, hk, fun H2 k h2 => ⟨rfl, q H2 x nx (fun b o e => k b o (ne_of_none e nx) (s1 _ _ e)) ⟨dx, h2⟩⟩⟩
abbrev CnF (P : Program) (w : World) (K : PySem.W.Frag) (mg : Str → Option Value) (base : Heap) (C : Addr) : Prop := Cn P w K mg base CX0 2 "Float" C ["self", "sign", "top", "power"] [] (sp_Finit C)
/-! is_finite -/
abbrev s_Float_isfinite : Stmt := inClass (top 12) 4
theorem sc_Float_isfinite : FnScope ["self"] ["self"] (defScope s_Float_isfinite) := ⟨rfl, rfl, rfl, by decide +kernel, rfl, by decide +kernel, by decide +kernel⟩
def sp_isfinite (C : Addr) : Sp := fun vs H Q _ => ∃ a s t p, vs = [.ref a] ∧ FlAt C H a s t p ∧ FlOk s t p ∧ Q (.bl (isI t)) H
theorem FlOk.kn {s : Int} {t : V} {p : Int} {H : Hp} (h : FlOk s t p) : ∃ u, Kn K H t u ∧ isB t = false := by
  rcases h.2 with ⟨rfl, _⟩ | ⟨rfl, _⟩ | ⟨n, rfl, _⟩
  · exact ⟨_, kn_str, rfl⟩
  · exact ⟨_, kn_str, rfl⟩
  · exact ⟨_, kn_int, rfl⟩
theorem ok_isfinite {f : Addr} {fd : FuncData} (F : FunD K "is_finite" "Float.is_finite" (defArgs s_Float_isfinite) (defBody s_Float_isfinite) (defScope s_Float_isfinite) [] [] f fd) (B : Blt mg) (T : FlC K mg C) : FnOk P w K mg base CX0 1 f fd ["self"] (sp_isfinite C) := by
  refine F.ok sc_Float_isfinite (fun vs H Q E h => ?_) (fun cdv A outer s H vs Q E hr h => ?_)
  · obtain ⟨a, s, t, p, rfl, _⟩ := h; rfl
  · obtain ⟨a, sg, t, p, rfl, ⟨dx, ha⟩, ho, q⟩ := h
    refine ⟨_, PSs.nox (pss_one (ps_ret (pe_callB call_isi (by rfl) B.isinstance (by decide +kernel) (pa_cons (pe_fld (pv 0) rfl) (pa_cons (pe_tyInt B) pa_nil))))), ?_⟩
    walk_at "go"
    refine ⟨a, C, dx, _, _, rfl, ha, T.own.cl, T.nT, fl_top _ _ _, ?_⟩
    walk_at "go"
    obtain ⟨u, kn, hb⟩ := ho.kn (K := K) (H := H)
    refine g_isiInt kn ?_
    rw [hb, Bool.or_false]
    exact q
/-! ratio -/
abbrev s_Float_ratio : Stmt := inClass (top 12) 5
theorem sc_Float_ratio : FnScope ["self"] ["self"] (defScope s_Float_ratio) := ⟨rfl, rfl, rfl, by decide +kernel, rfl, by decide +kernel, by decide +kernel⟩
def ratN (s n p : Int) : Int := if p < 0 then s * n else s * (n * 2 ^ p.toNat)
def ratD (p : Int) : Int := if p < 0 then 2 ^ (0 - p).toNat else 1
def sp_ratio (C : Addr) : Sp := fun vs H Q _ => ∃ a s n p, vs = [.ref a] ∧ FlAt C H a s (.int n) p ∧ FlOk s (.int n) p ∧ RetT H [.int (ratN s n p), .int (ratD p)] Q
theorem fin_of {s n p : Int} (h : FlOk s (.int n) p) : FinOk n p := by
  rcases h.2 with ⟨z, _⟩ | ⟨z, _⟩ | ⟨m, e, h⟩
  · cases z
  · cases z
  · injection e with e; subst e; exact h
theorem FinOk.hi {n p : Int} (h : FinOk n p) : p ≤ 1024 := by
  obtain ⟨h1, _, _, h4, h5⟩ := h
  by_cases h0 : n = 0
  · rw [h5 h0]; decide
  · have := bits_pos (n := n.natAbs) (by omega)
    rw [intBits_neg] at h4
    omega
theorem sgn_mul {s x : Int} (hs : s = 1 ∨ s = -1) : IntMulOk s x := .of_left (by rcases hs with rfl | rfl <;> decide)
theorem shl_small {i j : Int} (h0 : 0 ≤ j) (h : j ≤ 100000) (hi : i.natAbs < 2 ^ 100000) : CShl i j := by
  refine ⟨h0, ?_⟩
  rw [intBits_neg]
  have := bits_le hi
  omega
theorem lt_pow_mono {n a b : Nat} (h : n < 2 ^ a) (hab : a ≤ b) : n < 2 ^ b := Nat.lt_of_lt_of_le h (Nat.pow_le_pow_right (by decide) hab)
theorem ok_ratio {f : Addr} {fd : FuncData} (F : FunD K "ratio" "Float.ratio" (defArgs s_Float_ratio) (defBody s_Float_ratio) (defScope s_Float_ratio) [] [] f fd) (B : Blt mg) (T : FlC K mg C) : FnOk P w K mg base CX0 1 f fd ["self"] (sp_ratio C) := by
  refine F.ok sc_Float_ratio (fun vs H Q E h => ?_) (fun cdv A outer s H vs Q E hr h => ?_)
  · obtain ⟨a, s, t, p, rfl, _⟩ := h; rfl
  · obtain ⟨a, sg, n, p, rfl, ⟨dx, ha⟩, ho, q⟩ := h
    have hf := fin_of ho
    have hhi := hf.hi
    obtain ⟨f1, f2, f3, f4, f5⟩ := hf
    unfold ratN ratD at q
    refine ⟨_, PSs.nox (pss_cons (ps_if (pt_cmpR op_oLt (pe_fld (pv 0) rfl) pe_int (nomark _)) (pss_one (ps_ret (pe_tupN (pa_cons (pe_op op_oMul (pe_fld (pv 0) rfl) (pe_fld (pv 0) rfl)) (pa_cons (pe_op op_oShl pe_int (pe_op op_oSub pe_int (pe_fld (pv 0) rfl))) pa_nil))))) pss_nil)
  (pss_one (ps_ret (pe_tupN (pa_cons (pe_op op_oMul (pe_fld (pv 0) rfl) (pe_op op_oShl (pe_fld (pv 0) rfl) (pe_fld (pv 0) rfl))) (pa_cons pe_int pa_nil)))))), ?_⟩
    walk_at "go"
    refine ⟨a, C, dx, _, _, rfl, ha, T.own.cl, T.nP, fl_power _ _ _, ?_⟩
    walk_at "go"
    refine g_ite (fun hp => ?_) fun hp => ?_
    · walk_at "go"
      refine ⟨a, C, dx, _, _, rfl, ha, T.own.cl, T.nS, fl_sign _ _ _, ?_⟩
      walk_at "go"
      refine ⟨a, C, dx, _, _, rfl, ha, T.own.cl, T.nT, fl_top _ _ _, ?_⟩
      refine g_mulI (sgn_mul ho.1) ?_
      walk_at "go"
      refine ⟨a, C, dx, _, _, rfl, ha, T.own.cl, T.nP, fl_power _ _ _, ?_⟩
      walk_at "go"
      refine g_II (shl_small (by omega) (by omega) (lt_pow_mono (a := 1) (by decide) (by decide))) ?_
      walk_at "go"
      refine g_new (sz rfl) fun b H2 nb s2 hb _ => ?_
      rw [if_pos hp, if_pos hp] at q
      rw [Int.one_mul] at hb
      exact q _ _ nb s2 hb
    · walk_at "go"
      refine ⟨a, C, dx, _, _, rfl, ha, T.own.cl, T.nS, fl_sign _ _ _, ?_⟩
      walk_at "go"
      refine ⟨a, C, dx, _, _, rfl, ha, T.own.cl, T.nT, fl_top _ _ _, ?_⟩
      walk_at "go"
      refine ⟨a, C, dx, _, _, rfl, ha, T.own.cl, T.nP, fl_power _ _ _, ?_⟩
      walk_at "go"
      refine g_II (shl_small (by omega) (by omega) (lt_pow_mono (a := 53) (by omega) (by decide))) ?_
      refine g_mulI (sgn_mul ho.1) ?_
      walk_at "go"
      refine g_new (sz rfl) fun b H2 nb s2 hb _ => ?_
      rw [if_neg hp, if_neg hp] at q
      exact q _ _ nb s2 hb
/-! infinity -/
abbrev s_infinity : Stmt := top 17
theorem sc_infinity : FnScope ["sign"] ["sign"] (defScope s_infinity) := ⟨rfl, rfl, rfl, by decide +kernel, rfl, by decide +kernel, by decide +kernel⟩
def sp_infinity (C : Addr) : Sp := fun vs H Q _ => ∃ s, vs = [.int s] ∧ (s = 1 ∨ s = -1) ∧ RetF C H s (.str "inf") 0 Q
theorem mk_inf {s : Int} (hs : s = 1 ∨ s = -1) : MkOk s (.str "inf") 0 := ⟨hs, .inr (.inl ⟨rfl, rfl⟩)⟩
theorem ok_infinity {f : Addr} {fd : FuncData} (F : FunD K "infinity" "infinity" (defArgs s_infinity) (defBody s_infinity) (defScope s_infinity) [] [] f fd) (c_Float : CnF P w K mg base C) : FnOk P w K mg base CX0 4 f fd ["sign"] (sp_infinity C) := by
  refine F.ok sc_infinity (fun vs H Q E h => ?_) (fun cdv A outer s H vs Q E hr h => ?_)
  · obtain ⟨a, rfl, _⟩ := h; rfl
  · obtain ⟨sg, rfl, hs, q⟩ := h
    refine ⟨_, PSs.nox (pss_one (ps_ret (pe_cn c_Float (hr.mono (by decide)) pass0 (pa_cons (pv 0) (pa_cons pe_str (pa_cons pe_int pa_nil)))))), ?_⟩
    walk_at "go"
    exact mkF (mk_inf hs) q
/-! nearest -/
abbrev s_nearest : Stmt := top 18
theorem sc_nearest : FnScope ["sign", "top", "bottom", "power", "whole", "rest"] ["sign", "top", "bottom"] (defScope s_nearest) := ⟨rfl, rfl, rfl, by decide +kernel, rfl, by decide +kernel, by decide +kernel⟩
/-- what is handed to Float -/
def nearV (t b : Nat) : V × Int := if t = 0 then (.int 0, 0) else if (bitsN (nrW t b) : Int) + nrP2 t b > 1024 then (.str "inf", 0) else (.int (nrW t b : Int), nrP2 t b)
theorem near_mk {s : Int} {t b : Nat} (hs : s = 1 ∨ s = -1) (hb : 0 < b) : MkOk s (nearV t b).1 (nearV t b).2 := by
  unfold nearV
  by_cases h0 : t = 0
  · rw [if_pos h0]
    exact mk_of_flok (n := 0) hs (by decide) (by decide) (by decide)
  · rw [if_neg h0]
    by_cases h1 : (bitsN (nrW t b) : Int) + nrP2 t b > 1024
    · rw [if_pos h1]
      exact mk_inf hs
    · rw [if_neg h1]
      exact mk_of_flok hs (nrW_le hb) (nrP2_lo t b) (by omega)
def sp_nearest (C : Addr) : Sp := fun vs H Q _ => ∃ (s : Int) (t b : Nat), vs = [.int s, .int t, .int b] ∧ (s = 1 ∨ s = -1) ∧ 0 < b ∧ bitsN t ≤ 6000 ∧ bitsN b ≤ 6000 ∧ RetF C H s (redV (nearV t b).1 (nearV t b).2).1 (redV (nearV t b).1 (nearV t b).2).2 Q
theorem fdiv_nat (a b : Nat) : (a : Int).fdiv (b : Int) = ((a / b : Nat) : Int) := by
  rw [Int.fdiv_eq_ediv_of_nonneg _ (by omega)]; rfl
theorem log2_lt {b k : Nat} (h : b < 2 ^ k) (hk : 0 < k) : b.log2 < k := by
  by_cases h0 : b = 0
  · subst h0; simpa using hk
  · exact (Nat.log2_lt h0).mpr h
theorem land_one (n : Nat) : Builtin.bitAnd (n : Int) 1 = ((n % 2 : Nat) : Int) := by
  rw [PyProof.Rows.bitAnd_pp (by omega) (by decide)]
  show ((n &&& 1 : Nat) : Int) = _
  rw [Nat.and_one_is_mod]
theorem ok_nearest {f : Addr} {fd : FuncData} (F : FunD K "nearest" "nearest" (defArgs s_nearest) (defBody s_nearest) (defScope s_nearest) [] [] f fd) (B : Blt mg) (i_ROOM : ∃ t, mg "ROOM" = some (.int 9007199254740992 t)) (i_LOWEST : ∃ t, mg "LOWEST" = some (.int (-1074) t)) (i_TOO_GREAT : ∃ t, mg "TOO_GREAT" = some (.int 1024 t))
    (c_Float : CnF P w K mg base C) (c_infinity : Fn P w K mg base CX0 4 "infinity" ["sign"] [] (sp_infinity C)) : FnOk P w K mg base CX0 5 f fd ["sign", "top", "bottom"] (sp_nearest C) := by
  refine F.ok sc_nearest (fun vs H Q E h => ?_) (fun cdv A outer s H vs Q E hr h => ?_)
  · obtain ⟨_, _, _, rfl, _⟩ := h; rfl
  · obtain ⟨sg, t, b, rfl, hs, hb, ht, hbb, q⟩ := h
    have mk := near_mk (t := t) (b := b) hs hb
    refine ⟨_, PSs.nox (pss_cons (ps_if (pt_cmpR (op_oEq hr.units) (pv 1) pe_int (nomark _)) (pss_one (ps_ret (pe_cn c_Float (hr.mono (by decide)) pass0 (pa_cons (pv 0) (pa_cons pe_int (pa_cons pe_int pa_nil)))))) pss_nil)
  (pss_cons (ps_set (i := 3) sc_nearest.nd rfl (Or.inl rfl) (pe_callB (call_max2 rfl) (by rfl) B.max (by decide +kernel) (pa_cons (pe_op op_oSub (pe_op op_oSub (pe_bits (pv 1)) (pe_bits (pv 2))) pe_int) (pa_cons (pe_gint i_LOWEST) pa_nil))))
  (C8.pss_cut (ps_if (pt_cmpR op_oLt (pv 3) pe_int (nomark _)) (pss_one (ps_set (i := 1) sc_nearest.nd rfl (Or.inl rfl) (pe_op op_oShl (pv 1) (pe_op op_oSub pe_int (pv 3))))) (pss_one (ps_set (i := 2) sc_nearest.nd rfl (Or.inl rfl) (pe_op op_oShl (pv 2) (pv 3)))))
  (C8.pss_cut (ps_if (pt_cmpR op_oGe (pe_op op_oDiv (pv 1) (pv 2)) (pe_gint i_ROOM) (nomark _)) (pss_cons (ps_set (i := 2) sc_nearest.nd rfl (Or.inl rfl) (pe_op op_oShl (pv 2) pe_int))
  (pss_one (ps_set (i := 3) sc_nearest.nd rfl (Or.inl rfl) (pe_op op_oAdd (pv 3) pe_int)))) pss_nil)
  (pss_cons (ps_asg (pe_callB call_divmodK (by rfl) B.divmod (by decide +kernel) (pa_cons (pv 1) (pa_cons (pv 2) pa_nil))) (pg_tup rfl (pgs_cons (pg_name (i := 4) sc_nearest.nd rfl (Or.inl rfl)) (pgs_cons (pg_name (i := 5) sc_nearest.nd rfl (Or.inl rfl)) pgs_nil))))
  (C8.pss_cut (ps_if (PW.pt (pw_or (pt_cmpR op_oGt (pe_op op_oMul pe_int (pv 5)) (pv 2) (nomark _)) (pw_or1 (PW.pt (pw_and (pt_cmpR (op_oEq hr.units) (pe_op op_oMul pe_int (pv 5)) (pv 2) (nomark _)) (pw_and1 (pt_cmpR (op_oEq hr.units) (pe_op op_oAnd (pv 4) pe_int) pe_int (nomark _)))))))) (pss_one (ps_set (i := 4) sc_nearest.nd rfl (Or.inl rfl) (pe_op op_oAdd (pv 4) pe_int))) pss_nil)
  (pss_cons (ps_if (pt_cmpR op_oGt (pe_op op_oAdd (pe_bits (pv 4)) (pv 3)) (pe_gint i_TOO_GREAT) (nomark _)) (pss_one (ps_ret (pe_fn c_infinity (hr.mono (by decide)) pass0 (pa_cons (pv 0) pa_nil)))) pss_nil)
  (pss_one (ps_ret (pe_cn c_Float (hr.mono (by decide)) pass0 (pa_cons (pv 0) (pa_cons (pv 4) (pa_cons (pv 3) pa_nil))))))))))))), ?_⟩
    walk_at "go"
    refine g_ite (fun h0 => ?_) fun h0 => ?_
    · walk_at "go"
      have h0 : t = 0 := by omega
      have e : nearV t b = (.int 0, 0) := if_pos h0
      rw [e] at q mk
      exact mkF mk q
    · have h0 : t ≠ 0 := by omega
      walk_at "go"
      rw [intBits_nat, intBits_nat]
      have eP : (if (-1074 : Int) > ((bitsN t : Nat) : Int) - ((bitsN b : Nat) : Int) - 53 then (-1074 : Int) else ((bitsN t : Nat) : Int) - ((bitsN b : Nat) : Int) - 53) = nrP t b := rfl
      rw [eP]
      have p1 := nrP_lo t b
      have p2 := nrP_hi (t := t) (b := b)
      walk_at "go"
      refine g_cut (fun σ' H2 => σ' = [some (.int sg), some (.int (nrT t (nrP t b) : Nat)), some (.int (nrB b (nrP t b) : Nat)), some (.int (nrP t b)), none, none] ∧ H = H2) ?_ ?_
      · walk_at "go"
        refine g_ite (fun hp => ?_) fun hp => ?_
        · walk_at "go"
          refine g_II (shl_small (by omega) (by omega) (lt_pow_mono (bits_lt t) (by omega))) ?_
          walk_at "go"
          refine ⟨?_, rfl⟩
          unfold nrT nrB
          rw [if_pos hp, if_pos hp]
          simp [L2.start]
        · walk_at "go"
          refine g_II (shl_small (by omega) (by omega) (lt_pow_mono (bits_lt b) (by omega))) ?_
          walk_at "go"
          refine ⟨?_, rfl⟩
          unfold nrT nrB
          rw [if_neg hp, if_neg hp]
          simp [L2.start]
      · rintro σ' _ ⟨rfl, rfl⟩
        have hB := nrB_pos hb (nrP t b)
        have hB2 := nrB2_pos (t := t) hb
        have hbit := nrB2_bits (m := 6000) ht hbb hb
        have hbit1 : nrB b (nrP t b) < 2 ^ 6001 := by
          unfold nrB2 at hbit
          split at hbit <;> omega
        walk_at "go"
        refine g_cut (fun σ' H2 => σ' = [some (.int sg), some (.int (nrT t (nrP t b) : Nat)), some (.int (nrB2 t b : Nat)), some (.int (nrP2 t b)), none, none] ∧ H = H2) ?_ ?_
        · walk_at "go"
          refine g_divI (by omega) (by rw [Int.natAbs_natCast]; exact Nat.lt_trans (log2_lt hbit1 (by decide)) (by decide)) ?_
          rw [fdiv_nat]
          walk_at "go"
          refine g_ite (fun hg => ?_) fun hg => ?_
          · have hg' : nrBig t b = true := decide_eq_true (Int.ofNat_le.mp (show ((9007199254740992 : Nat) : Int) ≤ _ from hg))
            walk_at "go"
            refine g_II (shl_small (by decide) (by decide) (lt_pow_mono hbit1 (by decide))) ?_
            walk_at "go"
            refine ⟨?_, rfl⟩
            unfold nrB2 nrP2
            rw [if_pos hg', if_pos hg']
            simp
          · have hg' : ¬ nrBig t b = true := fun z => hg (Int.ofNat_le.mpr (of_decide_eq_true z))
            walk_at "go"
            refine ⟨?_, rfl⟩
            unfold nrB2 nrP2
            rw [if_neg hg', if_neg hg']
        · rintro σ' _ ⟨rfl, rfl⟩
          walk_at "go"
          refine ⟨_, _, rfl, ⟨by omega, by rw [Int.natAbs_natCast]; exact Nat.lt_trans (log2_lt hbit (by decide)) (by decide)⟩, fun a H2 na s2 ha _ => ?_⟩
          walk_at "go"
          refine ⟨a, _, rfl, SqT.of ha, rfl, ?_⟩
          walk_at "go"
          have eQ : ((nrT t (nrP t b) : Nat) : Int) / ((nrB2 t b : Nat) : Int) = ((nrQ t b : Nat) : Int) := rfl
          have eR : ((nrT t (nrP t b) : Nat) : Int) % ((nrB2 t b : Nat) : Int) = ((nrR t b : Nat) : Int) := rfl
          rw [eQ, eR]
          refine g_cut (fun σ' H3 => σ' = [some (.int sg), some (.int (nrT t (nrP t b) : Nat)), some (.int (nrB2 t b : Nat)), some (.int (nrP2 t b)), some (.int (nrW t b : Nat)), some (.int (nrR t b : Nat))] ∧ H2 = H3) ?_ ?_
          · have up : ∀ (c : Bool), nrUp t b = c → nrW t b = if c then nrQ t b + 1 else nrQ t b := fun c h => by unfold nrW; rw [h]
            walk_at "go"
            refine g_mulI (.of_left (by decide)) ?_
            walk_at "go"
            refine g_ite (fun h1 => ?_) fun h1 => ?_
            · walk_at "go"
              refine ⟨?_, rfl⟩
              rw [up true (by unfold nrUp; rw [decide_eq_true (show nrB2 t b < 2 * nrR t b by omega)]; rfl)]
              simp
            · walk_at "go"
              refine g_mulI (.of_left (by decide)) ?_
              walk_at "go"
              refine g_ite (fun h2 => ?_) fun h2 => ?_
              · walk_at "go"
                rw [land_one]
                refine g_ite (fun h3 => ?_) fun h3 => ?_
                · walk_at "go"
                  refine ⟨?_, rfl⟩
                  rw [up true (by unfold nrUp; rw [decide_eq_true (show 2 * nrR t b = nrB2 t b by omega), decide_eq_true (show nrQ t b % 2 = 1 by omega), Bool.and_self, Bool.or_true])]
                  simp
                · walk_at "go"
                  refine ⟨?_, rfl⟩
                  rw [up false (by unfold nrUp; rw [decide_eq_false (show ¬ nrB2 t b < 2 * nrR t b by omega), decide_eq_false (show ¬ nrQ t b % 2 = 1 by omega), Bool.and_false, Bool.or_false])]
                  simp
              · walk_at "go"
                refine ⟨?_, rfl⟩
                rw [up false (by unfold nrUp; rw [decide_eq_false (show ¬ nrB2 t b < 2 * nrR t b by omega), decide_eq_false (show ¬ 2 * nrR t b = nrB2 t b by omega), Bool.false_and, Bool.or_false])]
                simp
          · rintro σ' _ ⟨rfl, rfl⟩
            have q2 : RetF C H2 sg (redV (nearV t b).1 (nearV t b).2).1 (redV (nearV t b).1 (nearV t b).2).2 Q := fun H' x nx sx hx => q H' x (s2.free nx) (s2.trans sx) hx
            walk_at "go"
            rw [intBits_nat]
            refine g_ite (fun h1 => ?_) fun h1 => ?_
            · walk_at "go"
              have e : nearV t b = (.str "inf", 0) := by unfold nearV; rw [if_neg h0, if_pos h1]
              rw [e] at q2
              exact ⟨sg, rfl, hs, q2⟩
            · walk_at "go"
              have e : nearV t b = (.int (nrW t b : Int), nrP2 t b) := by unfold nearV; rw [if_neg h0, if_neg h1]
              rw [e] at q2 mk
              exact mkF mk q2
end
end Up

set_option Elab.async false
set_option linter.all false
set_option maxRecDepth 100000
set_option maxHeartbeats 4000000
set_option exponentiation.threshold 200000
namespace Up
open PySem PySem.Spec PyProof.Rows L2
local macro_rules | `(tactic| walk_at "u") => `(tactic| first
  | with_reducible refine g_seq ?_
  | with_reducible refine g_asg ?_
  | with_reducible refine g_op ?_
  | ((with_reducible show tVar _ _ _ _); apply g_var; exact rfl)
  | with_reducible refine g_c ?_
  | with_reducible refine g_name ?_
  | with_reducible refine g_ifs ?_
  | with_reducible refine g_tt ?_
  | with_reducible refine g_tB ?_
  | with_reducible refine g_bl ?_
  | with_reducible refine g_ret ?_
  | with_reducible refine g_cb ?_
  | with_reducible refine g_cons ?_
  | with_reducible refine g_nil ?_
  | with_reducible refine g_call ?_
  | with_reducible refine g_and ?_
  | with_reducible refine g_or ?_
  | with_reducible refine g_not ?_
  | with_reducible refine g_andV ?_
  | with_reducible refine g_orV ?_
  | with_reducible refine g_notV ?_
  | with_reducible refine g_if ?_
  | with_reducible refine g_un ?_
  | with_reducible refine g_neg ?_
  | with_reducible refine g_addI ?_
  | with_reducible refine g_subI ?_
  | with_reducible refine g_subB ?_
  | with_reducible refine g_I0 ?_
  | with_reducible refine g_cmpI ?_
  | with_reducible refine g_eqI ?_
  | with_reducible refine g_neI ?_
  | with_reducible refine g_eqS ?_
  | with_reducible refine g_neS ?_
  | with_reducible refine g_eqB ?_
  | with_reducible refine g_neB ?_
  | with_reducible refine g_bits ?_
  | with_reducible refine g_bitsI ?_
  | with_reducible refine g_fld ?_
  | with_reducible refine g_tup ?_
  | with_reducible refine g_lst ?_
  | with_reducible refine g_gtup ?_
  | with_reducible refine g_make ?_
  | with_reducible refine g_lc ?_
  | with_reducible refine g_yesT ?_
  | with_reducible refine g_intI ?_
  | with_reducible refine g_intB ?_
  | with_reducible refine g_max2 ?_
  | with_reducible refine g_abs1 ?_
  | with_reducible refine g_for ?_
  | with_reducible refine g_iList ?_
  | with_reducible refine g_iTup ?_
  | with_reducible refine g_iRng1 ?_
  | with_reducible refine g_iEnum ?_
  | with_reducible refine g_slice ?_
  | with_reducible refine g_po0 ?_
  | with_reducible refine g_po1 ?_
  | with_reducible refine g_gsub ?_
  | with_reducible refine g_par ?_
  | with_reducible refine g_par2 ?_
  | with_reducible refine g_rfl ?_
  | with_reducible refine g_meth ?_
  | with_reducible refine g_gcons ?_
  | with_reducible refine g_gnil ?_
  | with_reducible refine g_gfld ?_
  | with_reducible refine g_sfld ?_
  | with_reducible refine g_drop ?_
  | with_reducible refine g_next ?_
  | with_reducible refine iteT ?_
  | with_reducible refine iteF ?_)
local macro_rules | `(tactic| walk_at "go") => `(tactic| (repeat walk_at "u"))

section
variable {P : Program} {w : World} {K : PySem.W.Frag} {mg : Str → Option Value} {base : Heap} {C : Addr}
/-! ### kinds, Float asked too -/
structure KnF (K : PySem.W.Frag) (C : Addr) (H : Hp) (x : V) (t : Value) (b : Bool) : Prop where
  kn : Kn K H x t
  fl : PySem.W.kitOne K t (.ref C) = some b
theorem KnF.same {H H' : Hp} {x : V} {t : Value} {b : Bool} (h : KnF K C H x t b) (s : Same H H') : KnF K C H' x t b := ⟨h.kn.same s, h.fl⟩
theorem g_isiF {H : Hp} {Q : VK} {x : V} {t : Value} {b : Bool} (h : KnF K C H x t b) (q : Q (.bl b) H) : rIsi K [x, .ref C] H Q := g_isi h.kn.ty (.own _) h.fl q
theorem kf_int (T : FlC K mg C) {H : Hp} {i : Int} : KnF K C H (.int i) (.type "int") false := ⟨kn_int, T.fi⟩
theorem kf_bl (T : FlC K mg C) {H : Hp} {i : Bool} : KnF K C H (.bl i) (.type "bool") false := ⟨kn_bl, T.fb⟩
theorem kf_str (T : FlC K mg C) {H : Hp} {i : Str} : KnF K C H (.str i) (.type "str") false := ⟨kn_str, T.fs⟩
theorem kf_non (T : FlC K mg C) {H : Hp} : KnF K C H .non (.type "NoneType") false := ⟨kn_non, T.fn⟩
theorem kf_fl (T : FlC K mg C) {H : Hp} {a : Addr} {s : Int} {t : V} {p : Int} (h : FlAt C H a s t p) : KnF K C H (.ref a) (.ref C) true := by
  obtain ⟨dx, h⟩ := h
  exact ⟨kn_ins T.own h, T.yes⟩
def isF : Nm → Bool
  | .i _ => false
  | .f _ _ _ => true
theorem NumAt.kf (T : FlC K mg C) {H : Hp} {v : V} : ∀ {n : Nm}, NumAt C H v n → ∃ t, KnF K C H v t (isF n) ∧ isI v = !isF n ∧ isB v = false
  | .i n, h => by
    have h : v = .int n := h
    subst h
    exact ⟨_, kf_int T, rfl, rfl⟩
  | .f s t p, ⟨a, e, h, _⟩ => by
    subst e
    exact ⟨_, kf_fl T h, rfl, rfl⟩
/-! is_number -/
abbrev s_isnumber : Stmt := top 19
theorem sc_isnumber : FnScope ["thing"] ["thing"] (defScope s_isnumber) := ⟨rfl, rfl, rfl, by decide +kernel, rfl, by decide +kernel, by decide +kernel⟩
def sp_isnumber (K : PySem.W.Frag) (C : Addr) : Sp := fun vs H Q _ => ∃ x t b, vs = [x] ∧ KnF K C H x t b ∧ Q (.bl (b || isI x)) H
theorem ok_isnumber {f : Addr} {fd : FuncData} (F : FunD K "is_number" "is_number" (defArgs s_isnumber) (defBody s_isnumber) (defScope s_isnumber) [] [] f fd) (B : Blt mg) (T : FlC K mg C) (c_isplain : Fn P w K mg base CX0 1 "is_plain" ["number"] [] (sp_isplain K)) : FnOk P w K mg base CX0 2 f fd ["thing"] (sp_isnumber K C) := by
  have g_Float : mg "Float" = some (.ref C) := T.mg
  refine F.ok sc_isnumber (fun vs H Q E h => ?_) (fun cdv A outer s H vs Q E hr h => ?_)
  · obtain ⟨x, t, b, rfl, _⟩ := h; rfl
  · obtain ⟨x, t, b, rfl, hk, q⟩ := h
    refine ⟨_, PSs.nox (pss_one (ps_ret (pe_or (pe_callB call_isi (by rfl) B.isinstance (by decide +kernel) (pa_cons (pv 0) (pa_cons (pe_gref g_Float) pa_nil))) (pe_one (pe_fn c_isplain (hr.mono (by decide)) pass0 (pa_cons (pv 0) pa_nil)))))), ?_⟩
    walk_at "go"
    refine g_isiF hk ?_
    walk_at "go"
    cases b
    · refine iteF ?_
      walk_at "go"
      exact ⟨x, t, rfl, hk.kn, q⟩
    · refine iteT ?_
      exact q
/-! to_float -/
abbrev s_tofloat : Stmt := top 20
theorem sc_tofloat : FnScope ["number"] ["number"] (defScope s_tofloat) := ⟨rfl, rfl, rfl, by decide +kernel, rfl, by decide +kernel, by decide +kernel⟩
def bigOk (k : Int) : Prop := k.natAbs < 2 ^ 5000
/-- the float of an int: sign, top, power -/
def tfS (k : Int) : Int := if k < 0 then -1 else 1
def tfR (k : Int) : V × Int := redV (nearV k.natAbs 1).1 (nearV k.natAbs 1).2
def sp_tofloat (C : Addr) : Sp := fun vs H Q _ => ∃ v n, vs = [v] ∧ NumAt C H v n ∧ match n with
  | .f _ _ _ => Q v H
  | .i k => bigOk k ∧ RetF C H (tfS k) (tfR k).1 (tfR k).2 Q
theorem ok_tofloat {f : Addr} {fd : FuncData} (F : FunD K "to_float" "to_float" (defArgs s_tofloat) (defBody s_tofloat) (defScope s_tofloat) [] [] f fd) (B : Blt mg) (T : FlC K mg C) (c_nearest : Fn P w K mg base CX0 5 "nearest" ["sign", "top", "bottom"] [] (sp_nearest C)) (c_signof : Fn P w K mg base CX0 1 "sign_of" ["is_negative"] [] sp_signof) :
    FnOk P w K mg base CX0 6 f fd ["number"] (sp_tofloat C) := by
  have g_Float : mg "Float" = some (.ref C) := T.mg
  refine F.ok sc_tofloat (fun vs H Q E h => ?_) (fun cdv A outer s H vs Q E hr h => ?_)
  · obtain ⟨x, n, rfl, _⟩ := h; rfl
  · obtain ⟨x, n, rfl, hn, q⟩ := h
    refine ⟨_, PSs.nox (pss_cons (ps_if (pt_val (pe_callB call_isi (by rfl) B.isinstance (by decide +kernel) (pa_cons (pv 0) (pa_cons (pe_gref g_Float) pa_nil)))) (pss_one (ps_ret (pv 0))) pss_nil)
  (pss_one (ps_ret (pe_fn c_nearest (hr.mono (by decide)) pass0 (pa_cons (pe_fn c_signof (hr.mono (by decide)) pass0 (pa_cons (pe_cmpR op_oLt (pv 0) pe_int (nomark _)) pa_nil)) (pa_cons (pe_callB call_abs (by rfl) B.abs (by decide +kernel) (pa_cons (pv 0) pa_nil)) (pa_cons pe_int pa_nil))))))), ?_⟩
    obtain ⟨t, hk, _, _⟩ := hn.kf T
    walk_at "go"
    refine g_isiF hk ?_
    walk_at "go"
    cases n with
    | f sg tp p =>
      refine iteT ?_
      walk_at "go"
      exact q
    | i k =>
      have hn : x = .int k := hn
      subst hn
      obtain ⟨hb, q⟩ := q
      refine iteF ?_
      walk_at "go"
      refine ⟨_, rfl, ?_⟩
      walk_at "go"
      have e1 : sgnB (decide (k < 0)) = tfS k := by unfold sgnB tfS; by_cases h : k < 0 <;> simp [h]
      have e2 : (if k < 0 then -k else k) = (k.natAbs : Int) := by split <;> omega
      rw [e1, e2]
      refine ⟨tfS k, k.natAbs, 1, rfl, by unfold tfS; split <;> simp, by decide, Nat.le_trans (bits_le hb) (by decide), by decide, q⟩
/-! place_of -/
abbrev s_placeof0 : Stmt := top 23
theorem sc_placeof0 : FnScope ["number"] ["number"] (defScope s_placeof0) := ⟨rfl, rfl, rfl, by decide +kernel, rfl, by decide +kernel, by decide +kernel⟩
def plc : Nm → Option (Int × Int)
  | .i k => some (k, 1)
  | .f s (.int m) p => some (ratN s m p, ratD p)
  | .f s (.str x) _ => if x = "nan" then none else some (s * 2 ^ 1025, 1)
  | .f _ _ _ => none
def RetO (H : Hp) (o : Option (Int × Int)) (Q : VK) : Prop := match o with
  | none => ∀ H', Same H H' → Q .non H'
  | some (x, y) => RetT H [.int x, .int y] Q
def sp_placeof (C : Addr) : Sp := fun vs H Q _ => ∃ v n, vs = [v] ∧ NumAt C H v n ∧ RetO H (plc n) Q
theorem ok_placeof {f : Addr} {fd : FuncData} (F : FunD K "place_of" "place_of" (defArgs s_placeof0) (defBody s_placeof0) (defScope s_placeof0) [] [] f fd) (B : Blt mg) (T : FlC K mg C) (i_TOO_GREAT : ∃ t, mg "TOO_GREAT" = some (.int 1024 t)) (c_isfinite : Mt P w K mg base CX0 1 C "is_finite" ["self"] (sp_isfinite C)) (c_ratio : Mt P w K mg base CX0 1 C "ratio" ["self"] (sp_ratio C)) :
    FnOk P w K mg base CX0 2 f fd ["number"] (sp_placeof C) := by
  have g_Float : mg "Float" = some (.ref C) := T.mg
  refine F.ok sc_placeof0 (fun vs H Q E h => ?_) (fun cdv A outer s H vs Q E hr h => ?_)
  · obtain ⟨x, n, rfl, _⟩ := h; rfl
  · obtain ⟨x, n, rfl, hn, q⟩ := h
    refine ⟨_, PSs.nox (pss_cons (ps_if (pt_not (pt_val (pe_callB call_isi (by rfl) B.isinstance (by decide +kernel) (pa_cons (pv 0) (pa_cons (pe_gref g_Float) pa_nil))))) (pss_one (ps_ret (pe_tupN (pa_cons (pv 0) (pa_cons pe_int pa_nil))))) pss_nil)
  (pss_cons (ps_if (pt_val (pe_mt0 c_isfinite (hr.mono (by decide)) pass0 (pv 0))) (pss_one (ps_ret (pe_mt0 c_ratio (hr.mono (by decide)) pass0 (pv 0)))) pss_nil)
  (pss_one (ps_ret (pe_ifExp (pt_cmpR (op_oEq hr.units) (pe_fld (pv 0) rfl) pe_str (nomark _)) pe_non (pe_tupN (pa_cons (pe_op op_oShl (pe_fld (pv 0) rfl) (pe_op op_oAdd (pe_gint i_TOO_GREAT) pe_int)) (pa_cons pe_int pa_nil)))))))), ?_⟩
    obtain ⟨t, hk, _, _⟩ := hn.kf T
    walk_at "go"
    refine g_isiF hk ?_
    walk_at "go"
    cases n with
    | i k =>
      have hn : x = .int k := hn
      subst hn
      refine iteT ?_
      walk_at "go"
      exact g_new (sz rfl) fun a H1 na s1 ha _ => q _ _ na s1 ha
    | f sg tp p =>
      obtain ⟨a, rfl, hf, ho⟩ := hn
      refine iteF ?_
      walk_at "go"
      obtain ⟨dx, hd⟩ := id hf
      refine ⟨a, dx, _, rfl, hd, rfl, ?_⟩
      walk_at "go"
      refine ⟨a, sg, tp, p, rfl, hf, ho, ?_⟩
      walk_at "go"
      rcases id ho.2 with ⟨rfl, _, _⟩ | ⟨rfl, _⟩ | ⟨m, rfl, hfin⟩
      · refine iteF ?_
        walk_at "go"
        refine ⟨a, C, dx, _, _, rfl, hd, T.own.cl, T.nT, fl_top _ _ _, ?_⟩
        walk_at "go"
        refine g_yes rfl ?_
        walk_at "go"
        exact q H (Same.refl _)
      · refine iteF ?_
        walk_at "go"
        refine ⟨a, C, dx, _, _, rfl, hd, T.own.cl, T.nT, fl_top _ _ _, ?_⟩
        walk_at "go"
        refine g_no (by decide +kernel) ?_
        walk_at "go"
        refine ⟨a, C, dx, _, _, rfl, hd, T.own.cl, T.nS, fl_sign _ _ _, ?_⟩
        walk_at "go"
        refine g_II (shl_small (by decide) (by decide) (by rcases ho.1 with rfl | rfl <;> exact lt_pow_mono (a := 1) (by decide) (by decide))) ?_
        walk_at "go"
        have e : plc (.f sg (.str "inf") p) = some (sg * 2 ^ 1025, 1) := by
          show (if ("inf" : Str) = "nan" then none else some (sg * 2 ^ 1025, (1 : Int))) = _
          rw [if_neg (by decide +kernel)]
        rw [e] at q
        exact g_new (sz rfl) fun b H1 nb s1 hb _ => q _ _ nb s1 hb
      · refine iteT ?_
        walk_at "go"
        refine ⟨a, dx, _, rfl, hd, rfl, ?_⟩
        walk_at "go"
        exact ⟨a, sg, m, p, rfl, hf, ho, q⟩
/-! order_of -/
abbrev s_orderof : Stmt := top 22
theorem sc_orderof : FnScope ["one", "other", "first", "second", "gap"] ["one", "other"] (defScope s_orderof) := ⟨rfl, rfl, rfl, by decide +kernel, rfl, by decide +kernel, by decide +kernel⟩
def gapO : Option (Int × Int) → Option (Int × Int) → Option Int
  | some (a, b), some (c, d) => some (a * d - c * b)
  | _, _ => none
def ordN (n m : Nm) : Option Int := (gapO (plc n) (plc m)).map fun g => b2i (decide (0 < g)) - b2i (decide (g < 0))
def oV : Option Int → V
  | none => .non
  | some i => .int i
def nOk : Nm → Prop
  | .i k => bigOk k
  | .f s t p => FlOk s t p
theorem mul_small {i j : Int} (hi : i.natAbs < 2 ^ 100000) (hj : j.natAbs < 2 ^ 100000) : IntMulOk i j := (mulx_ok hi hj (by decide)).ok
theorem natAbs_mul_lt {x y : Int} {a b : Nat} (hx : x.natAbs < 2 ^ a) (hy : y.natAbs < 2 ^ b) : (x * y).natAbs < 2 ^ (a + b) := by
  rw [Int.natAbs_mul, Nat.pow_add]
  exact Nat.mul_lt_mul'' hx hy
theorem sgn_abs {s : Int} (hs : s = 1 ∨ s = -1) (x : Int) : (s * x).natAbs = x.natAbs := by
  rw [Int.natAbs_mul]; rcases hs with rfl | rfl <;> simp
theorem plc_small {n : Nm} (h : nOk n) : ∀ x y, plc n = some (x, y) → x.natAbs < 2 ^ 5000 ∧ y.natAbs < 2 ^ 5000 ∧ 0 < y := by
  intro x y e
  cases n with
  | i k =>
    have e : some (k, (1 : Int)) = some (x, y) := e
    injection e with e
    injection e with e1 e2
    subst e1 e2
    exact ⟨h, lt_pow_mono (a := 1) (by decide) (by decide), by decide⟩
  | f s t p =>
    obtain ⟨hs, h2⟩ := id h
    rcases h2 with ⟨rfl, _, _⟩ | ⟨rfl, _⟩ | ⟨m, rfl, hf⟩
    · have e : (if ("nan" : Str) = "nan" then none else some (s * 2 ^ 1025, (1 : Int))) = some (x, y) := e
      rw [if_pos rfl] at e
      cases e
    · have e : (if ("inf" : Str) = "nan" then none else some (s * 2 ^ 1025, (1 : Int))) = some (x, y) := e
      rw [if_neg (by decide +kernel)] at e
      injection e with e
      injection e with e1 e2
      subst e1 e2
      refine ⟨?_, lt_pow_mono (a := 1) (by decide) (by decide), by decide⟩
      rw [sgn_abs hs, Int.natAbs_pow]
      exact Nat.pow_lt_pow_right (by decide) (by decide)
    · have e : some (ratN s m p, ratD p) = some (x, y) := e
      injection e with e
      injection e with e1 e2
      subst e1 e2
      have hhi := hf.hi
      obtain ⟨f1, f2, f3, f4, f5⟩ := hf
      have hm : m.natAbs < 2 ^ 53 := by omega
      unfold ratN ratD
      by_cases hp : p < 0
      · rw [if_pos hp, if_pos hp, sgn_abs hs]
        refine ⟨lt_pow_mono hm (by decide), ?_, Int.pow_pos (by decide)⟩
        rw [Int.natAbs_pow]
        exact Nat.pow_lt_pow_right (by decide) (by omega)
      · rw [if_neg hp, if_neg hp, sgn_abs hs]
        refine ⟨?_, lt_pow_mono (a := 1) (by decide) (by decide), by decide⟩
        rw [Int.natAbs_mul, Int.natAbs_pow]
        have h1 : m.natAbs * Int.natAbs 2 ^ p.toNat < 2 ^ 53 * 2 ^ p.toNat := Nat.mul_lt_mul_of_pos_right hm (Nat.two_pow_pos _)
        rw [← Nat.pow_add] at h1
        exact lt_pow_mono h1 (by omega)
def sp_orderof (C : Addr) : Sp := fun vs H Q _ => ∃ v u n m, vs = [v, u] ∧ NumAt C H v n ∧ NumAt C H u m ∧ nOk n ∧ nOk m ∧ ∀ H', Same H H' → Q (oV (ordN n m)) H'
theorem ok_orderof {f : Addr} {fd : FuncData} (F : FunD K "order_of" "order_of" (defArgs s_orderof) (defBody s_orderof) (defScope s_orderof) [] [] f fd) (B : Blt mg) (c_placeofnumbers : Fn P w K mg base CX0 2 "place_of_numbers" ["number"] [] (sp_placeof C)) : FnOk P w K mg base CX0 3 f fd ["one", "other"] (sp_orderof C) := by
  refine F.ok sc_orderof (fun vs H Q E h => ?_) (fun cdv A outer s H vs Q E hr h => ?_)
  · obtain ⟨_, _, _, _, rfl, _⟩ := h; rfl
  · obtain ⟨v, u, n, m, rfl, hn, hm, on, om, q⟩ := h
    refine ⟨_, PSs.nox (pss_cons (ps_par (i := 2) (j := 3) rfl sc_orderof.nd rfl rfl (by decide) rfl rfl (pa_cons (pe_fn c_placeofnumbers (hr.mono (by decide)) pass0 (pa_cons (pv 0) pa_nil)) (pa_cons (pe_fn c_placeofnumbers (hr.mono (by decide)) pass0 (pa_cons (pv 1) pa_nil)) pa_nil)) (by rfl))
  (pss_cons (ps_if (PW.pt (pw_or (pt_cmpR op_isN (pv 2) pe_non (nomark _)) (pw_or1 (pt_cmpR op_isN (pv 3) pe_non (nomark _))))) (pss_one (ps_ret pe_non)) pss_nil)
  (pss_cons (ps_set (i := 4) sc_orderof.nd rfl (Or.inl rfl) (pe_op op_oSub (pe_op op_oMul (pe_ix ix_seq (pv 2) pe_int (fun _ _ => rfl)) (pe_ix ix_seq (pv 3) pe_int (fun _ _ => rfl))) (pe_op op_oMul (pe_ix ix_seq (pv 3) pe_int (fun _ _ => rfl)) (pe_ix ix_seq (pv 2) pe_int (fun _ _ => rfl)))))
  (pss_one (ps_ret (pe_op op_oSub (pe_cmpR op_oGt (pv 4) pe_int (nomark _)) (pe_cmpR op_oLt (pv 4) pe_int (nomark _)))))))), ?_⟩
    walk_at "go"
    refine ⟨v, n, rfl, hn, ?_⟩
    unfold ordN at q
    have sn := plc_small on
    have sm := plc_small om
    cases en : plc n with
    | none =>
      rw [en] at q
      intro H1 s1
      walk_at "go"
      refine ⟨u, m, rfl, hm.same s1, ?_⟩
      cases em : plc m with
      | none =>
        intro H2 s2
        walk_at "go"
        refine g_yes rfl ?_
        walk_at "go"
        exact q _ (s1.trans s2)
      | some xy =>
        intro H2 a2 na2 s2 ha2
        walk_at "go"
        refine g_yes rfl ?_
        walk_at "go"
        exact q _ (s1.trans s2)
    | some xy =>
      rw [en] at q
      intro H1 a1 na1 s1 ha1
      walk_at "go"
      refine ⟨u, m, rfl, hm.same s1, ?_⟩
      cases em : plc m with
      | none =>
        rw [em] at q
        intro H2 s2
        walk_at "go"
        refine g_no (fun z => nomatch z) ?_
        walk_at "go"
        refine g_yes rfl ?_
        walk_at "go"
        exact q _ (s1.trans s2)
      | some zw =>
        rw [em] at q
        intro H2 a2 na2 s2 ha2
        obtain ⟨p1, p2, p3⟩ := sn _ _ en
        obtain ⟨r1, r2, r3⟩ := sm _ _ em
        have hb := s2 _ _ ha1
        walk_at "go"
        refine g_no (fun z => nomatch z) ?_
        walk_at "go"
        refine g_no (fun z => nomatch z) ?_
        walk_at "go"
        refine g_ixT hb rfl ?_
        walk_at "go"
        refine g_ixT ha2 rfl ?_
        refine g_mulI (mul_small (lt_pow_mono p1 (by decide)) (lt_pow_mono r2 (by decide))) ?_
        walk_at "go"
        refine g_ixT ha2 rfl ?_
        walk_at "go"
        refine g_ixT hb rfl ?_
        refine g_mulI (mul_small (lt_pow_mono r1 (by decide)) (lt_pow_mono p2 (by decide))) ?_
        walk_at "go"
        exact q _ (s1.trans s2)
/-! compare -/
abbrev s_compare : Stmt := top 25
theorem sc_compare : FnScope ["word", "one", "other", "order"] ["word", "one", "other"] (defScope s_compare) := ⟨rfl, rfl, rfl, by decide +kernel, rfl, by decide +kernel, by decide +kernel⟩
def cmpN (x : Str) (n m : Nm) : Bool := match ordN n m with
  | none => false
  | some o => if x = "lt" then decide (o < 0) else decide (o ≤ 0)
def sp_compare (C : Addr) : Sp := fun vs H Q _ => ∃ x v u n m, vs = [.str x, v, u] ∧ NumAt C H v n ∧ NumAt C H u m ∧ nOk n ∧ nOk m ∧ ∀ H', Same H H' → Q (.bl (cmpN x n m)) H'
theorem ok_compare {f : Addr} {fd : FuncData} (F : FunD K "compare" "compare" (defArgs s_compare) (defBody s_compare) (defScope s_compare) [] [] f fd) (B : Blt mg) (c_orderof : Fn P w K mg base CX0 3 "order_of" ["one", "other"] [] (sp_orderof C)) : FnOk P w K mg base CX0 4 f fd ["word", "one", "other"] (sp_compare C) := by
  refine F.ok sc_compare (fun vs H Q E h => ?_) (fun cdv A outer s H vs Q E hr h => ?_)
  · obtain ⟨_, _, _, _, _, rfl, _⟩ := h; rfl
  · obtain ⟨x, v, u, n, m, rfl, hn, hm, on, om, q⟩ := h
    refine ⟨_, PSs.nox (pss_cons (ps_set (i := 3) sc_compare.nd rfl (Or.inl rfl) (pe_fn c_orderof (hr.mono (by decide)) pass0 (pa_cons (pv 1) (pa_cons (pv 2) pa_nil))))
  (pss_cons (ps_if (pt_cmpR op_isN (pv 3) pe_non (nomark _)) (pss_one (ps_ret pe_bl)) pss_nil)
  (pss_one (ps_ret (pe_ifExp (pt_cmpR (op_oEq hr.units) (pv 0) pe_str (nomark _)) (pe_cmpR op_oLt (pv 3) pe_int (nomark _)) (pe_cmpR op_oLe (pv 3) pe_int (nomark _))))))), ?_⟩
    walk_at "go"
    refine ⟨v, u, n, m, rfl, hn, hm, on, om, fun H1 s1 => ?_⟩
    walk_at "go"
    unfold cmpN at q
    cases eo : ordN n m with
    | none =>
      rw [eo] at q
      refine g_yes rfl ?_
      walk_at "go"
      exact q _ s1
    | some o =>
      rw [eo] at q
      refine g_no (fun z => nomatch z) ?_
      walk_at "go"
      refine g_ite (fun hx => ?_) fun hx => ?_
      · walk_at "go"
        have q' := q _ s1
        simp only [hx, if_true] at q'
        exact q'
      · walk_at "go"
        have q' := q _ s1
        simp only [hx, if_false] at q'
        exact q'
/-! same -/
abbrev s_same : Stmt := top 26
theorem sc_same : FnScope ["one", "other"] ["one", "other"] (defScope s_same) := ⟨rfl, rfl, rfl, by decide +kernel, rfl, by decide +kernel, by decide +kernel⟩
/-- the values that same is asked of: a number, or another one of a known kind -/
inductive Any where
  | num (n : Nm)
  | non
  | bl (b : Bool)
  | str (x : Str)
  | obj (a : Addr)
def AnyAt (C D : Addr) (H : Hp) (v : V) : Any → Prop
  | .num n => NumAt C H v n ∧ nOk n
  | .non => v = .non
  | .bl b => v = .bl b
  | .str x => v = .str x
  | .obj a => v = .ref a ∧ ∃ dx fs, H a = some (.ins D dx fs)
theorem AnyAt.same {D : Addr} {H H' : Hp} {v : V} (s : Same H H') : ∀ {x : Any}, AnyAt C D H v x → AnyAt C D H' v x
  | .num _, ⟨h, o⟩ => ⟨h.same s, o⟩
  | .non, h => h
  | .bl _, h => h
  | .str _, h => h
  | .obj _, ⟨e, dx, fs, h⟩ => ⟨e, dx, fs, s _ _ h⟩
def sameA : Any → Any → Bool
  | .num n, .num m => decide (ordN n m = some 0)
  | .non, .non => true
  | .bl a, .bl b => decide (a = b)
  | .str a, .str b => decide (a = b)
  | .obj a, .obj b => decide (a = b)
  | _, _ => false
/-- the other class (tables), at D: no Float -/
structure ObC (K : PySem.W.Frag) (C D : Addr) : Prop where
  own : OwnC K D
  nf : PySem.W.kitOne K (.ref D) (.ref C) = some false
def isNumA : Any → Bool
  | .num _ => true
  | _ => false
theorem AnyAt.kf {D : Addr} (T : FlC K mg C) (O : ObC K C D) {H : Hp} {v : V} : ∀ {x : Any}, AnyAt C D H v x → ∃ t b, KnF K C H v t b ∧ (b || isI v) = isNumA x
  | .num n, ⟨h, _⟩ => by
    obtain ⟨t, hk, hi, _⟩ := h.kf T
    exact ⟨t, _, hk, by rw [hi]; cases n <;> rfl⟩
  | .non, h => by
    have h : v = .non := h
    subst h
    exact ⟨_, _, kf_non T, rfl⟩
  | .bl _, h => by
    have h : v = .bl _ := h
    subst h
    exact ⟨_, _, kf_bl T, rfl⟩
  | .str _, h => by
    have h : v = .str _ := h
    subst h
    exact ⟨_, _, kf_str T, rfl⟩
  | .obj _, ⟨e, dx, fs, h⟩ => by
    subst e
    exact ⟨_, _, ⟨kn_ins O.own h, O.nf⟩, rfl⟩
theorem same_no {D : Addr} {H : Hp} {v u : V} : ∀ {x y : Any}, AnyAt C D H v x → AnyAt C D H u y → isNumA x = false → isNumA y = false → (isB v ≠ isB u ∨ isS v ≠ isS u) → sameA x y = false := by
  intro x y hx hy nx ny h
  cases x with
  | num _ => cases nx
  | non => cases y <;> first | rfl | exact Bool.noConfusion ny | (cases (show v = _ from hx); cases (show u = _ from hy); rcases h with h | h <;> exact absurd rfl h)
  | bl _ => cases y <;> first | rfl | exact Bool.noConfusion ny | (cases (show v = _ from hx); cases (show u = _ from hy); rcases h with h | h <;> exact absurd rfl h)
  | str _ => cases y <;> first | rfl | exact Bool.noConfusion ny | (cases (show v = _ from hx); cases (show u = _ from hy); rcases h with h | h <;> exact absurd rfl h)
  | obj _ => cases y <;> first | rfl | exact Bool.noConfusion ny | (cases hx.1; cases hy.1; rcases h with h | h <;> exact absurd rfl h)
theorem same_eq {D : Addr} {H : Hp} {Q : VK} {v u : V} {x y : Any} (hx : AnyAt C D H v x) (hy : AnyAt C D H u y) (nx : isNumA x = false) (ny : isNumA y = false) (hb : isB v = isB u) (hs : isS v = isS u) (q : Q (.bl (sameA x y)) H) : oEqI K D v u H Q := by
  cases x with
  | num _ => cases nx
  | non =>
    cases (show v = _ from hx)
    cases y with
    | num _ => cases ny
    | non => cases (show u = _ from hy); exact .inr ⟨.inl rfl, .inl rfl, q⟩
    | bl _ => cases (show u = _ from hy); cases hb
    | str _ => cases (show u = _ from hy); cases hs
    | obj _ => obtain ⟨rfl, dx, fs, h⟩ := hy; exact .inr ⟨.inl rfl, .inr ⟨_, dx, fs, rfl, h⟩, q⟩
  | bl _ =>
    cases (show v = _ from hx)
    cases y with
    | num _ => cases ny
    | non => cases (show u = _ from hy); cases hb
    | bl _ => cases (show u = _ from hy); exact .inl (g_eqB q)
    | str _ => cases (show u = _ from hy); cases hs
    | obj _ => obtain ⟨rfl, dx, fs, h⟩ := hy; cases hb
  | str _ =>
    cases (show v = _ from hx)
    cases y with
    | num _ => cases ny
    | non => cases (show u = _ from hy); cases hs
    | bl _ => cases (show u = _ from hy); cases hb
    | str _ => cases (show u = _ from hy); exact .inl (g_eqS q)
    | obj _ => obtain ⟨rfl, dx, fs, h⟩ := hy; cases hs
  | obj a =>
    obtain ⟨rfl, dx, fs, h⟩ := hx
    cases y with
    | num _ => cases ny
    | non => cases (show u = _ from hy); exact .inr ⟨.inr ⟨_, dx, fs, rfl, h⟩, .inl rfl, q⟩
    | bl _ => cases (show u = _ from hy); cases hb
    | str _ => cases (show u = _ from hy); cases hs
    | obj b =>
      obtain ⟨rfl, dy, gs, h2⟩ := hy
      refine .inr ⟨.inr ⟨_, dx, fs, rfl, h⟩, .inr ⟨_, dy, gs, rfl, h2⟩, ?_⟩
      have e : decide (V.ref a = V.ref b) = decide (a = b) := by simp
      rw [e]; exact q
theorem same_mix {x y : Any} (h : isNumA x ≠ isNumA y) : sameA x y = false := by
  cases x <;> cases y <;> first | rfl | exact absurd rfl h
def sp_same (C D : Addr) : Sp := fun vs H Q _ => ∃ v u x y, vs = [v, u] ∧ AnyAt C D H v x ∧ AnyAt C D H u y ∧ ∀ H', Same H H' → Q (.bl (sameA x y)) H'
theorem ok_same {f D : Addr} {fd : FuncData} (F : FunD K "same" "same" (defArgs s_same) (defBody s_same) (defScope s_same) [] [] f fd) (B : Blt mg) (T : FlC K mg C) (O : ObC K C D) (TI : IdC K D) (c_isnumber : Fn P w K mg base CX0 2 "is_number" ["thing"] [] (sp_isnumber K C)) (c_orderof : Fn P w K mg base CX0 3 "order_of" ["one", "other"] [] (sp_orderof C)) :
    FnOk P w K mg base CX0 4 f fd ["one", "other"] (sp_same C D) := by
  refine F.ok sc_same (fun vs H Q E h => ?_) (fun cdv A outer s H vs Q E hr h => ?_)
  · obtain ⟨_, _, _, _, rfl, _⟩ := h; rfl
  · obtain ⟨v, u, x, y, rfl, hx, hy, q⟩ := h
    refine ⟨_, PSs.nox (pss_cons (ps_if (PW.pt (pw_and (pt_val (pe_fn c_isnumber (hr.mono (by decide)) pass0 (pa_cons (pv 0) pa_nil))) (pw_and1 (pt_val (pe_fn c_isnumber (hr.mono (by decide)) pass0 (pa_cons (pv 1) pa_nil)))))) (pss_one (ps_ret (pe_cmpR (op_oEq hr.units) (pe_fn c_orderof (hr.mono (by decide)) pass0 (pa_cons (pv 0) (pa_cons (pv 1) pa_nil))) pe_int (nomark _)))) pss_nil)
  (pss_cons (ps_if (PW.pt (pw_or (pt_val (pe_fn c_isnumber (hr.mono (by decide)) pass0 (pa_cons (pv 0) pa_nil))) (pw_or1 (pt_val (pe_fn c_isnumber (hr.mono (by decide)) pass0 (pa_cons (pv 1) pa_nil)))))) (pss_one (ps_ret pe_bl)) pss_nil)
  (pss_cons (ps_if (PW.pt (pw_or (pt_cmpR (op_oNe hr.units) (pe_callB call_isi (by rfl) B.isinstance (by decide +kernel) (pa_cons (pv 0) (pa_cons (pe_tyBool B) pa_nil))) (pe_callB call_isi (by rfl) B.isinstance (by decide +kernel) (pa_cons (pv 1) (pa_cons (pe_tyBool B) pa_nil))) (nomark _)) (pw_or1 (pt_cmpR (op_oNe hr.units) (pe_callB call_isi (by rfl) B.isinstance (by decide +kernel) (pa_cons (pv 0) (pa_cons (pe_tyStr B) pa_nil))) (pe_callB call_isi (by rfl) B.isinstance (by decide +kernel) (pa_cons (pv 1) (pa_cons (pe_tyStr B) pa_nil))) (nomark _))))) (pss_one (ps_ret pe_bl)) pss_nil)
  (pss_one (ps_ret (pe_cmpR (op_oEqI TI hr.units) (pv 0) (pv 1) (nomark _))))))), ?_⟩
    obtain ⟨tx, bx, kx, ex⟩ := hx.kf T O
    obtain ⟨ty, bY, ky, ey⟩ := hy.kf T O
    have q0 := q H (Same.refl _)
    walk_at "go"
    refine ⟨v, tx, bx, rfl, kx, ?_⟩
    rw [ex]
    walk_at "go"
    by_cases nx : isNumA x = true
    · rw [nx] at ex ⊢
      walk_at "go"
      refine ⟨u, ty, bY, rfl, ky, ?_⟩
      rw [ey]
      walk_at "go"
      by_cases ny : isNumA y = true
      · rw [ny]
        walk_at "go"
        cases x with
        | num n =>
          cases y with
          | num m =>
            refine ⟨v, u, n, m, rfl, hx.1, hy.1, hx.2, hy.2, fun H1 s1 => ?_⟩
            have q1 := q H1 s1
            walk_at "go"
            have e : sameA (.num n) (.num m) = decide (ordN n m = some 0) := rfl
            rw [e] at q1
            cases eo : ordN n m with
            | none =>
              rw [eo] at q1
              exact g_eqx rfl (fun z => nomatch z) q1
            | some o =>
              rw [eo] at q1
              refine g_eqI ?_
              have e2 : decide (some o = some (0 : Int)) = decide (o = 0) := by simp
              rw [e2] at q1
              exact q1
          | _ => cases ny
        | _ => cases nx
      · have ny : isNumA y = false := by simpa using ny
        rw [same_mix (by rw [nx, ny]; decide)] at q0
        rw [ny]
        walk_at "go"
        refine ⟨v, tx, bx, rfl, kx, ?_⟩
        rw [ex]
        walk_at "go"
        exact q0
    · have nx : isNumA x = false := by simpa using nx
      rw [nx] at ex ⊢
      walk_at "go"
      refine ⟨v, tx, bx, rfl, kx, ?_⟩
      rw [ex]
      walk_at "go"
      refine ⟨u, ty, bY, rfl, ky, ?_⟩
      rw [ey]
      walk_at "go"
      by_cases ny : isNumA y = true
      · rw [same_mix (by rw [nx, ny]; decide)] at q0
        rw [ny]
        walk_at "go"
        exact q0
      · have ny : isNumA y = false := by simpa using ny
        rw [ny]
        walk_at "go"
        refine g_isiBool kx.kn ?_
        walk_at "go"
        refine g_isiBool ky.kn ?_
        walk_at "go"
        refine g_iten (fun hb => ?_) fun hb => ?_
        · rw [same_no hx hy nx ny (.inl hb)] at q0
          walk_at "go"
          exact q0
        · walk_at "go"
          refine g_isiStr kx.kn ?_
          walk_at "go"
          refine g_isiStr ky.kn ?_
          walk_at "go"
          refine g_iten (fun hs => ?_) fun hs => ?_
          · rw [same_no hx hy nx ny (.inr hs)] at q0
            walk_at "go"
            exact q0
          · walk_at "go"
            exact same_eq hx hy nx ny hb hs q0
end
end Up

set_option Elab.async false
set_option linter.all false
set_option maxRecDepth 100000
set_option maxHeartbeats 4000000
set_option exponentiation.threshold 200000
namespace Up
open PySem PySem.Spec PyProof.Rows L2
local macro_rules | `(tactic| walk_at "u") => `(tactic| first
  | with_reducible refine g_seq ?_
  | with_reducible refine g_asg ?_
  | with_reducible refine g_op ?_
  | ((with_reducible show tVar _ _ _ _); apply g_var; exact rfl)
  | with_reducible refine g_c ?_
  | with_reducible refine g_name ?_
  | with_reducible refine g_ifs ?_
  | with_reducible refine g_tt ?_
  | with_reducible refine g_tB ?_
  | with_reducible refine g_bl ?_
  | with_reducible refine g_ret ?_
  | with_reducible refine g_cb ?_
  | with_reducible refine g_cons ?_
  | with_reducible refine g_nil ?_
  | with_reducible refine g_call ?_
  | with_reducible refine g_and ?_
  | with_reducible refine g_or ?_
  | with_reducible refine g_not ?_
  | with_reducible refine g_andV ?_
  | with_reducible refine g_orV ?_
  | with_reducible refine g_notV ?_
  | with_reducible refine g_if ?_
  | with_reducible refine g_un ?_
  | with_reducible refine g_neg ?_
  | with_reducible refine g_addI ?_
  | with_reducible refine g_subI ?_
  | with_reducible refine g_subB ?_
  | with_reducible refine g_I0 ?_
  | with_reducible refine g_cmpI ?_
  | with_reducible refine g_eqI ?_
  | with_reducible refine g_neI ?_
  | with_reducible refine g_eqS ?_
  | with_reducible refine g_neS ?_
  | with_reducible refine g_eqB ?_
  | with_reducible refine g_neB ?_
  | with_reducible refine g_bits ?_
  | with_reducible refine g_bitsI ?_
  | with_reducible refine g_fld ?_
  | with_reducible refine g_tup ?_
  | with_reducible refine g_lst ?_
  | with_reducible refine g_gtup ?_
  | with_reducible refine g_make ?_
  | with_reducible refine g_lc ?_
  | with_reducible refine g_yesT ?_
  | with_reducible refine g_intI ?_
  | with_reducible refine g_intB ?_
  | with_reducible refine g_max2 ?_
  | with_reducible refine g_abs1 ?_
  | with_reducible refine g_for ?_
  | with_reducible refine g_iList ?_
  | with_reducible refine g_iTup ?_
  | with_reducible refine g_iRng1 ?_
  | with_reducible refine g_iEnum ?_
  | with_reducible refine g_slice ?_
  | with_reducible refine g_po0 ?_
  | with_reducible refine g_po1 ?_
  | with_reducible refine g_gsub ?_
  | with_reducible refine g_par ?_
  | with_reducible refine g_par2 ?_
  | with_reducible refine g_rfl ?_
  | with_reducible refine g_meth ?_
  | with_reducible refine g_gcons ?_
  | with_reducible refine g_gnil ?_
  | with_reducible refine g_gfld ?_
  | with_reducible refine g_sfld ?_
  | with_reducible refine g_drop ?_
  | with_reducible refine g_next ?_
  | with_reducible refine iteT ?_
  | with_reducible refine iteF ?_)
local macro_rules | `(tactic| walk_at "go") => `(tactic| (repeat walk_at "u"))

section
variable {P : Program} {w : World} {K : PySem.W.Frag} {mg : Str → Option Value} {base : Heap} {C : Addr}
/-! _law_well -/
abbrev s_Lwell : Stmt := top 39
theorem sc_Lwell : FnScope ["_law_cell"] ["_law_cell"] (defScope s_Lwell) := ⟨rfl, rfl, rfl, by decide +kernel, rfl, by decide +kernel, by decide +kernel⟩
def sp_Lwell : Sp := fun vs H Q _ => ∃ n, vs = [.int n] ∧ ∀ a H', H a = none → Same H H' → Well H' a → Q (.ref a) H'
theorem fmod_lt {x m : Int} (h : 0 < m) : 0 ≤ x.fmod m ∧ x.fmod m < m := by
  rw [Int.fmod_eq_emod_of_nonneg _ (by omega)]
  exact ⟨Int.emod_nonneg _ (by omega), Int.emod_lt_of_pos _ h⟩
theorem fdiv_nn {x m : Int} (hx : 0 ≤ x) (h : 0 < m) : 0 ≤ x.fdiv m := by
  rw [Int.fdiv_eq_ediv_of_nonneg _ (by omega)]
  exact Int.ediv_nonneg hx (by omega)
theorem ok_Lwell {f : Addr} {fd : FuncData} (F : FunD K "_law_well" "_law_well" (defArgs s_Lwell) (defBody s_Lwell) (defScope s_Lwell) [] [] f fd) (B : Blt mg) : FnOk P w K mg base CX0 1 f fd ["_law_cell"] sp_Lwell := by
  refine F.ok sc_Lwell (fun vs H Q E h => ?_) (fun cdv A outer s H vs Q E hr h => ?_)
  · obtain ⟨n, rfl, _⟩ := h; rfl
  · obtain ⟨n, rfl, q⟩ := h
    refine ⟨_, PSs.nox (pss_one (ps_ret (pe_lstN (pa_cons (pe_op op_oMul (pv 0) (pe_callTy call_int1 (by rfl) B.int (by decide +kernel) (pa_cons (pe_cmpR op_oGe (pv 0) (pe_op op_oPow pe_int pe_int) (nomark _)) pa_nil))) (pa_cons (pe_op op_oMod (pe_callTy call_int1 (by rfl) B.int (by decide +kernel) (pa_cons (pv 0) pa_nil)) pe_int) (pa_cons pe_int pa_nil)))))), ?_⟩
    walk_at "go"
    refine g_II ⟨by decide, by decide, by decide⟩ ?_
    walk_at "go"
    refine g_mulI (.of_right (by by_cases h : ((10 : Int) ^ (18 : Int).toNat ≤ n) <;> simp only [h, decide_true, decide_false] <;> decide)) ?_
    walk_at "go"
    refine g_modI (by decide) ?_
    walk_at "go"
    refine g_new (sz rfl) fun a H1 na s1 ha _ => ?_
    refine q a H1 na s1 ⟨_, _, _, ha, ?_, (fmod_lt (by decide)).1, (fmod_lt (by decide)).2, by decide⟩
    by_cases h : ((10 : Int) ^ (18 : Int).toNat ≤ n)
    · simp only [h, decide_true, if_true]
      have : (0 : Int) ≤ 10 ^ (18 : Int).toNat := by decide
      omega
    · rw [if_neg (by simpa using h), Int.mul_zero]
      decide
/-! _law_draw -/
abbrev s_Ldraw : Stmt := top 40
theorem sc_Ldraw : FnScope ["_law_well_here", "_law_many", "_law_digit", "_law_number"] ["_law_well_here", "_law_many"] (defScope s_Ldraw) := ⟨rfl, rfl, rfl, by decide +kernel, rfl, by decide +kernel, by decide +kernel⟩
def sp_Ldraw : Sp := fun vs H Q _ => ∃ (a : Addr) (m : Int), vs = [.ref a, .int m] ∧ 0 < m ∧ m < 2 ^ 62 ∧ Well H a ∧ ∀ k H', 0 ≤ k → k < m → Stp a H H' → Well H' a → Q (.int k) H'
theorem small_div {m : Int} (h : 0 < m) (h2 : m < 2 ^ 62) : m.natAbs.log2 < 9000 := Nat.lt_trans (log2_lt (k := 62) (by omega) (by decide)) (by decide)
theorem sm31 {x : Int} (h0 : 0 ≤ x) (h1 : x < 2147483648) (y : Int) : IntMulOk x y := .of_left (intBits_le_64 (by omega) (by omega))
theorem sm31r {x : Int} (h0 : 0 ≤ x) (h1 : x < 2147483648) (y : Int) : IntMulOk y x := .of_right (intBits_le_64 (by omega) (by omega))
theorem ok_Ldraw {f : Addr} {fd : FuncData} (F : FunD K "_law_draw" "_law_draw" (defArgs s_Ldraw) (defBody s_Ldraw) (defScope s_Ldraw) [] [] f fd) (B : Blt mg) : FnOk P w K mg base CX0 1 f fd ["_law_well_here", "_law_many"] sp_Ldraw := by
  refine F.ok sc_Ldraw (fun vs H Q E h => ?_) (fun cdv A outer s H vs Q E hr h => ?_)
  · obtain ⟨a, m, rfl, _⟩ := h; rfl
  · obtain ⟨a, m, rfl, m0, m1, ⟨x, y, z, hw, x0, y0, y1, z0⟩, q⟩ := h
    refine ⟨_, PSs.nox (pss_cons (ps_if (pt_cmpR op_oGt (pe_ix ix_seq (pv 0) pe_int (fun _ _ => rfl)) pe_int (nomark _)) (pss_cons (ps_set (i := 2) sc_Ldraw.nd rfl (Or.inl rfl) (pe_op op_oMod (pe_callTy call_int1 (by rfl) B.int (by decide +kernel) (pa_cons (pe_ix ix_seq (pv 0) pe_int (fun _ _ => rfl)) pa_nil)) (pv 1)))
  (pss_cons (ps_asg (pe_op op_oDiv (pe_ix ix_seq (pv 0) pe_int (fun _ _ => rfl)) (pv 1)) (pg_sub (pv 0) pe_int set_list))
  (pss_one (ps_ret (pv 2))))) pss_nil)
  (pss_cons (ps_asg (pe_op op_oAdd (pe_ix ix_seq (pv 0) pe_int (fun _ _ => rfl)) pe_int) (pg_sub (pv 0) pe_int set_list))
  (pss_cons (ps_set (i := 3) sc_Ldraw.nd rfl (Or.inl rfl) (pe_op op_oMod (pe_callTy call_int1 (by rfl) B.int (by decide +kernel) (pa_cons (pe_op op_oAdd (pe_op op_oAdd (pe_op op_oMul (pe_ix ix_seq (pv 0) pe_int (fun _ _ => rfl)) pe_int) (pe_op op_oMul pe_int (pe_ix ix_seq (pv 0) pe_int (fun _ _ => rfl)))) pe_int) pa_nil)) pe_int))
  (pss_cons (ps_set (i := 3) sc_Ldraw.nd rfl (Or.inl rfl) (pe_op op_oMod (pe_callTy call_int1 (by rfl) B.int (by decide +kernel) (pa_cons (pe_op op_oMul (pv 3) (pe_op op_oAdd (pe_op op_oDiv (pv 3) pe_int) pe_int)) pa_nil)) pe_int))
  (pss_cons (ps_set (i := 3) sc_Ldraw.nd rfl (Or.inl rfl) (pe_op op_oMod (pe_callTy call_int1 (by rfl) B.int (by decide +kernel) (pa_cons (pe_op op_oMul (pv 3) (pe_op op_oAdd (pe_op op_oAdd (pe_op op_oDiv (pv 3) pe_int) pe_int) (pe_ix ix_seq (pv 0) pe_int (fun _ _ => rfl)))) pa_nil)) pe_int))
  (pss_one (ps_ret (pe_op op_oMod (pe_callTy call_int1 (by rfl) B.int (by decide +kernel) (pa_cons (pe_op op_oDiv (pv 3) pe_int) pa_nil)) (pv 1))))))))), ?_⟩
    walk_at "go"
    refine g_ixL hw rfl ?_
    walk_at "go"
    refine g_ite (fun hx => ?_) fun hx => ?_
    · walk_at "go"
      refine g_ixL hw rfl ?_
      walk_at "go"
      refine g_modI (by omega) ?_
      walk_at "go"
      refine g_ixL hw rfl ?_
      walk_at "go"
      refine g_divI (by omega) (small_div m0 m1) ?_
      walk_at "go"
      refine g_setL hw rfl fun H1 h1 k1 => ?_
      walk_at "go"
      exact q _ H1 (fmod_lt m0).1 (fmod_lt m0).2 (fun b o n e => (k1 b n).trans e) ⟨_, _, _, h1, fdiv_nn x0 m0, y0, y1, z0⟩
    · walk_at "go"
      refine g_ixL hw rfl ?_
      walk_at "go"
      refine g_setL hw rfl fun H1 h1 k1 => ?_
      walk_at "go"
      refine g_ixL h1 rfl ?_
      walk_at "go"
      refine g_mulI (.of_right (by decide)) ?_
      walk_at "go"
      refine g_ixL h1 rfl ?_
      refine g_mulI (.of_left (by decide)) ?_
      walk_at "go"
      refine g_modI (by decide) ?_
      walk_at "go"
      have b1 := fmod_lt (x := y * 48271 + 30103 * (z + 1) + 11) (m := 2147483647) (by decide)
      refine g_divI (by decide) (by decide) ?_
      walk_at "go"
      refine g_mulI (sm31 b1.1 (by omega) _) ?_
      walk_at "go"
      refine g_modI (by decide) ?_
      walk_at "go"
      generalize (y * 48271 + 30103 * (z + 1) + 11).fmod 2147483647 = u1 at *
      have b2 := fmod_lt (x := u1 * (u1.fdiv 1009 + 69621)) (m := 2147483629) (by decide)
      refine g_divI (by decide) (by decide) ?_
      walk_at "go"
      refine g_ixL h1 rfl ?_
      walk_at "go"
      refine g_mulI (sm31 b2.1 (by omega) _) ?_
      walk_at "go"
      refine g_modI (by decide) ?_
      walk_at "go"
      refine g_divI (by decide) (by decide) ?_
      walk_at "go"
      refine g_modI (by omega) ?_
      exact q _ H1 (fmod_lt m0).1 (fmod_lt m0).2 (fun b o n e => (k1 b n).trans e) ⟨_, _, _, h1, x0, y0, y1, by omega⟩
/-! _law_one -/
abbrev s_Lone : Stmt := top 41
theorem sc_Lone : FnScope ["_law_well_here", "_law_some"] ["_law_well_here", "_law_some"] (defScope s_Lone) := ⟨rfl, rfl, rfl, by decide +kernel, rfl, by decide +kernel, by decide +kernel⟩
def sp_Lone : Sp := fun vs H Q _ => ∃ (a l : Addr) (xs : List V), vs = [.ref a, .ref l] ∧ Well H a ∧ H l = some (.lst xs) ∧ l ≠ a ∧ 0 < xs.length ∧ xs.length < 1000 ∧ ∀ v H', v ∈ xs → Stp a H H' → Well H' a → Q v H'
theorem ok_Lone {f : Addr} {fd : FuncData} (F : FunD K "_law_one" "_law_one" (defArgs s_Lone) (defBody s_Lone) (defScope s_Lone) [] [] f fd) (B : Blt mg) (c_Ldraw : Fn P w K mg base CX0 1 "_law_draw" ["_law_well_here", "_law_many"] [] sp_Ldraw) : FnOk P w K mg base CX0 2 f fd ["_law_well_here", "_law_some"] sp_Lone := by
  refine F.ok sc_Lone (fun vs H Q E h => ?_) (fun cdv A outer s H vs Q E hr h => ?_)
  · obtain ⟨a, l, xs, rfl, _⟩ := h; rfl
  · obtain ⟨a, l, xs, rfl, hw, hl, ne, x0, x1, q⟩ := h
    refine ⟨_, PSs.nox (pss_one (ps_ret (pe_ix ix_seq (pv 1) (pe_fn c_Ldraw (hr.mono (by decide)) pass0 (pa_cons (pv 0) (pa_cons (pe_callB call_len_seq (by rfl) B.len (by decide +kernel) (pa_cons (pv 1) pa_nil)) pa_nil))) (fun _ _ => rfl)))), ?_⟩
    walk_at "go"
    refine g_lenL hl ?_
    walk_at "go"
    refine ⟨a, _, rfl, by omega, by omega, hw, fun k H1 k0 k1 s1 hw1 => ?_⟩
    have hi : k.toNat < xs.length := by omega
    refine g_ixL (s1 _ _ ne hl) (v := xs[k.toNat]) ?_ (q _ _ (List.getElem_mem hi) s1 hw1)
    have e : ixN xs.length k = some k.toNat := by unfold ixN; rw [if_pos k0, if_pos k1]
    unfold atI
    rw [e]
    simp [hi]
/-! _law_great -/
abbrev s_Lgreat : Stmt := top 42
theorem sc_Lgreat : FnScope ["_law_well_here", "_law_bits", "_law_number", "_law_k"] ["_law_well_here", "_law_bits"] (defScope s_Lgreat) := ⟨rfl, rfl, rfl, by decide +kernel, rfl, by decide +kernel, by decide +kernel⟩
def sp_Lgreat : Sp := fun vs H Q _ => ∃ (a : Addr) (m : Int), vs = [.ref a, .int m] ∧ 0 ≤ m ∧ m ≤ 1000 ∧ Well H a ∧ ∀ k H', 0 ≤ k → k < 2 ^ m.toNat → Stp a H H' → Well H' a → Q (.int k) H'
theorem ok_Lgreat {f : Addr} {fd : FuncData} (F : FunD K "_law_great" "_law_great" (defArgs s_Lgreat) (defBody s_Lgreat) (defScope s_Lgreat) [] [] f fd) (B : Blt mg) (c_Ldraw : Fn P w K mg base CX0 1 "_law_draw" ["_law_well_here", "_law_many"] [] sp_Ldraw) : FnOk P w K mg base CX0 2 f fd ["_law_well_here", "_law_bits"] sp_Lgreat := by
  refine F.ok sc_Lgreat (fun vs H Q E h => ?_) (fun cdv A outer s H vs Q E hr h => ?_)
  · obtain ⟨a, m, rfl, _⟩ := h; rfl
  · obtain ⟨a, m, rfl, m0, m1, hw, q⟩ := h
    refine ⟨_, PSs.nox (pss_cons (ps_set (i := 2) sc_Lgreat.nd rfl (Or.inl rfl) pe_int)
  (pss_cons (ps_for PassesOwn.never rfl (pi_range1 (by rfl) B.range (pa_cons (pe_op op_oAdd pe_int (pe_op op_oDiv (pv 1) pe_int)) pa_nil)) (pg_name (i := 3) sc_Lgreat.nd rfl (Or.inl rfl))
    (pss_one (ps_set (i := 2) sc_Lgreat.nd rfl (Or.inl rfl) (pe_op op_oAdd (pe_op op_oMul (pv 2) pe_int) (pe_fn c_Ldraw (hr.mono (by decide)) pass0 (pa_cons (pv 0) (pa_cons pe_int pa_nil)))))))
  (pss_one (ps_ret (pe_op op_oMod (pe_callTy call_int1 (by rfl) B.int (by decide +kernel) (pa_cons (pv 2) pa_nil)) (pe_op op_oShl pe_int (pv 1))))))), ?_⟩
    walk_at "go"
    refine g_divI (by decide) (by decide) ?_
    walk_at "go"
    have e0 : m.fdiv 20 = m / 20 := Int.fdiv_eq_ediv_of_nonneg _ (by decide)
    refine ⟨by omega, by omega, ?_⟩
    refine for_range (fun i σ' H' => ∃ (n : Int) (v : Option V), σ' = [some (.ref a), some (.int m), some (.int n), v] ∧ Stp a H H' ∧ Well H' a) ⟨0, none, rfl, Stp.refl _ _, hw⟩ ?_ ?_
    · rintro i _ H1 hi ⟨n, v, rfl, s1, hw1⟩
      walk_at "go"
      refine g_mulI (.of_right (by decide)) ?_
      walk_at "go"
      refine ⟨a, _, rfl, by decide, by decide, hw1, fun k H2 k0 k1 s2 hw2 => ?_⟩
      walk_at "go"
      exact ⟨_, _, rfl, s1.trans s2, hw2⟩
    · rintro _ H1 ⟨n, v, rfl, s1, hw1⟩
      walk_at "go"
      refine g_II (shl_small m0 (by omega) (lt_pow_mono (a := 1) (by decide) (by decide))) ?_
      rw [Int.one_mul]
      have hp : (0 : Int) < 2 ^ m.toNat := Int.pow_pos (by decide)
      refine g_modI (by omega) ?_
      exact q _ H1 (fmod_lt hp).1 (fmod_lt hp).2 s1 hw1
end
end Up

set_option Elab.async false
set_option linter.all false
set_option maxRecDepth 100000
set_option maxHeartbeats 4000000
set_option exponentiation.threshold 200000
namespace Up
open PySem PySem.Spec PyProof.Rows L2
local macro_rules | `(tactic| walk_at "u") => `(tactic| first
  | with_reducible refine g_seq ?_
  | with_reducible refine g_asg ?_
  | with_reducible refine g_op ?_
  | ((with_reducible show tVar _ _ _ _); apply g_var; exact rfl)
  | with_reducible refine g_c ?_
  | with_reducible refine g_name ?_
  | with_reducible refine g_ifs ?_
  | with_reducible refine g_tt ?_
  | with_reducible refine g_tB ?_
  | with_reducible refine g_bl ?_
  | with_reducible refine g_ret ?_
  | with_reducible refine g_cb ?_
  | with_reducible refine g_cons ?_
  | with_reducible refine g_nil ?_
  | with_reducible refine g_call ?_
  | with_reducible refine g_and ?_
  | with_reducible refine g_or ?_
  | with_reducible refine g_not ?_
  | with_reducible refine g_andV ?_
  | with_reducible refine g_orV ?_
  | with_reducible refine g_notV ?_
  | with_reducible refine g_if ?_
  | with_reducible refine g_un ?_
  | with_reducible refine g_neg ?_
  | with_reducible refine g_addI ?_
  | with_reducible refine g_subI ?_
  | with_reducible refine g_subB ?_
  | with_reducible refine g_I0 ?_
  | with_reducible refine g_cmpI ?_
  | with_reducible refine g_eqI ?_
  | with_reducible refine g_neI ?_
  | with_reducible refine g_eqS ?_
  | with_reducible refine g_neS ?_
  | with_reducible refine g_eqB ?_
  | with_reducible refine g_neB ?_
  | with_reducible refine g_bits ?_
  | with_reducible refine g_bitsI ?_
  | with_reducible refine g_fld ?_
  | with_reducible refine g_tup ?_
  | with_reducible refine g_lst ?_
  | with_reducible refine g_gtup ?_
  | with_reducible refine g_make ?_
  | with_reducible refine g_lc ?_
  | with_reducible refine g_yesT ?_
  | with_reducible refine g_intI ?_
  | with_reducible refine g_intB ?_
  | with_reducible refine g_max2 ?_
  | with_reducible refine g_abs1 ?_
  | with_reducible refine g_for ?_
  | with_reducible refine g_iList ?_
  | with_reducible refine g_iTup ?_
  | with_reducible refine g_iRng1 ?_
  | with_reducible refine g_iEnum ?_
  | with_reducible refine g_slice ?_
  | with_reducible refine g_po0 ?_
  | with_reducible refine g_po1 ?_
  | with_reducible refine g_gsub ?_
  | with_reducible refine g_par ?_
  | with_reducible refine g_par2 ?_
  | with_reducible refine g_rfl ?_
  | with_reducible refine g_meth ?_
  | with_reducible refine g_gcons ?_
  | with_reducible refine g_gnil ?_
  | with_reducible refine g_gfld ?_
  | with_reducible refine g_sfld ?_
  | with_reducible refine g_drop ?_
  | with_reducible refine g_next ?_
  | with_reducible refine iteT ?_
  | with_reducible refine iteF ?_)
local macro_rules | `(tactic| walk_at "go") => `(tactic| (repeat walk_at "u"))

section
variable {P : Program} {w : World} {K : PySem.W.Frag} {mg : Str → Option Value} {base : Heap} {C : Addr}
/-! _law_finite -/
abbrev s_Lfinite : Stmt := top 43
theorem sc_Lfinite : FnScope ["_law_well_here", "_law_sign", "_law_way", "_law_some"] ["_law_well_here"] (defScope s_Lfinite) := ⟨rfl, rfl, rfl, by decide +kernel, rfl, by decide +kernel, by decide +kernel⟩
def FinD (s t p : Int) : Prop := (s = 1 ∨ s = -1) ∧ 0 ≤ t ∧ t < 2 ^ 53 ∧ -1074 ≤ p ∧ p ≤ 971
def sp_Lfinite : Sp := fun vs H Q _ => ∃ (a : Addr), vs = [.ref a] ∧ Well H a ∧ ∀ b H' s t p, H b = none → Stp a H H' → Well H' a → H' b = some (.tup [.int s, .int t, .int p]) → FinD s t p → Q (.ref b) H'
theorem pow53 {k : Int} {n : Nat} (h : k < 2 ^ n) (hn : n ≤ 53) : k < 2 ^ 53 := by
  have : (2 : Int) ^ n ≤ 2 ^ 53 := by exact_mod_cast Nat.pow_le_pow_right (show 0 < 2 by decide) hn
  omega
theorem ok_Lfinite {f : Addr} {fd : FuncData} (F : FunD K "_law_finite" "_law_finite" (defArgs s_Lfinite) (defBody s_Lfinite) (defScope s_Lfinite) [] [] f fd) (B : Blt mg) (c_Ldraw : Fn P w K mg base CX0 1 "_law_draw" ["_law_well_here", "_law_many"] [] sp_Ldraw) (c_Lone : Fn P w K mg base CX0 2 "_law_one" ["_law_well_here", "_law_some"] [] sp_Lone)
    (c_Lgreat : Fn P w K mg base CX0 2 "_law_great" ["_law_well_here", "_law_bits"] [] sp_Lgreat) : FnOk P w K mg base CX0 3 f fd ["_law_well_here"] sp_Lfinite := by
  refine F.ok sc_Lfinite (fun vs H Q E h => ?_) (fun cdv A outer s H vs Q E hr h => ?_)
  · obtain ⟨a, rfl, _⟩ := h; rfl
  · obtain ⟨a, rfl, hw, q⟩ := h
    refine ⟨_, PSs.nox (pss_cons (ps_par (i := 1) (j := 2) rfl sc_Lfinite.nd rfl rfl (by decide) rfl rfl (pa_cons (pe_fn c_Lone (hr.mono (by decide)) pass0 (pa_cons (pv 0) (pa_cons (pe_lstN (pa_cons pe_int (pa_cons (pe_un un_neg pe_int) pa_nil))) pa_nil))) (pa_cons (pe_fn c_Ldraw (hr.mono (by decide)) pass0 (pa_cons (pv 0) (pa_cons pe_int pa_nil))) pa_nil)) (by rfl))
  (pss_cons (ps_if (pt_cmpR (op_oEq hr.units) (pv 2) pe_int (nomark _)) (pss_one (ps_ret (pe_tupN (pa_cons (pv 1) (pa_cons pe_int (pa_cons pe_int pa_nil)))))) pss_nil)
  (pss_cons (ps_if (pt_cmpR op_oLt (pv 2) pe_int (nomark _)) (pss_one (ps_ret (pe_tupN (pa_cons (pv 1) (pa_cons (pe_fn c_Ldraw (hr.mono (by decide)) pass0 (pa_cons (pv 0) (pa_cons pe_int pa_nil))) (pa_cons (pe_fn c_Lone (hr.mono (by decide)) pass0 (pa_cons (pv 0) (pa_cons (pe_lstN (pa_cons pe_int (pa_cons pe_int (pa_cons (pe_un un_neg pe_int) (pa_cons (pe_un un_neg pe_int) pa_nil))))) pa_nil))) pa_nil)))))) pss_nil)
  (pss_cons (ps_set (i := 3) sc_Lfinite.nd rfl (Or.inl rfl) (pe_lstN (pa_cons (pe_op op_oSub (pe_fn c_Ldraw (hr.mono (by decide)) pass0 (pa_cons (pv 0) (pa_cons pe_int pa_nil))) pe_int) (pa_cons (pe_op op_oSub pe_int (pe_fn c_Ldraw (hr.mono (by decide)) pass0 (pa_cons (pv 0) (pa_cons pe_int pa_nil)))) (pa_cons (pe_fn c_Ldraw (hr.mono (by decide)) pass0 (pa_cons (pv 0) (pa_cons pe_int pa_nil))) (pa_cons (pe_op op_oSub pe_int (pe_fn c_Ldraw (hr.mono (by decide)) pass0 (pa_cons (pv 0) (pa_cons pe_int pa_nil)))) pa_nil))))))
  (pss_cons (ps_set (i := 3) sc_Lfinite.nd rfl (Or.inl rfl) (pe_op op_oAdd (pv 3) (pe_lstN (pa_cons (pe_op op_oSub (pe_un un_neg pe_int) (pe_fn c_Ldraw (hr.mono (by decide)) pass0 (pa_cons (pv 0) (pa_cons pe_int pa_nil)))) (pa_cons (pe_op op_oSub (pe_fn c_Ldraw (hr.mono (by decide)) pass0 (pa_cons (pv 0) (pa_cons pe_int pa_nil))) pe_int) pa_nil)))))
  (pss_one (ps_ret (pe_tupN (pa_cons (pv 1) (pa_cons (pe_fn c_Lgreat (hr.mono (by decide)) pass0 (pa_cons (pv 0) (pa_cons (pe_fn c_Lone (hr.mono (by decide)) pass0 (pa_cons (pv 0) (pa_cons (pe_lstN (pa_cons pe_int (pa_cons pe_int (pa_cons pe_int (pa_cons pe_int pa_nil))))) pa_nil))) pa_nil))) (pa_cons (pe_callB (call_min2 rfl) (by rfl) B.min (by decide +kernel) (pa_cons pe_int (pa_cons (pe_fn c_Lone (hr.mono (by decide)) pass0 (pa_cons (pv 0) (pa_cons (pv 3) pa_nil))) pa_nil))) pa_nil))))))))))), ?_⟩
    walk_at "go"
    refine g_new (sz rfl) fun l1 H1 n1 s1 h1 _ => ?_
    refine ⟨a, l1, _, rfl, hw.same s1, h1, hw.ne_none n1, by decide, by decide, fun v H2 hv s2 hw2 => ?_⟩
    have S2 := (Stp.of (w := a) s1).trans s2
    obtain ⟨sg, rfl, hs⟩ : ∃ sg, v = .int sg ∧ (sg = 1 ∨ sg = -1) := by
      simp only [List.mem_cons, List.not_mem_nil, or_false] at hv
      rcases hv with rfl | rfl
      · exact ⟨_, rfl, .inl rfl⟩
      · exact ⟨_, rfl, .inr rfl⟩
    walk_at "go"
    refine ⟨a, _, rfl, by decide, by decide, hw2, fun k H3 k0 k1 s3 hw3 => ?_⟩
    have S3 := S2.trans s3
    walk_at "go"
    refine g_ite (fun hk => ?_) fun hk => ?_
    · walk_at "go"
      refine g_new (sz rfl) fun b H4 n4 s4 h4 _ => ?_
      exact q b H4 _ _ _ (S3.free hw3 n4) (S3.trans (Stp.of s4)) (hw3.same s4) h4 ⟨hs, by decide, by decide, by decide, by decide⟩
    · walk_at "go"
      refine g_ite (fun hk4 => ?_) fun hk4 => ?_
      · walk_at "go"
        refine ⟨a, _, rfl, by decide, by decide, hw3, fun t H4 t0 t1 s4 hw4 => ?_⟩
        have S4 := S3.trans s4
        walk_at "go"
        refine g_new (sz rfl) fun l5 H5 n5 s5 h5 _ => ?_
        refine ⟨a, l5, _, rfl, hw4.same s5, h5, hw4.ne_none n5, by decide, by decide, fun v H6 hv s6 hw6 => ?_⟩
        have S6 := (S4.trans (Stp.of s5)).trans s6
        obtain ⟨p, rfl, hp⟩ : ∃ p, v = .int p ∧ -1074 ≤ p ∧ p ≤ 971 := by
          simp only [List.mem_cons, List.not_mem_nil, or_false] at hv
          rcases hv with rfl | rfl | rfl | rfl <;> exact ⟨_, rfl, by decide, by decide⟩
        walk_at "go"
        refine g_new (sz rfl) fun b H7 n7 s7 h7 _ => ?_
        exact q b H7 _ _ _ (S6.free hw6 n7) (S6.trans (Stp.of s7)) (hw6.same s7) h7 ⟨hs, t0, by omega, hp.1, hp.2⟩
      · walk_at "go"
        refine ⟨a, _, rfl, by decide, by decide, hw3, fun d1 H4 a1 b1 s4 hw4 => ?_⟩
        walk_at "go"
        refine ⟨a, _, rfl, by decide, by decide, hw4, fun d2 H5 a2 b2 s5 hw5 => ?_⟩
        walk_at "go"
        refine ⟨a, _, rfl, by decide, by decide, hw5, fun d3 H6 a3 b3 s6 hw6 => ?_⟩
        walk_at "go"
        refine ⟨a, _, rfl, by decide, by decide, hw6, fun d4 H7 a4 b4 s7 hw7 => ?_⟩
        have S7 := (((S3.trans s4).trans s5).trans s6).trans s7
        walk_at "go"
        refine g_new (sz rfl) fun l8 H8 n8 s8 h8 _ => ?_
        have S8 := S7.trans (Stp.of s8)
        have hw8 := hw7.same s8
        have l8a := hw7.ne_none n8
        walk_at "go"
        refine ⟨a, _, rfl, by decide, by decide, hw8, fun d5 H9 a5 b5 s9 hw9 => ?_⟩
        walk_at "go"
        refine ⟨a, _, rfl, by decide, by decide, hw9, fun d6 H10 a6 b6 s10 hw10 => ?_⟩
        have S10 := (S8.trans s9).trans s10
        have h8b := s10 _ _ l8a (s9 _ _ l8a h8)
        walk_at "go"
        refine g_new (sz rfl) fun l11 H11 n11 s11 h11 _ => ?_
        refine .inl ⟨l8, l11, _, _, rfl, rfl, SqL.of (s11 _ _ h8b), SqL.of h11, sz rfl, fun l12 H12 n12 s12 h12 _ => ?_⟩
        have S12 := (S10.trans (Stp.of s11)).trans (Stp.of s12)
        have hw12 := (hw10.same s11).same s12
        have l12a := (hw10.same s11).ne_none n12
        walk_at "go"
        refine g_new (sz rfl) fun l13 H13 n13 s13 h13 _ => ?_
        refine ⟨a, l13, _, rfl, hw12.same s13, h13, hw12.ne_none n13, by decide, by decide, fun v H14 hv s14 hw14 => ?_⟩
        have S14 := (S12.trans (Stp.of s13)).trans s14
        obtain ⟨p, rfl, hp⟩ : ∃ p, v = .int p ∧ 0 ≤ p ∧ p ≤ 53 := by
          simp only [List.mem_cons, List.not_mem_nil, or_false] at hv
          rcases hv with rfl | rfl | rfl | rfl <;> exact ⟨_, rfl, by decide, by decide⟩
        walk_at "go"
        refine ⟨a, p, rfl, hp.1, by omega, hw14, fun t H15 t0 t1 s15 hw15 => ?_⟩
        have S15 := S14.trans s15
        have h12b := s15 _ _ l12a (s14 _ _ l12a (s13 _ _ h12))
        walk_at "go"
        refine ⟨a, l12, _, rfl, hw15, h12b, l12a, Nat.lt_of_lt_of_le (by decide : 0 < 6) (Nat.le_refl _), Nat.lt_of_le_of_lt (Nat.le_refl 6) (by decide), fun v H16 hv s16 hw16 => ?_⟩
        have S16 := S15.trans s16
        obtain ⟨u, rfl, hu⟩ : ∃ u, v = .int u ∧ -1074 ≤ u ∧ u ≤ 971 := by
          simp only [List.mem_append, List.mem_cons, List.not_mem_nil, or_false] at hv
          rcases hv with (rfl | rfl | rfl | rfl) | (rfl | rfl) <;> exact ⟨_, rfl, by omega, by omega⟩
        walk_at "go"
        refine g_new (sz rfl) fun b H17 n17 s17 h17 _ => ?_
        refine q b H17 _ _ _ (S16.free hw16 n17) (S16.trans (Stp.of s17)) (hw16.same s17) h17 ⟨hs, t0, pow53 t1 (by omega), ?_, ?_⟩
        · split <;> omega
        · split <;> omega
/-! _law_float -/
abbrev s_Lfloat : Stmt := top 44
theorem sc_Lfloat : FnScope ["_law_well_here", "_law_sign", "_law_top", "_law_power"] ["_law_well_here"] (defScope s_Lfloat) := ⟨rfl, rfl, rfl, by decide +kernel, rfl, by decide +kernel, by decide +kernel⟩
theorem FlAt.stp {a b : Addr} {H H' : Hp} {s : Int} {t : V} {p : Int} (h : FlAt C H b s t p) (hw : Well H a) (e : Stp a H H') : FlAt C H' b s t p := by
  obtain ⟨dx, h⟩ := h
  exact ⟨dx, e.ins hw h⟩
theorem NumAt.stp {a : Addr} {H H' : Hp} {v : V} (hw : Well H a) (e : Stp a H H') : ∀ {n : Nm}, NumAt C H v n → NumAt C H' v n
  | .i _, h => h
  | .f _ _ _, ⟨b, z, h, k⟩ => ⟨b, z, h.stp hw e, k⟩
theorem mk_nan : MkOk 1 (.str "nan") 0 := ⟨.inl rfl, .inl ⟨rfl, rfl, rfl⟩⟩
theorem FinD.mk {s t p : Int} (h : FinD s t p) : MkOk s (.int t) p := by
  obtain ⟨hs, t0, t1, p0, p1⟩ := h
  obtain ⟨n, rfl⟩ := Int.eq_ofNat_of_zero_le t0
  have hb : bitsN n ≤ 53 := bits_le (by omega)
  exact mk_of_flok hs (by omega) p0 (by omega)
def sp_Lfloat (C : Addr) : Sp := fun vs H Q _ => ∃ (a : Addr), vs = [.ref a] ∧ Well H a ∧ ∀ v H' s t p, Stp a H H' → Well H' a → NumAt C H' v (.f s t p) → Q v H'
theorem ok_Lfloat {f : Addr} {fd : FuncData} (F : FunD K "_law_float" "_law_float" (defArgs s_Lfloat) (defBody s_Lfloat) (defScope s_Lfloat) [] [] f fd) (B : Blt mg) (c_Float : CnF P w K mg base C) (c_Ldraw : Fn P w K mg base CX0 1 "_law_draw" ["_law_well_here", "_law_many"] [] sp_Ldraw) (c_Lone : Fn P w K mg base CX0 2 "_law_one" ["_law_well_here", "_law_some"] [] sp_Lone)
    (c_Lfinite : Fn P w K mg base CX0 3 "_law_finite" ["_law_well_here"] [] sp_Lfinite) : FnOk P w K mg base CX0 4 f fd ["_law_well_here"] (sp_Lfloat C) := by
  refine F.ok sc_Lfloat (fun vs H Q E h => ?_) (fun cdv A outer s H vs Q E hr h => ?_)
  · obtain ⟨a, rfl, _⟩ := h; rfl
  · obtain ⟨a, rfl, hw, q⟩ := h
    refine ⟨_, PSs.nox (pss_cons (ps_if (pt_cmpR (op_oEq hr.units) (pe_fn c_Ldraw (hr.mono (by decide)) pass0 (pa_cons (pv 0) (pa_cons pe_int pa_nil))) pe_int (nomark _)) (pss_one (ps_ret (pe_fn c_Lone (hr.mono (by decide)) pass0 (pa_cons (pv 0) (pa_cons (pe_lstN (pa_cons (pe_cn c_Float (hr.mono (by decide)) pass0 (pa_cons pe_int (pa_cons pe_str (pa_cons pe_int pa_nil)))) (pa_cons (pe_cn c_Float (hr.mono (by decide)) pass0 (pa_cons (pe_un un_neg pe_int) (pa_cons pe_str (pa_cons pe_int pa_nil)))) (pa_cons (pe_cn c_Float (hr.mono (by decide)) pass0 (pa_cons pe_int (pa_cons pe_str (pa_cons pe_int pa_nil)))) pa_nil)))) pa_nil))))) pss_nil)
  (pss_cons (ps_asg (pe_fn c_Lfinite (hr.mono (by decide)) pass0 (pa_cons (pv 0) pa_nil)) (pg_tup rfl (pgs_cons (pg_name (i := 1) sc_Lfloat.nd rfl (Or.inl rfl)) (pgs_cons (pg_name (i := 2) sc_Lfloat.nd rfl (Or.inl rfl)) (pgs_cons (pg_name (i := 3) sc_Lfloat.nd rfl (Or.inl rfl)) pgs_nil)))))
  (pss_one (ps_ret (pe_cn c_Float (hr.mono (by decide)) pass0 (pa_cons (pv 1) (pa_cons (pv 2) (pa_cons (pv 3) pa_nil)))))))), ?_⟩
    walk_at "go"
    refine ⟨a, _, rfl, by decide, by decide, hw, fun k H1 k0 k1 s1 hw1 => ?_⟩
    walk_at "go"
    refine g_ite (fun hk => ?_) fun hk => ?_
    · walk_at "go"
      refine mkF (mk_inf (.inl rfl)) fun H2 x2 n2 s2 h2 => ?_
      walk_at "go"
      refine mkF (mk_inf (.inr rfl)) fun H3 x3 n3 s3 h3 => ?_
      walk_at "go"
      refine mkF mk_nan fun H4 x4 n4 s4 h4 => ?_
      walk_at "go"
      refine g_new (sz rfl) fun l5 H5 n5 s5 h5 _ => ?_
      have S5 := ((s2.trans s3).trans s4).trans s5
      have hw4 := hw1.same ((s2.trans s3).trans s4)
      refine ⟨a, l5, _, rfl, hw4.same s5, h5, hw4.ne_none n5, by simp, by simp, fun v H6 hv s6 hw6 => ?_⟩
      have g : ∀ x (sg : Int) (tp : V) (p : Int), MkOk sg tp p → FlAt C H5 x sg (redV tp p).1 (redV tp p).2 → NumAt C H6 (.ref x) (.f sg (redV tp p).1 (redV tp p).2) := fun x sg tp p hm h => ⟨x, rfl, h.stp (hw4.same s5) s6, mk_flok hm⟩
      have T6 := (s1.trans (Stp.of S5)).trans s6
      simp only [List.mem_cons, List.not_mem_nil, or_false] at hv
      rcases hv with rfl | rfl | rfl
      · exact q _ _ _ _ _ T6 hw6 (g _ _ _ _ (mk_inf (.inl rfl)) (h2.same ((s3.trans s4).trans s5)))
      · exact q _ _ _ _ _ T6 hw6 (g _ _ _ _ (mk_inf (.inr rfl)) (h3.same (s4.trans s5)))
      · exact q _ _ _ _ _ T6 hw6 (g _ _ _ _ mk_nan (h4.same s5))
    · walk_at "go"
      refine ⟨a, rfl, hw1, fun b H2 sg t p n2 s2 hw2 h2 hd => ?_⟩
      walk_at "go"
      refine ⟨b, _, rfl, SqT.of h2, rfl, ?_⟩
      walk_at "go"
      refine mkF hd.mk fun H3 x3 n3 s3 h3 => ?_
      exact q _ _ _ _ _ ((s1.trans s2).trans (Stp.of s3)) (hw2.same s3) ⟨x3, rfl, h3, mk_flok hd.mk⟩
end
end Up

set_option Elab.async false
set_option linter.all false
set_option maxRecDepth 100000
set_option maxHeartbeats 4000000
set_option exponentiation.threshold 200000
namespace Up
open PySem PySem.Spec PyProof.Rows L2
local macro_rules | `(tactic| walk_at "u") => `(tactic| first
  | with_reducible refine g_seq ?_
  | with_reducible refine g_asg ?_
  | with_reducible refine g_op ?_
  | ((with_reducible show tVar _ _ _ _); apply g_var; exact rfl)
  | with_reducible refine g_c ?_
  | with_reducible refine g_name ?_
  | with_reducible refine g_ifs ?_
  | with_reducible refine g_tt ?_
  | with_reducible refine g_tB ?_
  | with_reducible refine g_bl ?_
  | with_reducible refine g_ret ?_
  | with_reducible refine g_cb ?_
  | with_reducible refine g_cons ?_
  | with_reducible refine g_nil ?_
  | with_reducible refine g_call ?_
  | with_reducible refine g_and ?_
  | with_reducible refine g_or ?_
  | with_reducible refine g_not ?_
  | with_reducible refine g_andV ?_
  | with_reducible refine g_orV ?_
  | with_reducible refine g_notV ?_
  | with_reducible refine g_if ?_
  | with_reducible refine g_un ?_
  | with_reducible refine g_neg ?_
  | with_reducible refine g_addI ?_
  | with_reducible refine g_subI ?_
  | with_reducible refine g_subB ?_
  | with_reducible refine g_I0 ?_
  | with_reducible refine g_cmpI ?_
  | with_reducible refine g_eqI ?_
  | with_reducible refine g_neI ?_
  | with_reducible refine g_eqS ?_
  | with_reducible refine g_neS ?_
  | with_reducible refine g_eqB ?_
  | with_reducible refine g_neB ?_
  | with_reducible refine g_bits ?_
  | with_reducible refine g_bitsI ?_
  | with_reducible refine g_fld ?_
  | with_reducible refine g_tup ?_
  | with_reducible refine g_lst ?_
  | with_reducible refine g_gtup ?_
  | with_reducible refine g_make ?_
  | with_reducible refine g_lc ?_
  | with_reducible refine g_yesT ?_
  | with_reducible refine g_intI ?_
  | with_reducible refine g_intB ?_
  | with_reducible refine g_max2 ?_
  | with_reducible refine g_abs1 ?_
  | with_reducible refine g_for ?_
  | with_reducible refine g_iList ?_
  | with_reducible refine g_iTup ?_
  | with_reducible refine g_iRng1 ?_
  | with_reducible refine g_iEnum ?_
  | with_reducible refine g_slice ?_
  | with_reducible refine g_po0 ?_
  | with_reducible refine g_po1 ?_
  | with_reducible refine g_gsub ?_
  | with_reducible refine g_par ?_
  | with_reducible refine g_par2 ?_
  | with_reducible refine g_rfl ?_
  | with_reducible refine g_meth ?_
  | with_reducible refine g_gcons ?_
  | with_reducible refine g_gnil ?_
  | with_reducible refine g_gfld ?_
  | with_reducible refine g_sfld ?_
  | with_reducible refine g_drop ?_
  | with_reducible refine g_next ?_
  | with_reducible refine iteT ?_
  | with_reducible refine iteF ?_)
local macro_rules | `(tactic| walk_at "go") => `(tactic| (repeat walk_at "u"))

/-! ### the law's fractions order as the program's -/
def frc : Nm → Option (Int × Int)
  | .i k => some (k, 1)
  | .f s (.int m) p => some (ratN s m p, ratD p)
  | .f s (.str x) _ => if x = "nan" then none else some (s * 2 ^ 2000, 1)
  | .f _ _ _ => none
def nSm : Nm → Prop
  | .i k => k.natAbs < 2 ^ 1000
  | .f s t p => FlOk s t p
theorem nSm.ok : ∀ {n : Nm}, nSm n → nOk n
  | .i _, h => lt_pow_mono h (by decide)
  | .f _ _ _, h => h
/-- nan, an infinity, or a fraction below 2 ^ 1024 -/
theorem frc_cases {n : Nm} (h : nSm n) : (plc n = none ∧ frc n = none) ∨ (∃ s : Int, (s = 1 ∨ s = -1) ∧ plc n = some (s * 2 ^ 1025, 1) ∧ frc n = some (s * 2 ^ 2000, 1)) ∨
    ∃ x y : Int, 0 < y ∧ x.natAbs < 2 ^ 1024 * y.natAbs ∧ plc n = some (x, y) ∧ frc n = some (x, y) := by
  cases n with
  | i k => exact .inr (.inr ⟨k, 1, by decide, by rw [show (1 : Int).natAbs = 1 from rfl, Nat.mul_one]; exact lt_pow_mono h (by decide), rfl, rfl⟩)
  | f s t p =>
    obtain ⟨hs, h2⟩ := id h
    rcases h2 with ⟨rfl, _, _⟩ | ⟨rfl, _⟩ | ⟨m, rfl, hf⟩
    · left
      constructor
      · show (if ("nan" : Str) = "nan" then none else some (s * 2 ^ 1025, (1 : Int))) = none
        rw [if_pos rfl]
      · show (if ("nan" : Str) = "nan" then none else some (s * 2 ^ 2000, (1 : Int))) = none
        rw [if_pos rfl]
    · right; left
      refine ⟨s, hs, ?_, ?_⟩
      · show (if ("inf" : Str) = "nan" then none else some (s * 2 ^ 1025, (1 : Int))) = _
        rw [if_neg (by decide +kernel)]
      · show (if ("inf" : Str) = "nan" then none else some (s * 2 ^ 2000, (1 : Int))) = _
        rw [if_neg (by decide +kernel)]
    · right; right
      refine ⟨_, _, ?_, ?_, rfl, rfl⟩
      · unfold ratD; split
        · exact Int.pow_pos (by decide)
        · decide
      · obtain ⟨f1, f2, f3, f4, f5⟩ := hf
        have hm : m.natAbs < 2 ^ 53 := by omega
        unfold ratN ratD
        by_cases hp : p < 0
        · rw [if_pos hp, if_pos hp, sgn_abs hs, Int.natAbs_pow]
          have h1 : 2 ^ 1024 * 1 ≤ 2 ^ 1024 * Int.natAbs 2 ^ (0 - p).toNat := Nat.mul_le_mul_left _ (Nat.one_le_two_pow)
          exact Nat.lt_of_lt_of_le (lt_pow_mono (b := 1024) hm (by decide)) (by rw [Nat.mul_one] at h1; exact h1)
        · rw [if_neg hp, if_neg hp, sgn_abs hs, Int.natAbs_mul, Int.natAbs_pow]
          show m.natAbs * 2 ^ p.toNat < 2 ^ 1024 * 1
          rw [Nat.mul_one, intBits_neg] at *
          have h1 : m.natAbs * 2 ^ p.toNat < 2 ^ bitsN m.natAbs * 2 ^ p.toNat := Nat.mul_lt_mul_of_pos_right (bits_lt _) (Nat.two_pow_pos _)
          rw [← Nat.pow_add] at h1
          exact lt_pow_mono h1 (by omega)
def sgnI (g : Int) : Int := if 0 < g then 1 else if g < 0 then -1 else 0
theorem inf_fin {s x y : Int} {k : Nat} (hs : s = 1 ∨ s = -1) (hy : 0 < y) (hx : x.natAbs < 2 ^ 1024 * y.natAbs) (hk : 1024 ≤ k) : sgnI (s * 2 ^ k * y - x * 1) = s ∧ sgnI (x * 1 - s * 2 ^ k * y) = -s := by
  have h1 : 2 ^ 1024 * y.natAbs ≤ 2 ^ k * y.natAbs := Nat.mul_le_mul_right _ (Nat.pow_le_pow_right (by decide) hk)
  have h2 : ((2 ^ k * y.natAbs : Nat) : Int) = 2 ^ k * y := by
    rw [Int.natCast_mul, Int.natCast_pow, Int.natAbs_of_nonneg (by omega)]; rfl
  have h3 : x < 2 ^ k * y ∧ -x < 2 ^ k * y := by rw [← h2]; omega
  generalize hz : 2 ^ k * y = z at *
  rw [Int.mul_one, Int.mul_assoc, hz]
  unfold sgnI
  rcases hs with rfl | rfl
  · constructor
    · rw [if_pos (by omega)]
    · rw [if_neg (by omega), if_pos (by omega)]
  · constructor
    · rw [if_neg (by omega), if_pos (by omega)]
    · rw [if_pos (by omega)]; rfl
theorem gap_none (x : Option (Int × Int)) : gapO x none = none := by cases x <;> rfl
theorem gap_none1 (x : Option (Int × Int)) : gapO none x = none := by cases x <;> rfl
theorem gap_some (a b c d : Int) : gapO (some (a, b)) (some (c, d)) = some (a * d - c * b) := rfl
theorem inf_inf {s r : Int} {k : Nat} (hs : s = 1 ∨ s = -1) (hr : r = 1 ∨ r = -1) : sgnI (s * 2 ^ k * 1 - r * 2 ^ k * 1) = sgnI (s - r) := by
  have hp : (0 : Int) < 2 ^ k := Int.pow_pos (by decide)
  generalize (2 : Int) ^ k = z at *
  unfold sgnI
  rcases hs with rfl | rfl <;> rcases hr with rfl | rfl
  · rw [if_neg (by omega), if_neg (by omega)]; rfl
  · rw [if_pos (by omega)]; rfl
  · rw [if_neg (by omega), if_pos (by omega)]; rfl
  · rw [if_neg (by omega), if_neg (by omega)]; rfl
theorem gap_sign {n m : Nm} (hn : nSm n) (hm : nSm m) : (gapO (frc n) (frc m)).map sgnI = (gapO (plc n) (plc m)).map sgnI := by
  rcases frc_cases hn with ⟨e1, e2⟩ | ⟨s, hs, e1, e2⟩ | ⟨x, y, hy, hx, e1, e2⟩
  · rw [e1, e2, gap_none1, gap_none1]
  · rw [e1, e2]
    rcases frc_cases hm with ⟨d1, d2⟩ | ⟨r, hr, d1, d2⟩ | ⟨u, v, hv, hu, d1, d2⟩
    · rw [d1, d2, gap_none, gap_none]
    · rw [d1, d2, gap_some, gap_some, Option.map_some, Option.map_some, inf_inf hs hr, inf_inf hs hr]
    · rw [d1, d2, gap_some, gap_some, Option.map_some, Option.map_some, (inf_fin hs hv hu (by decide)).1, (inf_fin hs hv hu (by decide)).1]
  · rw [e1, e2]
    rcases frc_cases hm with ⟨d1, d2⟩ | ⟨r, hr, d1, d2⟩ | ⟨u, v, hv, hu, d1, d2⟩
    · rw [d1, d2]
    · rw [d1, d2, gap_some, gap_some, Option.map_some, Option.map_some, (inf_fin hr hy hx (by decide)).2, (inf_fin hr hy hx (by decide)).2]
    · rw [d1, d2]
/-- less, not greater, equal, by the law's gap -/
def dueB : Option Int → List Bool
  | none => [false, false, false]
  | some g => [decide (g < 0), decide (g ≤ 0), decide (g = 0)]
theorem due_told {n m : Nm} (hn : nSm n) (hm : nSm m) : dueB (gapO (frc n) (frc m)) = [cmpN "lt" n m, cmpN "le" n m, sameA (.num n) (.num m)] := by
  have h := gap_sign hn hm
  have e3 : sameA (.num n) (.num m) = decide (ordN n m = some 0) := rfl
  rw [e3]
  unfold cmpN ordN
  generalize gapO (frc n) (frc m) = g1 at *
  generalize gapO (plc n) (plc m) = g2 at *
  cases g1 with
  | none =>
    cases g2 with
    | none => rfl
    | some b => cases h
  | some a =>
    cases g2 with
    | none => cases h
    | some b =>
      have h : some (sgnI a) = some (sgnI b) := h
      injection h with h
      have hl : (("le" : Str) = "lt") = False := by simp only [eq_iff_iff, iff_false]; decide +kernel
      simp only [dueB, Option.map_some, if_true, hl, if_false, b2i_decide, Option.some.injEq]
      unfold sgnI at h
      by_cases a1 : 0 < a <;> by_cases a2 : a < 0 <;> by_cases b1 : 0 < b <;> by_cases b2 : b < 0 <;> simp only [a1, a2, b1, b2, if_true, if_false] at h ⊢ <;> first | omega | (simp; omega) | (simp at h)
end Up

set_option Elab.async false
set_option linter.all false
set_option maxRecDepth 100000
set_option maxHeartbeats 4000000
set_option exponentiation.threshold 200000
namespace Up
open PySem PySem.Spec PyProof.Rows L2
local macro_rules | `(tactic| walk_at "u") => `(tactic| first
  | with_reducible refine g_seq ?_
  | with_reducible refine g_asg ?_
  | with_reducible refine g_op ?_
  | ((with_reducible show tVar _ _ _ _); apply g_var; exact rfl)
  | with_reducible refine g_c ?_
  | with_reducible refine g_name ?_
  | with_reducible refine g_ifs ?_
  | with_reducible refine g_tt ?_
  | with_reducible refine g_tB ?_
  | with_reducible refine g_bl ?_
  | with_reducible refine g_ret ?_
  | with_reducible refine g_cb ?_
  | with_reducible refine g_cons ?_
  | with_reducible refine g_nil ?_
  | with_reducible refine g_call ?_
  | with_reducible refine g_and ?_
  | with_reducible refine g_or ?_
  | with_reducible refine g_not ?_
  | with_reducible refine g_andV ?_
  | with_reducible refine g_orV ?_
  | with_reducible refine g_notV ?_
  | with_reducible refine g_if ?_
  | with_reducible refine g_un ?_
  | with_reducible refine g_neg ?_
  | with_reducible refine g_addI ?_
  | with_reducible refine g_subI ?_
  | with_reducible refine g_subB ?_
  | with_reducible refine g_I0 ?_
  | with_reducible refine g_cmpI ?_
  | with_reducible refine g_eqI ?_
  | with_reducible refine g_neI ?_
  | with_reducible refine g_eqS ?_
  | with_reducible refine g_neS ?_
  | with_reducible refine g_eqB ?_
  | with_reducible refine g_neB ?_
  | with_reducible refine g_bits ?_
  | with_reducible refine g_bitsI ?_
  | with_reducible refine g_fld ?_
  | with_reducible refine g_tup ?_
  | with_reducible refine g_lst ?_
  | with_reducible refine g_gtup ?_
  | with_reducible refine g_make ?_
  | with_reducible refine g_lc ?_
  | with_reducible refine g_yesT ?_
  | with_reducible refine g_intI ?_
  | with_reducible refine g_intB ?_
  | with_reducible refine g_max2 ?_
  | with_reducible refine g_abs1 ?_
  | with_reducible refine g_for ?_
  | with_reducible refine g_iList ?_
  | with_reducible refine g_iTup ?_
  | with_reducible refine g_iRng1 ?_
  | with_reducible refine g_iEnum ?_
  | with_reducible refine g_slice ?_
  | with_reducible refine g_po0 ?_
  | with_reducible refine g_po1 ?_
  | with_reducible refine g_gsub ?_
  | with_reducible refine g_par ?_
  | with_reducible refine g_par2 ?_
  | with_reducible refine g_rfl ?_
  | with_reducible refine g_meth ?_
  | with_reducible refine g_gcons ?_
  | with_reducible refine g_gnil ?_
  | with_reducible refine g_gfld ?_
  | with_reducible refine g_sfld ?_
  | with_reducible refine g_drop ?_
  | with_reducible refine g_next ?_
  | with_reducible refine iteT ?_
  | with_reducible refine iteF ?_)
local macro_rules | `(tactic| walk_at "go") => `(tactic| (repeat walk_at "u"))

section
variable {P : Program} {w : World} {K : PySem.W.Frag} {mg : Str → Option Value} {base : Heap} {C : Addr}
/-! _law_fraction -/
abbrev s_Lfraction : Stmt := top 45
theorem sc_Lfraction : FnScope ["_law_number"] ["_law_number"] (defScope s_Lfraction) := ⟨rfl, rfl, rfl, by decide +kernel, rfl, by decide +kernel, by decide +kernel⟩
def sp_Lfraction (C : Addr) : Sp := fun vs H Q _ => ∃ v n, vs = [v] ∧ NumAt C H v n ∧ RetO H (frc n) Q
theorem ok_Lfraction {f : Addr} {fd : FuncData} (F : FunD K "_law_fraction" "_law_fraction" (defArgs s_Lfraction) (defBody s_Lfraction) (defScope s_Lfraction) [] [] f fd) (B : Blt mg) (T : FlC K mg C) : FnOk P w K mg base CX0 1 f fd ["_law_number"] (sp_Lfraction C) := by
  refine F.ok sc_Lfraction (fun vs H Q E h => ?_) (fun cdv A outer s H vs Q E hr h => ?_)
  · obtain ⟨x, n, rfl, _⟩ := h; rfl
  · obtain ⟨x, n, rfl, hn, q⟩ := h
    refine ⟨_, PSs.nox (pss_cons (ps_if (pt_val (pe_callB call_isi (by rfl) B.isinstance (by decide +kernel) (pa_cons (pv 0) (pa_cons (pe_tyInt B) pa_nil)))) (pss_one (ps_ret (pe_tupN (pa_cons (pv 0) (pa_cons pe_int pa_nil))))) pss_nil)
  (pss_cons (ps_if (pt_cmpR (op_oEq hr.units) (pe_fld (pv 0) rfl) pe_str (nomark _)) (pss_one (ps_ret pe_non)) pss_nil)
  (pss_cons (ps_if (pt_cmpR (op_oEq hr.units) (pe_fld (pv 0) rfl) pe_str (nomark _)) (pss_one (ps_ret (pe_tupN (pa_cons (pe_op op_oShl (pe_fld (pv 0) rfl) pe_int) (pa_cons pe_int pa_nil))))) pss_nil)
  (pss_cons (ps_if (pt_cmpR op_oLt (pe_fld (pv 0) rfl) pe_int (nomark _)) (pss_one (ps_ret (pe_tupN (pa_cons (pe_op op_oMul (pe_fld (pv 0) rfl) (pe_fld (pv 0) rfl)) (pa_cons (pe_op op_oShl pe_int (pe_op op_oSub pe_int (pe_fld (pv 0) rfl))) pa_nil))))) pss_nil)
  (pss_one (ps_ret (pe_tupN (pa_cons (pe_op op_oMul (pe_fld (pv 0) rfl) (pe_op op_oShl (pe_fld (pv 0) rfl) (pe_fld (pv 0) rfl))) (pa_cons pe_int pa_nil))))))))), ?_⟩
    obtain ⟨t, hk, hi, hb⟩ := hn.kf T
    walk_at "go"
    refine g_isiInt hk.kn ?_
    walk_at "go"
    rw [hi, hb, Bool.or_false]
    cases n with
    | i k =>
      have hn : x = .int k := hn
      subst hn
      refine iteT ?_
      walk_at "go"
      exact g_new (sz rfl) fun a H1 na s1 ha _ => q _ _ na s1 ha
    | f sg tp p =>
      obtain ⟨a, rfl, hf, ho⟩ := hn
      obtain ⟨dx, hd⟩ := id hf
      refine iteF ?_
      walk_at "go"
      refine ⟨a, C, dx, _, _, rfl, hd, T.own.cl, T.nT, fl_top _ _ _, ?_⟩
      walk_at "go"
      rcases id ho.2 with ⟨rfl, _, _⟩ | ⟨rfl, _⟩ | ⟨m, rfl, hfin⟩
      · walk_at "go"
        refine g_yes rfl ?_
        walk_at "go"
        exact q H (Same.refl _)
      · walk_at "go"
        refine g_no (by decide +kernel) ?_
        walk_at "go"
        refine ⟨a, C, dx, _, _, rfl, hd, T.own.cl, T.nT, fl_top _ _ _, ?_⟩
        walk_at "go"
        refine g_yes rfl ?_
        walk_at "go"
        refine ⟨a, C, dx, _, _, rfl, hd, T.own.cl, T.nS, fl_sign _ _ _, ?_⟩
        walk_at "go"
        refine g_II (shl_small (by decide) (by decide) (by rcases ho.1 with rfl | rfl <;> exact lt_pow_mono (a := 1) (by decide) (by decide))) ?_
        walk_at "go"
        have e : frc (.f sg (.str "inf") p) = some (sg * 2 ^ 2000, 1) := by
          show (if ("inf" : Str) = "nan" then none else some (sg * 2 ^ 2000, (1 : Int))) = _
          rw [if_neg (by decide +kernel)]
        rw [e] at q
        exact g_new (sz rfl) fun b H1 nb s1 hb _ => q _ _ nb s1 hb
      · refine g_eqx rfl (fun z => nomatch z) ?_
        walk_at "go"
        refine ⟨a, C, dx, _, _, rfl, hd, T.own.cl, T.nT, fl_top _ _ _, ?_⟩
        refine g_eqx rfl (fun z => nomatch z) ?_
        walk_at "go"
        refine ⟨a, C, dx, _, _, rfl, hd, T.own.cl, T.nP, fl_power _ _ _, ?_⟩
        walk_at "go"
        have q : RetT H [.int (ratN sg m p), .int (ratD p)] Q := q
        unfold ratN ratD at q
        have hhi := hfin.hi
        obtain ⟨f1, f2, f3, f4, f5⟩ := hfin
        refine g_ite (fun hp => ?_) fun hp => ?_
        · walk_at "go"
          refine ⟨a, C, dx, _, _, rfl, hd, T.own.cl, T.nS, fl_sign _ _ _, ?_⟩
          walk_at "go"
          refine ⟨a, C, dx, _, _, rfl, hd, T.own.cl, T.nT, fl_top _ _ _, ?_⟩
          refine g_mulI (sgn_mul ho.1) ?_
          walk_at "go"
          refine ⟨a, C, dx, _, _, rfl, hd, T.own.cl, T.nP, fl_power _ _ _, ?_⟩
          walk_at "go"
          refine g_II (shl_small (by omega) (by omega) (lt_pow_mono (a := 1) (by decide) (by decide))) ?_
          walk_at "go"
          rw [if_pos hp, if_pos hp] at q
          refine g_new (sz rfl) fun b H1 nb s1 hb _ => ?_
          rw [Int.one_mul] at hb
          exact q _ _ nb s1 hb
        · walk_at "go"
          refine ⟨a, C, dx, _, _, rfl, hd, T.own.cl, T.nS, fl_sign _ _ _, ?_⟩
          walk_at "go"
          refine ⟨a, C, dx, _, _, rfl, hd, T.own.cl, T.nT, fl_top _ _ _, ?_⟩
          walk_at "go"
          refine ⟨a, C, dx, _, _, rfl, hd, T.own.cl, T.nP, fl_power _ _ _, ?_⟩
          walk_at "go"
          refine g_II (shl_small (by omega) (by omega) (lt_pow_mono (a := 53) (by omega) (by decide))) ?_
          refine g_mulI (sgn_mul ho.1) ?_
          walk_at "go"
          rw [if_neg hp, if_neg hp] at q
          exact g_new (sz rfl) fun b H1 nb s1 hb _ => q _ _ nb s1 hb
/-! _law_right -/
abbrev s_Lright : Stmt := top 46
theorem sc_Lright : FnScope ["_law_one_here", "_law_other", "_law_first", "_law_second", "_law_dues", "_law_gap", "_law_told", "_law_mark"] ["_law_one_here", "_law_other"] (defScope s_Lright) := ⟨rfl, rfl, rfl, by decide +kernel, rfl, by decide +kernel, by decide +kernel⟩
theorem frc_small {n : Nm} (h : nSm n) : ∀ x y, frc n = some (x, y) → x.natAbs < 2 ^ 5000 ∧ y.natAbs < 2 ^ 5000 := by
  intro x y e
  rcases frc_cases h with ⟨_, e2⟩ | ⟨s, hs, _, e2⟩ | ⟨u, v, _, _, e1, e2⟩
  · rw [e2] at e; cases e
  · rw [e2] at e
    injection e with e
    injection e with e3 e4
    subst e3 e4
    refine ⟨?_, lt_pow_mono (a := 1) (by decide) (by decide)⟩
    rw [sgn_abs hs, Int.natAbs_pow]
    exact Nat.pow_lt_pow_right (by decide) (by decide)
  · rw [e2] at e
    injection e with e
    injection e with e3 e4
    subst e3 e4
    have := plc_small h.ok _ _ e1
    exact ⟨this.1, this.2.1⟩
def FrA (H : Hp) (o : Option (Int × Int)) (x : V) : Prop := match o with
  | none => x = .non
  | some (a, b) => ∃ p, x = .ref p ∧ H p = some (.tup [.int a, .int b])
def sp_Lright (C : Addr) : Sp := fun vs H Q _ => ∃ v u n m, vs = [v, u] ∧ NumAt C H v n ∧ NumAt C H u m ∧ nSm n ∧ nSm m ∧ ∀ H', Same H H' → Q (.bl true) H'
theorem ok_Lright {f D : Addr} {fd : FuncData} (F : FunD K "_law_right" "_law_right" (defArgs s_Lright) (defBody s_Lright) (defScope s_Lright) [] [] f fd) (B : Blt mg) (c_Lfraction : Fn P w K mg base CX0 1 "_law_fraction" ["_law_number"] [] (sp_Lfraction C)) (c_compare : Fn P w K mg base CX0 4 "compare" ["word", "one", "other"] [] (sp_compare C))
    (c_same : Fn P w K mg base CX0 4 "same" ["one", "other"] [] (sp_same C D)) : FnOk P w K mg base CX0 5 f fd ["_law_one_here", "_law_other"] (sp_Lright C) := by
  refine F.ok sc_Lright (fun vs H Q E h => ?_) (fun cdv A outer s H vs Q E hr h => ?_)
  · obtain ⟨_, _, _, _, rfl, _⟩ := h; rfl
  · obtain ⟨v, u, n, m, rfl, hn, hm, on, om, q⟩ := h
    refine ⟨_, PSs.nox (C8.pss_cut (ps_par (i := 2) (j := 3) rfl sc_Lright.nd rfl rfl (by decide) rfl rfl (pa_cons (pe_fn c_Lfraction (hr.mono (by decide)) pass0 (pa_cons (pv 0) pa_nil)) (pa_cons (pe_fn c_Lfraction (hr.mono (by decide)) pass0 (pa_cons (pv 1) pa_nil)) pa_nil)) (by rfl))
  (C8.pss_cut (ps_if (PW.pt (pw_or (pt_cmpR op_isN (pv 2) pe_non (nomark _)) (pw_or1 (pt_cmpR op_isN (pv 3) pe_non (nomark _))))) (pss_one (ps_set (i := 4) sc_Lright.nd rfl (Or.inl rfl) (pe_lstN (pa_cons pe_bl (pa_cons pe_bl (pa_cons pe_bl pa_nil)))))) (pss_cons (ps_set (i := 5) sc_Lright.nd rfl (Or.inl rfl) (pe_op op_oSub (pe_op op_oMul (pe_ix ix_seq (pv 2) pe_int (fun _ _ => rfl)) (pe_ix ix_seq (pv 3) pe_int (fun _ _ => rfl))) (pe_op op_oMul (pe_ix ix_seq (pv 3) pe_int (fun _ _ => rfl)) (pe_ix ix_seq (pv 2) pe_int (fun _ _ => rfl)))))
  (pss_one (ps_set (i := 4) sc_Lright.nd rfl (Or.inl rfl) (pe_lstN (pa_cons (pe_cmpR op_oLt (pv 5) pe_int (nomark _)) (pa_cons (pe_cmpR op_oLe (pv 5) pe_int (nomark _)) (pa_cons (pe_cmpR (op_oEq hr.units) (pv 5) pe_int (nomark _)) pa_nil))))))))
  (pss_cons (ps_set (i := 6) sc_Lright.nd rfl (Or.inl rfl) (pe_lstN (pa_cons (pe_fn c_compare (hr.mono (by decide)) pass0 (pa_cons pe_str (pa_cons (pv 0) (pa_cons (pv 1) pa_nil)))) (pa_cons (pe_fn c_compare (hr.mono (by decide)) pass0 (pa_cons pe_str (pa_cons (pv 0) (pa_cons (pv 1) pa_nil)))) (pa_cons (pe_fn c_same (hr.mono (by decide)) pass0 (pa_cons (pv 0) (pa_cons (pv 1) pa_nil))) pa_nil)))))
  (pss_one (ps_ret (pe_and (pe_cmpR (op_oEq hr.units) (pv 6) (pv 4) (nomark _)) (pe_one (pe_cmpR (op_oEq hr.units) (pe_lc (own := [("_law_mark", 7)]) (g := gName 7) rfl sc_Lright.nd (pi_list (pv 6)) (blkOk_by (own := [("_law_mark", 7)]) (N := ["_law_one_here", "_law_other", "_law_first", "_law_second", "_law_dues", "_law_gap", "_law_told", "_law_mark"]) (sc := defScope s_Lright) (by decide +kernel)) (fun _ _ _ _ _ => pg_name (i := 7) sc_Lright.nd rfl (Or.inl rfl)) (fun _ _ _ _ _ => pts_nil) (fun _ _ _ _ _ => (pe_callB (call_isiE K rfl) (by rfl) B.isinstance (by decide +kernel) (pa_cons (pv 7) (pa_cons (pe_tyBool B) pa_nil))))) (pe_op op_oMul (pe_lstN (pa_cons pe_bl pa_nil)) pe_int) (nomark _))))))))), ?_⟩
    have sn := frc_small on
    have sm := frc_small om
    have key := due_told on om
    walk_at "go"
    refine g_cut (fun σ' H2 => ∃ x y, σ' = [some v, some u, some x, some y, none, none, none, none] ∧ Same H H2 ∧ FrA H2 (frc n) x ∧ FrA H2 (frc m) y) ?_ ?_
    · walk_at "go"
      refine ⟨v, n, rfl, hn, ?_⟩
      cases en : frc n with
      | none =>
        intro H1 s1
        walk_at "go"
        refine ⟨u, m, rfl, hm.same s1, ?_⟩
        cases em : frc m with
        | none =>
          intro H2 s2
          walk_at "go"
          exact ⟨_, _, rfl, s1.trans s2, rfl, rfl⟩
        | some zw =>
          intro H2 a2 na2 s2 ha2
          walk_at "go"
          exact ⟨_, _, rfl, s1.trans s2, rfl, _, rfl, ha2⟩
      | some xy =>
        intro H1 a1 na1 s1 ha1
        walk_at "go"
        refine ⟨u, m, rfl, hm.same s1, ?_⟩
        cases em : frc m with
        | none =>
          intro H2 s2
          walk_at "go"
          exact ⟨_, _, rfl, s1.trans s2, ⟨_, rfl, s2 _ _ ha1⟩, rfl⟩
        | some zw =>
          intro H2 a2 na2 s2 ha2
          walk_at "go"
          exact ⟨_, _, rfl, s1.trans s2, ⟨_, rfl, s2 _ _ ha1⟩, _, rfl, ha2⟩
    · rintro _ H2 ⟨x, y, rfl, s2, hx, hy⟩
      refine g_cut (fun σ' H3 => ∃ d g, σ' = [some v, some u, some x, some y, some (.ref d), g, none, none] ∧ Same H H3 ∧ H3 d = some (.lst ((dueB (gapO (frc n) (frc m))).map V.bl))) ?_ ?_
      · walk_at "go"
        cases en : frc n with
        | none =>
          rw [en] at hx
          have hx : x = .non := hx
          subst hx
          refine g_yes rfl ?_
          walk_at "go"
          rw [gap_none1]
          exact g_new (sz rfl) fun d H3 nd s3 hd _ => ⟨d, _, rfl, s2.trans s3, hd⟩
        | some xy =>
          rw [en] at hx
          obtain ⟨p, rfl, hp⟩ := hx
          refine g_no (fun z => nomatch z) ?_
          walk_at "go"
          cases em : frc m with
          | none =>
            rw [em] at hy
            have hy : y = .non := hy
            subst hy
            refine g_yes rfl ?_
            walk_at "go"
            rw [gap_none]
            exact g_new (sz rfl) fun d H3 nd s3 hd _ => ⟨d, _, rfl, s2.trans s3, hd⟩
          | some zw =>
            rw [em] at hy
            obtain ⟨r, rfl, hr'⟩ := hy
            obtain ⟨p1, p2⟩ := sn _ _ en
            obtain ⟨r1, r2⟩ := sm _ _ em
            refine g_no (fun z => nomatch z) ?_
            walk_at "go"
            refine g_ixT hp rfl ?_
            walk_at "go"
            refine g_ixT hr' rfl ?_
            refine g_mulI (mul_small (lt_pow_mono p1 (by decide)) (lt_pow_mono r2 (by decide))) ?_
            walk_at "go"
            refine g_ixT hr' rfl ?_
            walk_at "go"
            refine g_ixT hp rfl ?_
            refine g_mulI (mul_small (lt_pow_mono r1 (by decide)) (lt_pow_mono p2 (by decide))) ?_
            walk_at "go"
            obtain ⟨x1, x2⟩ := xy
            obtain ⟨z1, z2⟩ := zw
            rw [gap_some]
            exact g_new (sz rfl) fun d H3 nd s3 hd _ => ⟨d, _, rfl, s2.trans s3, hd⟩
      · rintro _ H3 ⟨d, g, rfl, s3, hd⟩
        rw [key] at hd
        walk_at "go"
        refine ⟨_, v, u, n, m, rfl, hn.same s3, hm.same s3, on.ok, om.ok, fun H4 s4 => ?_⟩
        walk_at "go"
        have S4 := s3.trans s4
        refine ⟨_, v, u, n, m, rfl, hn.same S4, hm.same S4, on.ok, om.ok, fun H5 s5 => ?_⟩
        have S5 := S4.trans s5
        walk_at "go"
        refine ⟨v, u, .num n, .num m, rfl, ⟨hn.same S5, on.ok⟩, ⟨hm.same S5, om.ok⟩, fun H6 s6 => ?_⟩
        have S6 := S5.trans s6
        walk_at "go"
        refine g_new (sz rfl) fun t H7 nt s7 ht _ => ?_
        have S7 := S6.trans s7
        have hd7 := s7 _ _ (s6 _ _ (s5 _ _ (s4 _ _ hd)))
        walk_at "go"
        refine g_eqBs (bs := [cmpN "lt" n m, cmpN "le" n m, sameA (.num n) (.num m)]) ht hd7 rfl ?_
        walk_at "go"
        refine ⟨t, rfl, ⟨_, SqL.of ht⟩, fun E nE => ?_⟩
        refine lc_list (K := K) (a := t) (xs := [.bl (cmpN "lt" n m), .bl (cmpN "le" n m), .bl (sameA (.num n) (.num m))]) (fun i H' => Same H7 H' ∧ H' E = some (.lst (List.replicate i (.bl true)))) ?_ ?_ ?_ ?_
        · exact ⟨fun b o e => by rw [upd_ne (ne_of_none e nE)]; exact e, upd_same⟩
        · intro i H' _ h
          exact SqL.of (h.1 _ _ ht)
        · rintro i z H' hz ⟨h1, h2⟩
          walk_at "go"
          refine ⟨rfl, ?_⟩
          walk_at "go"
          obtain ⟨b, rfl⟩ : ∃ b, z = .bl b := by
            rcases i with _ | _ | _ | i
            · exact ⟨_, (Option.some.inj hz).symm⟩
            · exact ⟨_, (Option.some.inj hz).symm⟩
            · exact ⟨_, (Option.some.inj hz).symm⟩
            · cases hz
          refine g_isiBool kn_bl ?_
          have hi : i < 3 := by
            rcases Nat.lt_or_ge i 3 with h | h
            · exact h
            · rw [List.getElem?_eq_none (by simpa using h)] at hz
              cases hz
          refine ⟨_, h2, by rw [List.length_replicate]; exact Nat.lt_of_lt_of_le hi (sz rfl), fun b' o e => ?_, ?_⟩
          · rw [upd_ne (ne_of_none e nE)]
            exact h1 _ _ e
          · rw [upd_same]
            congr 2
            rw [List.replicate_succ']
            rfl
        · rintro H8 ⟨h1, h2⟩
          walk_at "go"
          refine g_new (sz rfl) fun l9 H9 n9 s9 h9 _ => ?_
          refine ⟨_, h9, by decide, by decide, sz rfl, fun l10 H10 n10 s10 h10 _ => ?_⟩
          refine g_eqBs (bs := [true, true, true]) (s10 _ _ (s9 _ _ h2)) h10 rfl ?_
          exact q _ (((S7.trans h1).trans s9).trans s10)
end
end Up

set_option Elab.async false
set_option linter.all false
set_option maxRecDepth 100000
set_option maxHeartbeats 4000000
set_option exponentiation.threshold 200000
namespace Up
open PySem PySem.Spec PyProof.Rows L2
local macro_rules | `(tactic| walk_at "u") => `(tactic| first
  | with_reducible refine g_seq ?_
  | with_reducible refine g_asg ?_
  | with_reducible refine g_op ?_
  | ((with_reducible show tVar _ _ _ _); apply g_var; exact rfl)
  | with_reducible refine g_c ?_
  | with_reducible refine g_name ?_
  | with_reducible refine g_ifs ?_
  | with_reducible refine g_tt ?_
  | with_reducible refine g_tB ?_
  | with_reducible refine g_bl ?_
  | with_reducible refine g_ret ?_
  | with_reducible refine g_cb ?_
  | with_reducible refine g_cons ?_
  | with_reducible refine g_nil ?_
  | with_reducible refine g_call ?_
  | with_reducible refine g_and ?_
  | with_reducible refine g_or ?_
  | with_reducible refine g_not ?_
  | with_reducible refine g_andV ?_
  | with_reducible refine g_orV ?_
  | with_reducible refine g_notV ?_
  | with_reducible refine g_if ?_
  | with_reducible refine g_un ?_
  | with_reducible refine g_neg ?_
  | with_reducible refine g_addI ?_
  | with_reducible refine g_subI ?_
  | with_reducible refine g_subB ?_
  | with_reducible refine g_I0 ?_
  | with_reducible refine g_cmpI ?_
  | with_reducible refine g_eqI ?_
  | with_reducible refine g_neI ?_
  | with_reducible refine g_eqS ?_
  | with_reducible refine g_neS ?_
  | with_reducible refine g_eqB ?_
  | with_reducible refine g_neB ?_
  | with_reducible refine g_bits ?_
  | with_reducible refine g_bitsI ?_
  | with_reducible refine g_fld ?_
  | with_reducible refine g_tup ?_
  | with_reducible refine g_lst ?_
  | with_reducible refine g_gtup ?_
  | with_reducible refine g_make ?_
  | with_reducible refine g_lc ?_
  | with_reducible refine g_yesT ?_
  | with_reducible refine g_intI ?_
  | with_reducible refine g_intB ?_
  | with_reducible refine g_max2 ?_
  | with_reducible refine g_abs1 ?_
  | with_reducible refine g_for ?_
  | with_reducible refine g_iList ?_
  | with_reducible refine g_iTup ?_
  | with_reducible refine g_iRng1 ?_
  | with_reducible refine g_iEnum ?_
  | with_reducible refine g_slice ?_
  | with_reducible refine g_po0 ?_
  | with_reducible refine g_po1 ?_
  | with_reducible refine g_gsub ?_
  | with_reducible refine g_par ?_
  | with_reducible refine g_par2 ?_
  | with_reducible refine g_rfl ?_
  | with_reducible refine g_meth ?_
  | with_reducible refine g_gcons ?_
  | with_reducible refine g_gnil ?_
  | with_reducible refine g_gfld ?_
  | with_reducible refine g_sfld ?_
  | with_reducible refine g_drop ?_
  | with_reducible refine g_next ?_
  | with_reducible refine iteT ?_
  | with_reducible refine iteF ?_)
local macro_rules | `(tactic| walk_at "go") => `(tactic| (repeat walk_at "u"))

/-! ### x in a tuple of data -/
def rInTD (K : PySem.W.Frag) : R2 := fun x y H Q => ∃ d ds, Dp K H x d ∧ Dp K H y (.tuple ds) ∧ SeqAt.shaped d = true ∧ SeqAt.shaped (.tuple ds) = true ∧ Q (.bl (ds.any fun z => PyData.eqv z d)) H
theorem op_inTD {X : Cx} (hu : X.A.units + 65 < cLine) : OpR X (compareOp .In) (rInTD X.K) := by
  intro pins s σ H x y v u Q I rx ry h
  obtain ⟨d, ds, hd, he, sd, se, q⟩ := h
  obtain ⟨as, r1⟩ := Dp.reads I d x v hd rx
  obtain ⟨bs, r2⟩ := Dp.reads I (.tuple ds) y u he ry
  exact SeqAt.in_tuple_reads r2 r1 (SeqAt.canLay_of_shaped se) (SeqAt.canLay_of_shaped sd) (room_in_shaped sd hu) ⟨.bl _, H, I, rfl, q⟩
section
variable {P : Program} {w : World} {K : PySem.W.Frag} {mg : Str → Option Value} {base : Heap} {C D : Addr}
/-! power_for -/
abbrev s_powerfor : Stmt := top 36
theorem sc_powerfor : FnScope ["count"] ["count"] (defScope s_powerfor) := ⟨rfl, rfl, rfl, by decide +kernel, rfl, by decide +kernel, by decide +kernel⟩
def powF (n : Nat) : Nat := if n = 0 then 0 else 2 ^ bitsN (n - 1)
def sp_powerfor : Sp := fun vs H Q _ => ∃ n : Nat, vs = [.int n] ∧ n ≤ 100000 ∧ Q (.int (powF n : Nat)) H
theorem ok_powerfor {f : Addr} {fd : FuncData} (F : FunD K "power_for" "power_for" (defArgs s_powerfor) (defBody s_powerfor) (defScope s_powerfor) [] [] f fd) (B : Blt mg) : FnOk P w K mg base CX0 1 f fd ["count"] sp_powerfor := by
  refine F.ok sc_powerfor (fun vs H Q E h => ?_) (fun cdv A outer s H vs Q E hr h => ?_)
  · obtain ⟨n, rfl, _⟩ := h; rfl
  · obtain ⟨n, rfl, hn, q⟩ := h
    refine ⟨_, PSs.nox (pss_one (ps_ret (pe_ifExp (pt_cmpR (op_oEq hr.units) (pv 0) pe_int (nomark _)) pe_int (pe_op op_oShl pe_int (pe_bits (pe_op op_oSub (pv 0) pe_int)))))), ?_⟩
    walk_at "go"
    refine g_ite (fun h0 => ?_) fun h0 => ?_
    · walk_at "go"
      have e : powF n = 0 := if_pos (by omega)
      rw [e] at q
      exact q
    · walk_at "go"
      have e1 : ((n : Int) - 1) = ((n - 1 : Nat) : Int) := by omega
      rw [e1, intBits_nat]
      have hb : bitsN (n - 1) ≤ 17 := bits_le (by have : (100000 : Nat) < 2 ^ 17 := by decide
                                                  omega)
      refine g_II (shl_small (by omega) (by omega) (lt_pow_mono (a := 1) (by decide) (by decide))) ?_
      have e : powF n = 2 ^ bitsN (n - 1) := if_neg (by omega)
      rw [e] at q
      rw [Int.one_mul, Int.toNat_natCast]
      rw [Int.natCast_pow] at q
      exact q
/-! Table(number, array, nodes) -/
def tbF (n m : V) (la ln : Addr) (k : Nat) : List (Str × V) := [("number", n), ("meta", m), ("array", .ref la), ("nodes", .ref ln), ("free", .int k)]
structure TbC (K : PySem.W.Frag) (mg : Str → Option Value) (D : Addr) : Prop where
  own : OwnC K D
  n1 : NoAttr K D "number"
  n2 : NoAttr K D "meta"
  n3 : NoAttr K D "array"
  n4 : NoAttr K D "nodes"
  n5 : NoAttr K D "free"
  mg : mg "Table" = some (.ref D)
abbrev s_Table_init : Stmt := inClass (top 37) 0
theorem sc_Table_init : FnScope ["self", "number", "array", "nodes", "meta"] ["self", "number", "array", "nodes", "meta"] (defScope s_Table_init) := ⟨rfl, rfl, rfl, by decide +kernel, rfl, by decide +kernel, by decide +kernel⟩
def sp_Tinit (D : Addr) : Sp := fun vs H Q _ => ∃ (a dx : Addr) (n m : V) (ar nd : Nat), vs = [.ref a, n, .int ar, .int nd, m] ∧ H a = some (.ins D dx []) ∧ ar ≤ 100000 ∧ nd ≤ 100000 ∧ powF nd ≤ 200000 ∧
  ∀ H' la ln, (∀ b o, b ≠ a → H b = some o → H' b = some o) → H la = none → H ln = none → la ≠ ln → H' a = some (.ins D dx (tbF n m la ln (powF nd))) → H' la = some (.lst (List.replicate ar .non)) → H' ln = some (.lst (List.replicate (powF nd) .non)) → Q .non H'
theorem flat_non : ∀ n : Nat, (List.replicate n [V.non]).flatten = List.replicate n V.non
  | 0 => rfl
  | n + 1 => by rw [List.replicate_succ, List.flatten_cons, flat_non n]; rfl
theorem ok_Tinit {f : Addr} {fd : FuncData} (F : FunD K "__init__" "Table.__init__" (defArgs s_Table_init) (defBody s_Table_init) (defScope s_Table_init) [.int 0, .int 0] [("meta", .non)] f fd) (B : Blt mg) (T : TbC K mg D) (c_powerfor : Fn P w K mg base CX0 1 "power_for" ["count"] [] sp_powerfor) :
    FnOk P w K mg base CX0 2 f fd ["self", "number", "array", "nodes", "meta"] (sp_Tinit D) := by
  refine F.ok sc_Table_init (fun vs H Q E h => ?_) (fun cdv A outer s H vs Q E hr h => ?_)
  · obtain ⟨_, _, _, _, _, _, rfl, _⟩ := h; rfl
  · obtain ⟨a, dx, n, m, ar, nd, rfl, ha, har, hnd, hpw, q⟩ := h
    refine ⟨_, PSs.nox (pss_cons (ps_fld (pv 0) (pv 1) rfl)
  (pss_cons (ps_fld (pv 0) (pv 4) rfl)
  (pss_cons (ps_fld (pv 0) (pe_op op_oMul (pe_lstN (pa_cons pe_non pa_nil)) (pv 2)) rfl)
  (pss_cons (ps_fld (pv 0) (pe_op op_oMul (pe_lstN (pa_cons pe_non pa_nil)) (pe_fn c_powerfor (hr.mono (by decide)) pass0 (pa_cons (pv 3) pa_nil))) rfl)
  (pss_one (ps_fld (pv 0) (pe_callB call_len_seq (by rfl) B.len (by decide +kernel) (pa_cons (pe_fld (pv 0) rfl) pa_nil)) rfl)))))), ?_⟩
    walk_at "go"
    refine ⟨a, D, dx, _, rfl, ha, T.own.cl, T.n1, Nat.le_of_ble_eq_true rfl, ?_⟩
    walk_at "go"
    refine ⟨a, D, dx, _, rfl, upd_same, T.own.cl, T.n2, Nat.le_of_ble_eq_true rfl, ?_⟩
    rw [upd_upd]
    generalize e1 : upd H a (.ins D dx (putF "meta" m (putF "number" n []))) = H1
    have h1 : H1 a = some (.ins D dx (putF "meta" m (putF "number" n []))) := by rw [← e1]; exact upd_same
    have k1 : ∀ b o, b ≠ a → H b = some o → H1 b = some o := fun b o hb e => by rw [← e1, upd_ne hb]; exact e
    have z1 : ∀ b, H1 b = none → H b = none := fun b e => by
      by_cases hb : b = a
      · rw [hb, h1] at e; cases e
      · rw [← e1, upd_ne hb] at e; exact e
    walk_at "go"
    refine g_new (sz rfl) fun l2 H2 n2 s2 h2 _ => ?_
    walk_at "go"
    refine ⟨_, h2, by omega, by omega, ?_, fun la H3 n3 s3 h3 _ => ?_⟩
    · rw [Int.toNat_natCast]
      exact Nat.le_trans (show 1 * ar ≤ 100000 by omega) (by decide)
    rw [Int.toNat_natCast, flat_non] at h3
    walk_at "go"
    refine ⟨a, D, dx, _, rfl, s3 _ _ (s2 _ _ h1), T.own.cl, T.n3, Nat.le_of_ble_eq_true rfl, ?_⟩
    have nla : la ≠ a := fun z => by rw [z, s2 _ _ h1] at n3; cases n3
    generalize e4 : upd H3 a _ = H4
    have h4 : H4 a = some (.ins D dx (putF "array" (.ref la) (putF "meta" m (putF "number" n [])))) := by rw [← e4]; exact upd_same
    have k4 : ∀ b o, b ≠ a → H3 b = some o → H4 b = some o := fun b o hb e => by rw [← e4, upd_ne hb]; exact e
    walk_at "go"
    refine g_new (sz rfl) fun l5 H5 n5 s5 h5 _ => ?_
    walk_at "go"
    refine ⟨nd, rfl, hnd, ?_⟩
    refine ⟨_, h5, by omega, by omega, ?_, fun ln H6 n6 s6 h6 _ => ?_⟩
    · rw [Int.toNat_natCast]
      exact Nat.le_trans (show 1 * powF nd ≤ 200000 by omega) (by decide)
    rw [Int.toNat_natCast, flat_non] at h6
    walk_at "go"
    refine ⟨a, D, dx, _, rfl, s6 _ _ (s5 _ _ h4), T.own.cl, T.n4, Nat.le_of_ble_eq_true rfl, ?_⟩
    have nlna : ln ≠ a := fun z => by rw [z, s5 _ _ h4] at n6; cases n6
    generalize e7 : upd H6 a _ = H7
    have h7 : H7 a = some (.ins D dx (putF "nodes" (.ref ln) (putF "array" (.ref la) (putF "meta" m (putF "number" n []))))) := by rw [← e7]; exact upd_same
    have k7 : ∀ b o, b ≠ a → H6 b = some o → H7 b = some o := fun b o hb e => by rw [← e7, upd_ne hb]; exact e
    walk_at "go"
    refine ⟨a, D, dx, _, _, rfl, h7, T.own.cl, T.n4, rfl, ?_⟩
    walk_at "go"
    refine g_lenL (k7 _ _ nlna h6) ?_
    walk_at "go"
    refine ⟨a, D, dx, _, rfl, h7, T.own.cl, T.n5, Nat.le_of_ble_eq_true rfl, ?_⟩
    rw [List.length_replicate]
    have h34 := k4 _ _ nla h3
    refine q _ la ln (fun b o hb e => ?_) (z1 _ (s2.free n3)) ?_ ?_ upd_same ?_ ?_
    · rw [upd_ne hb]
      exact k7 _ _ hb (s6 _ _ (s5 _ _ (k4 _ _ hb (s3 _ _ (s2 _ _ (k1 _ _ hb e))))))
    · have x := s5.free n6
      rw [← e4, upd_ne nlna] at x
      exact z1 _ (s2.free (s3.free x))
    · intro z
      rw [← z] at n6
      rw [s5 _ _ h34] at n6
      cases n6
    · rw [upd_ne nla]
      exact k7 _ _ nla (s6 _ _ (s5 _ _ h34))
    · rw [upd_ne nlna]
      exact k7 _ _ nlna h6
end
end Up

set_option Elab.async false
set_option linter.all false
set_option maxRecDepth 100000
set_option maxHeartbeats 4000000
set_option exponentiation.threshold 200000
namespace Up
open PySem PySem.Spec PyProof.Rows L2
local macro_rules | `(tactic| walk_at "u") => `(tactic| first
  | with_reducible refine g_seq ?_
  | with_reducible refine g_asg ?_
  | with_reducible refine g_op ?_
  | ((with_reducible show tVar _ _ _ _); apply g_var; exact rfl)
  | with_reducible refine g_c ?_
  | with_reducible refine g_name ?_
  | with_reducible refine g_ifs ?_
  | with_reducible refine g_tt ?_
  | with_reducible refine g_tB ?_
  | with_reducible refine g_bl ?_
  | with_reducible refine g_ret ?_
  | with_reducible refine g_cb ?_
  | with_reducible refine g_cons ?_
  | with_reducible refine g_nil ?_
  | with_reducible refine g_call ?_
  | with_reducible refine g_and ?_
  | with_reducible refine g_or ?_
  | with_reducible refine g_not ?_
  | with_reducible refine g_andV ?_
  | with_reducible refine g_orV ?_
  | with_reducible refine g_notV ?_
  | with_reducible refine g_if ?_
  | with_reducible refine g_un ?_
  | with_reducible refine g_neg ?_
  | with_reducible refine g_addI ?_
  | with_reducible refine g_subI ?_
  | with_reducible refine g_subB ?_
  | with_reducible refine g_I0 ?_
  | with_reducible refine g_cmpI ?_
  | with_reducible refine g_eqI ?_
  | with_reducible refine g_neI ?_
  | with_reducible refine g_eqS ?_
  | with_reducible refine g_neS ?_
  | with_reducible refine g_eqB ?_
  | with_reducible refine g_neB ?_
  | with_reducible refine g_bits ?_
  | with_reducible refine g_bitsI ?_
  | with_reducible refine g_fld ?_
  | with_reducible refine g_tup ?_
  | with_reducible refine g_lst ?_
  | with_reducible refine g_gtup ?_
  | with_reducible refine g_make ?_
  | with_reducible refine g_lc ?_
  | with_reducible refine g_yesT ?_
  | with_reducible refine g_intI ?_
  | with_reducible refine g_intB ?_
  | with_reducible refine g_max2 ?_
  | with_reducible refine g_abs1 ?_
  | with_reducible refine g_for ?_
  | with_reducible refine g_iList ?_
  | with_reducible refine g_iTup ?_
  | with_reducible refine g_iRng1 ?_
  | with_reducible refine g_iEnum ?_
  | with_reducible refine g_slice ?_
  | with_reducible refine g_po0 ?_
  | with_reducible refine g_po1 ?_
  | with_reducible refine g_gsub ?_
  | with_reducible refine g_par ?_
  | with_reducible refine g_par2 ?_
  | with_reducible refine g_rfl ?_
  | with_reducible refine g_meth ?_
  | with_reducible refine g_gcons ?_
  | with_reducible refine g_gnil ?_
  | with_reducible refine g_gfld ?_
  | with_reducible refine g_sfld ?_
  | with_reducible refine g_drop ?_
  | with_reducible refine g_next ?_
  | with_reducible refine iteT ?_
  | with_reducible refine iteF ?_)
local macro_rules | `(tactic| walk_at "go") => `(tactic| (repeat walk_at "u"))

section
variable {P : Program} {w : World} {K : PySem.W.Frag} {mg : Str → Option Value} {base : Heap} {C D : Addr}
/-! _law_numbers -/
abbrev s_Lnumbers : Stmt := top 47
theorem sc_Lnumbers : FnScope ["_law_well_here", "_law_found", "_law_number", "_law_near", "_law_some"] ["_law_well_here"] (defScope s_Lnumbers) := ⟨rfl, rfl, rfl, by decide +kernel, rfl, by decide +kernel, by decide +kernel⟩
def Nums (C : Addr) (H : Hp) (xs : List V) : Prop := ∀ v ∈ xs, ∃ n, NumAt C H v n ∧ nSm n
theorem Nums.same {H H' : Hp} {xs : List V} (h : Nums C H xs) (s : Same H H') : Nums C H' xs := fun v hv => by
  obtain ⟨n, h1, h2⟩ := h v hv
  exact ⟨n, h1.same s, h2⟩
theorem Nums.stp {a : Addr} {H H' : Hp} {xs : List V} (h : Nums C H xs) (hw : Well H a) (s : Stp a H H') : Nums C H' xs := fun v hv => by
  obtain ⟨n, h1, h2⟩ := h v hv
  exact ⟨n, h1.stp hw s, h2⟩
theorem Nums.nil {H : Hp} : Nums C H [] := fun v hv => by cases hv
theorem Nums.cons {H : Hp} {v : V} {xs : List V} {n : Nm} (h : NumAt C H v n) (o : nSm n) (t : Nums C H xs) : Nums C H (v :: xs) := fun u hu => by
  rcases List.mem_cons.mp hu with rfl | hu
  · exact ⟨n, h, o⟩
  · exact t u hu
theorem Nums.int {H : Hp} {k : Int} {xs : List V} (o : k.natAbs < 2 ^ 1000) (t : Nums C H xs) : Nums C H (.int k :: xs) := t.cons (n := .i k) rfl o
theorem Nums.fl {H : Hp} {a : Addr} {s : Int} {tp : V} {p : Int} {xs : List V} (h : FlAt C H a s (redV tp p).1 (redV tp p).2) (o : MkOk s tp p) (t : Nums C H xs) : Nums C H (.ref a :: xs) := t.cons (n := .f _ _ _) ⟨a, rfl, h, mk_flok o⟩ (mk_flok o)
theorem Nums.app {H : Hp} {xs ys : List V} (h : Nums C H xs) (k : Nums C H ys) : Nums C H (xs ++ ys) := fun v hv => by
  rcases List.mem_append.mp hv with hv | hv
  · exact h v hv
  · exact k v hv
theorem tf_mk (k : Int) : MkOk (tfS k) (nearV k.natAbs 1).1 (nearV k.natAbs 1).2 := near_mk (by unfold tfS; split <;> simp) (by decide)
/-- a float made again of its own parts -/
theorem mk_again {s : Int} {t : V} {p : Int} (h : FlOk s t p) : MkOk s t p := by
  obtain ⟨hs, h⟩ := h
  rcases h with ⟨rfl, h1, rfl⟩ | ⟨rfl, rfl⟩ | ⟨n, rfl, f1, f2, f3, f4, f5⟩
  · exact ⟨hs, .inl ⟨rfl, h1, rfl⟩⟩
  · exact ⟨hs, .inr (.inl ⟨rfl, rfl⟩)⟩
  · obtain ⟨k, rfl⟩ := Int.eq_ofNat_of_zero_le f1
    rw [intBits_nat] at f4
    exact mk_of_flok hs (by omega) f3 f4
theorem small64 {k : Int} (h1 : -(2 ^ 65) ≤ k) (h2 : k ≤ 2 ^ 65) : k.natAbs < 2 ^ 1000 := lt_pow_mono (a := 66) (by omega) (by decide)
theorem big64 {k : Int} (h1 : -(2 ^ 65) ≤ k) (h2 : k ≤ 2 ^ 65) : bigOk k := lt_pow_mono (a := 66) (by omega) (by decide)
def sp_Lnumbers (C : Addr) : Sp := fun vs H Q _ => ∃ a : Addr, vs = [.ref a] ∧ Well H a ∧ ∀ l xs H', Stp a H H' → Well H' a → l ≠ a → H' l = some (.lst xs) → xs.length ≤ 100 → Nums C H' xs → Q (.ref l) H'
theorem ok_Lnumbers {f : Addr} {fd : FuncData} (F : FunD K "_law_numbers" "_law_numbers" (defArgs s_Lnumbers) (defBody s_Lnumbers) (defScope s_Lnumbers) [] [] f fd) (B : Blt mg) (T : FlC K mg C) (c_Float : CnF P w K mg base C) (c_Ldraw : Fn P w K mg base CX0 1 "_law_draw" ["_law_well_here", "_law_many"] [] sp_Ldraw) (c_Lone : Fn P w K mg base CX0 2 "_law_one" ["_law_well_here", "_law_some"] [] sp_Lone)
    (c_Lgreat : Fn P w K mg base CX0 2 "_law_great" ["_law_well_here", "_law_bits"] [] sp_Lgreat) (c_Lfloat : Fn P w K mg base CX0 4 "_law_float" ["_law_well_here"] [] (sp_Lfloat C)) (c_tofloat : Fn P w K mg base CX0 6 "to_float" ["number"] [] (sp_tofloat C)) :
    FnOk P w K mg base CX0 7 f fd ["_law_well_here"] (sp_Lnumbers C) := by
  refine F.ok sc_Lnumbers (fun vs H Q E h => ?_) (fun cdv A outer s H vs Q E hr h => ?_)
  · obtain ⟨a, rfl, _⟩ := h; rfl
  · obtain ⟨a, rfl, hw, q⟩ := h
    refine ⟨_, PSs.nox (pss_cons (ps_set (i := 1) sc_Lnumbers.nd rfl (Or.inl rfl) (pe_lstN (pa_cons (pe_fn c_Lfloat (hr.mono (by decide)) pass0 (pa_cons (pv 0) pa_nil)) (pa_cons (pe_fn c_Lfloat (hr.mono (by decide)) pass0 (pa_cons (pv 0) pa_nil)) pa_nil))))
  (pss_cons (ps_set (i := 2) sc_Lnumbers.nd rfl (Or.inl rfl) (pe_op op_oSub (pe_fn c_Lgreat (hr.mono (by decide)) pass0 (pa_cons (pv 0) (pa_cons (pe_fn c_Lone (hr.mono (by decide)) pass0 (pa_cons (pv 0) (pa_cons (pe_lstN (pa_cons pe_int (pa_cons pe_int (pa_cons pe_int pa_nil)))) pa_nil))) pa_nil))) (pe_op op_oShl pe_int pe_int)))
  (pss_cons (ps_set (i := 2) sc_Lnumbers.nd rfl (Or.inl rfl) (pe_fn c_Lone (hr.mono (by decide)) pass0 (pa_cons (pv 0) (pa_cons (pe_lstN (pa_cons (pv 2) (pa_cons (pe_op op_oSub pe_int (pe_op op_oDiv (pv 2) pe_int)) (pa_cons (pe_op op_oSub (pe_fn c_Ldraw (hr.mono (by decide)) pass0 (pa_cons (pv 0) (pa_cons pe_int pa_nil))) pe_int) (pa_cons (pe_op op_oSub (pe_op op_oAdd (pe_op op_oShl pe_int pe_int) (pe_fn c_Ldraw (hr.mono (by decide)) pass0 (pa_cons (pv 0) (pa_cons pe_int pa_nil)))) pe_int) pa_nil))))) pa_nil))))
  (pss_cons (ps_set (i := 3) sc_Lnumbers.nd rfl (Or.inl rfl) (pe_fn c_tofloat (hr.mono (by decide)) pass0 (pa_cons (pv 2) pa_nil)))
  (pss_cons (ps_set (i := 1) sc_Lnumbers.nd rfl (Or.inl rfl) (pe_op op_oAdd (pv 1) (pe_lstN (pa_cons (pv 2) (pa_cons (pv 3) (pa_cons (pe_cn c_Float (hr.mono (by decide)) pass0 (pa_cons pe_int (pa_cons pe_int (pa_cons pe_int pa_nil)))) (pa_cons (pe_cn c_Float (hr.mono (by decide)) pass0 (pa_cons (pe_un un_neg pe_int) (pa_cons pe_int (pa_cons pe_int pa_nil)))) (pa_cons pe_int (pa_cons (pe_cn c_Float (hr.mono (by decide)) pass0 (pa_cons pe_int (pa_cons pe_int (pa_cons pe_int pa_nil)))) (pa_cons (pe_op op_oSub (pe_op op_oShl pe_int pe_int) pe_int) (pa_cons (pe_un un_neg (pe_op op_oShl pe_int pe_int)) pa_nil)))))))))))
  (pss_cons (ps_set (i := 4) sc_Lnumbers.nd rfl (Or.inl rfl) (pe_callB (call_min2 rfl) (by rfl) B.min (by decide +kernel) (pa_cons (pe_op op_oSub (pe_op op_oShl pe_int pe_int) pe_int) (pa_cons (pe_callB (call_max2 rfl) (by rfl) B.max (by decide +kernel) (pa_cons (pe_un un_neg (pe_op op_oShl pe_int pe_int)) (pa_cons (pe_op op_oAdd (pv 2) (pe_fn c_Lone (hr.mono (by decide)) pass0 (pa_cons (pv 0) (pa_cons (pe_lstN (pa_cons pe_int (pa_cons (pe_un un_neg pe_int) (pa_cons pe_int (pa_cons (pe_un un_neg pe_int) pa_nil))))) pa_nil)))) pa_nil))) pa_nil))))
  (pss_one (ps_ret (pe_op op_oAdd (pv 1) (pe_lstN (pa_cons (pv 4) (pa_cons (pe_fn c_tofloat (hr.mono (by decide)) pass0 (pa_cons (pv 4) pa_nil)) (pa_cons (pe_cn c_Float (hr.mono (by decide)) pass0 (pa_cons (pe_fld (pv 3) rfl) (pa_cons (pe_fld (pv 3) rfl) (pa_cons (pe_fld (pv 3) rfl) pa_nil)))) (pa_cons (pe_cn c_Float (hr.mono (by decide)) pass0 (pa_cons pe_int (pa_cons pe_str (pa_cons pe_int pa_nil)))) pa_nil)))))))))))))), ?_⟩
    walk_at "go"
    refine ⟨a, rfl, hw, fun v1 H1 sg1 t1 p1 s1 hw1 m1 => ?_⟩
    walk_at "go"
    refine ⟨a, rfl, hw1, fun v2 H2 sg2 t2 p2 s2 hw2 m2 => ?_⟩
    walk_at "go"
    have m1 := m1.stp hw1 s2
    refine g_new (sz rfl) fun l3 H3 n3 s3 h3 _ => ?_
    have S3 := (s1.trans s2).trans (Stp.of s3)
    have hw3 := hw2.same s3
    have l3a := hw2.ne_none n3
    have o1 : FlOk sg1 t1 p1 := by obtain ⟨_, _, _, h⟩ := m1; exact h
    have o2 : FlOk sg2 t2 p2 := by obtain ⟨_, _, _, h⟩ := m2; exact h
    have N3 : Nums C H3 [v1, v2] := (Nums.cons (m1.same s3) o1 (Nums.cons (m2.same s3) o2 Nums.nil))
    walk_at "go"
    refine g_new (sz rfl) fun l4 H4 n4 s4 h4 _ => ?_
    refine ⟨a, l4, _, rfl, hw3.same s4, h4, hw3.ne_none n4, by decide, by decide, fun v H5 hv s5 hw5 => ?_⟩
    have e5 := (Stp.of (w := a) s4).trans s5
    obtain ⟨b, rfl, hb⟩ : ∃ b, v = .int b ∧ 0 ≤ b ∧ b ≤ 64 := by
      simp only [List.mem_cons, List.not_mem_nil, or_false] at hv
      rcases hv with rfl | rfl | rfl <;> exact ⟨_, rfl, by decide, by decide⟩
    walk_at "go"
    refine ⟨a, b, rfl, hb.1, by omega, hw5, fun g H6 g0 g1 s6 hw6 => ?_⟩
    have e6 := e5.trans s6
    have g1 : g < 2 ^ 64 := by
      have : (2 : Int) ^ b.toNat ≤ 2 ^ 64 := by exact_mod_cast Nat.pow_le_pow_right (show 0 < 2 by decide) (show b.toNat ≤ 64 by omega)
      omega
    walk_at "go"
    refine g_II (shl_small (by decide) (by decide) (lt_pow_mono (a := 1) (by decide) (by decide))) ?_
    walk_at "go"
    have e63 : (1 : Int) * 2 ^ Int.toNat 63 = 9223372036854775808 := by decide
    rw [e63]
    refine g_divI (by decide) (by decide) ?_
    walk_at "go"
    refine ⟨a, _, rfl, by decide, by decide, hw6, fun d7 H7 a7 b7 s7 hw7 => ?_⟩
    walk_at "go"
    refine g_II (shl_small (by decide) (by decide) (lt_pow_mono (a := 1) (by decide) (by decide))) ?_
    walk_at "go"
    refine ⟨a, _, rfl, by decide, by decide, hw7, fun d8 H8 a8 b8 s8 hw8 => ?_⟩
    walk_at "go"
    refine g_new (sz rfl) fun l9 H9 n9 s9 h9 _ => ?_
    refine ⟨a, l9, _, rfl, hw8.same s9, h9, hw8.ne_none n9, by simp, by simp, fun v H10 hv s10 hw10 => ?_⟩
    have e10 := (((e6.trans s7).trans s8).trans (Stp.of s9)).trans s10
    have e53 : (1 : Int) * 2 ^ Int.toNat 53 = 9007199254740992 := by decide
    have ef : (g - 9223372036854775808).fdiv 2 = (g - 9223372036854775808) / 2 := Int.fdiv_eq_ediv_of_nonneg _ (by decide)
    obtain ⟨k, rfl, hk⟩ : ∃ k, v = .int k ∧ -(2 ^ 64) ≤ k ∧ k ≤ 2 ^ 64 := by
      simp only [List.mem_cons, List.not_mem_nil, or_false] at hv
      rcases hv with rfl | rfl | rfl | rfl <;> exact ⟨_, rfl, by omega, by omega⟩
    walk_at "go"
    refine ⟨.int k, .i k, rfl, rfl, big64 (by omega) (by omega), fun H11 x11 n11 s11 f11 => ?_⟩
    have e11 := e10.trans (Stp.of s11)
    have hw11 := hw10.same s11
    have N11 := N3.stp hw3 e11
    have h3b := e11 _ _ l3a h3
    walk_at "go"
    refine mkF (mk_of_flok (n := 0) (.inl rfl) (by decide) (by decide) (by decide)) fun H12 x12 n12 s12 f12 => ?_
    walk_at "go"
    refine mkF (mk_of_flok (n := 0) (.inr rfl) (by decide) (by decide) (by decide)) fun H13 x13 n13 s13 f13 => ?_
    walk_at "go"
    refine mkF (mk_of_flok (n := 1) (.inl rfl) (by decide) (by decide) (by decide)) fun H14 x14 n14 s14 f14 => ?_
    walk_at "go"
    refine g_II (shl_small (by decide) (by decide) (lt_pow_mono (a := 1) (by decide) (by decide))) ?_
    walk_at "go"
    refine g_II (shl_small (by decide) (by decide) (lt_pow_mono (a := 1) (by decide) (by decide))) ?_
    walk_at "go"
    refine g_new (sz rfl) fun l15 H15 n15 s15 h15 _ => ?_
    have S15 := ((s12.trans s13).trans s14).trans s15
    refine .inl ⟨l3, l15, _, _, rfl, rfl, SqL.of (S15 _ _ h3b), SqL.of h15, sz rfl, fun l16 H16 n16 s16 h16 _ => ?_⟩
    have N15 : Nums C H15 [.int k, .ref x11, .ref x12, .ref x13, .int 0, .ref x14, .int (1 * 2 ^ Int.toNat 63 - 1), .int (-(1 * 2 ^ Int.toNat 63))] :=
      Nums.int (small64 (by omega) (by omega)) (Nums.fl (f11.same S15) (tf_mk k) (Nums.fl (f12.same ((s13.trans s14).trans s15)) (mk_of_flok (n := 0) (.inl rfl) (by decide) (by decide) (by decide))
        (Nums.fl (f13.same (s14.trans s15)) (mk_of_flok (n := 0) (.inr rfl) (by decide) (by decide) (by decide)) (Nums.int (small64 (by decide) (by decide)) (Nums.fl (f14.same s15) (mk_of_flok (n := 1) (.inl rfl) (by decide) (by decide) (by decide))
          (Nums.int (small64 (by decide) (by decide)) (Nums.int (small64 (by decide) (by decide)) Nums.nil)))))))
    have N16 := ((N11.same S15).app N15).same s16
    have S16 := S15.trans s16
    have hw16 := hw11.same S16
    have l16a := (hw11.same S15).ne_none n16
    walk_at "go"
    refine g_II (shl_small (by decide) (by decide) (lt_pow_mono (a := 1) (by decide) (by decide))) ?_
    walk_at "go"
    refine g_II (shl_small (by decide) (by decide) (lt_pow_mono (a := 1) (by decide) (by decide))) ?_
    walk_at "go"
    refine g_new (sz rfl) fun l17 H17 n17 s17 h17 _ => ?_
    refine ⟨a, l17, _, rfl, hw16.same s17, h17, hw16.ne_none n17, by decide, by decide, fun v H18 hv s18 hw18 => ?_⟩
    have e18 := (Stp.of (w := a) s17).trans s18
    obtain ⟨j, rfl, hj⟩ : ∃ j, v = .int j ∧ -600 ≤ j ∧ j ≤ 600 := by
      simp only [List.mem_cons, List.not_mem_nil, or_false] at hv
      rcases hv with rfl | rfl | rfl | rfl <;> exact ⟨_, rfl, by decide, by decide⟩
    have N18 := N16.stp hw16 e18
    have h16b := e18 _ _ l16a h16
    have f18 : FlAt C H18 x11 _ _ _ := (f11.same S16).stp hw16 e18
    walk_at "go"
    rw [e63]
    obtain ⟨z, hz, hz1, hz2⟩ : ∃ z : Int, (if (if k + j > -9223372036854775808 then k + j else -9223372036854775808) < 9223372036854775808 - 1 then (if k + j > -9223372036854775808 then k + j else -9223372036854775808) else 9223372036854775808 - 1) = z ∧ -(2 ^ 65) ≤ z ∧ z ≤ 2 ^ 65 := by
      refine ⟨_, rfl, ?_, ?_⟩
      · split <;> split <;> omega
      · split <;> split <;> omega
    rw [hz]
    refine ⟨.int z, .i z, rfl, rfl, big64 hz1 hz2, fun H19 x19 n19 s19 f19 => ?_⟩
    obtain ⟨dx, fx⟩ := f18.same s19
    walk_at "go"
    refine ⟨x11, C, dx, _, _, rfl, fx, T.own.cl, T.nS, fl_sign _ _ _, ?_⟩
    walk_at "go"
    refine ⟨x11, C, dx, _, _, rfl, fx, T.own.cl, T.nT, fl_top _ _ _, ?_⟩
    walk_at "go"
    refine ⟨x11, C, dx, _, _, rfl, fx, T.own.cl, T.nP, fl_power _ _ _, ?_⟩
    walk_at "go"
    refine mkF (mk_again (mk_flok (tf_mk k))) fun H20 x20 n20 s20 f20 => ?_
    walk_at "go"
    refine mkF mk_nan fun H21 x21 n21 s21 f21 => ?_
    walk_at "go"
    refine g_new (sz rfl) fun l22 H22 n22 s22 h22 _ => ?_
    have S22 := ((s19.trans s20).trans s21).trans s22
    refine .inl ⟨l16, l22, _, _, rfl, rfl, SqL.of (S22 _ _ h16b), SqL.of h22, sz rfl, fun l23 H23 n23 s23 h23 _ => ?_⟩
    have N22 : Nums C H22 [.int z, .ref x19, .ref x20, .ref x21] := Nums.int (small64 hz1 hz2) (Nums.fl (f19.same ((s20.trans s21).trans s22)) (tf_mk z) (Nums.fl (f20.same (s21.trans s22)) (mk_again (mk_flok (tf_mk k))) (Nums.fl (f21.same s22) mk_nan Nums.nil)))
    have hw22 := hw18.same S22
    exact q l23 _ H23 ((((S3.trans e11).trans (Stp.of S16)).trans e18).trans (Stp.of (S22.trans s23))) (hw22.same s23) (hw22.ne_none n23) h23 (Nat.le_of_ble_eq_true rfl) (((N18.same S22).app N22).same s23)
/-! _law_others_right -/
abbrev s_Lothersright : Stmt := top 48
theorem sc_Lothersright : FnScope ["_law_well_here", "_law_tables", "_law_word", "_law_some", "_law_at", "_law_one_here", "_law_k", "_law_other", "_law_due"] ["_law_well_here"] (defScope s_Lothersright) := ⟨rfl, rfl, rfl, by decide +kernel, rfl, by decide +kernel, by decide +kernel⟩
theorem str_app_ne (x : Str) : ¬ (x = x ++ ("x" : Str)) := by
  intro h
  have h2 := congrArg (fun z : Str => z.cps.size) h
  have e : (x ++ ("x" : Str)).cps.size = x.cps.size + 1 := by
    show (x.cps ++ ("x" : Str).cps).size = _
    rw [Array.size_append]
    rfl
  rw [e] at h2
  omega
/-- the values, and what each one is -/
def othV (fa fb : Addr) (x : Str) (ta tb : Addr) : List V := [.non, .bl true, .bl false, .int 0, .int 1, .ref fa, .ref fb, .str x, .str (x ++ ("x" : Str)), .ref ta, .ref tb]
def othA (x : Str) (ta tb : Addr) : List Any := [.non, .bl true, .bl false, .num (.i 0), .num (.i 1), .num (.f 1 (.int 1) 0), .num (.f 1 (.int 0) 0), .str x, .str (x ++ ("x" : Str)), .obj ta, .obj tb]
def dueN (i j : Nat) : Bool := decide (i = j) || (decide (min i j = 4) && decide (max i j = 5)) || (decide (min i j = 3) && decide (max i j = 6))
theorem oth_due {x : Str} {ta tb : Addr} (hab : ta ≠ tb) : ∀ i j : Nat, ∀ a b, (othA x ta tb)[i]? = some a → (othA x ta tb)[j]? = some b → sameA a b = dueN i j := by
  intro i j a b ha hb
  have nx := str_app_ne x
  have nx' : ¬ (x ++ ("x" : Str) = x) := fun h => nx h.symm
  have hba : ¬ tb = ta := fun h => hab h.symm
  rcases i with _ | _ | _ | _ | _ | _ | _ | _ | _ | _ | _ | i
  all_goals (rcases j with _ | _ | _ | _ | _ | _ | _ | _ | _ | _ | _ | j)
  all_goals (first | (cases ha; done) | (cases hb; done) | (cases ha; cases hb; first | rfl | decide +kernel | (simp [sameA, dueN, nx, nx', hab, hba]; done)))
end
end Up

set_option Elab.async false
set_option linter.all false
set_option maxRecDepth 100000
set_option maxHeartbeats 4000000
set_option exponentiation.threshold 200000
namespace Up
open PySem PySem.Spec PyProof.Rows L2
local macro_rules | `(tactic| walk_at "u") => `(tactic| first
  | with_reducible refine g_seq ?_
  | with_reducible refine g_asg ?_
  | with_reducible refine g_op ?_
  | ((with_reducible show tVar _ _ _ _); apply g_var; exact rfl)
  | with_reducible refine g_c ?_
  | with_reducible refine g_name ?_
  | with_reducible refine g_ifs ?_
  | with_reducible refine g_tt ?_
  | with_reducible refine g_tB ?_
  | with_reducible refine g_bl ?_
  | with_reducible refine g_ret ?_
  | with_reducible refine g_cb ?_
  | with_reducible refine g_cons ?_
  | with_reducible refine g_nil ?_
  | with_reducible refine g_call ?_
  | with_reducible refine g_and ?_
  | with_reducible refine g_or ?_
  | with_reducible refine g_not ?_
  | with_reducible refine g_andV ?_
  | with_reducible refine g_orV ?_
  | with_reducible refine g_notV ?_
  | with_reducible refine g_if ?_
  | with_reducible refine g_un ?_
  | with_reducible refine g_neg ?_
  | with_reducible refine g_addI ?_
  | with_reducible refine g_subI ?_
  | with_reducible refine g_subB ?_
  | with_reducible refine g_I0 ?_
  | with_reducible refine g_cmpI ?_
  | with_reducible refine g_eqI ?_
  | with_reducible refine g_neI ?_
  | with_reducible refine g_eqS ?_
  | with_reducible refine g_neS ?_
  | with_reducible refine g_eqB ?_
  | with_reducible refine g_neB ?_
  | with_reducible refine g_bits ?_
  | with_reducible refine g_bitsI ?_
  | with_reducible refine g_fld ?_
  | with_reducible refine g_tup ?_
  | with_reducible refine g_lst ?_
  | with_reducible refine g_gtup ?_
  | with_reducible refine g_make ?_
  | with_reducible refine g_lc ?_
  | with_reducible refine g_yesT ?_
  | with_reducible refine g_intI ?_
  | with_reducible refine g_intB ?_
  | with_reducible refine g_max2 ?_
  | with_reducible refine g_abs1 ?_
  | with_reducible refine g_for ?_
  | with_reducible refine g_iList ?_
  | with_reducible refine g_iTup ?_
  | with_reducible refine g_iRng1 ?_
  | with_reducible refine g_iEnum ?_
  | with_reducible refine g_slice ?_
  | with_reducible refine g_po0 ?_
  | with_reducible refine g_po1 ?_
  | with_reducible refine g_gsub ?_
  | with_reducible refine g_par ?_
  | with_reducible refine g_par2 ?_
  | with_reducible refine g_rfl ?_
  | with_reducible refine g_meth ?_
  | with_reducible refine g_gcons ?_
  | with_reducible refine g_gnil ?_
  | with_reducible refine g_gfld ?_
  | with_reducible refine g_sfld ?_
  | with_reducible refine g_drop ?_
  | with_reducible refine g_next ?_
  | with_reducible refine iteT ?_
  | with_reducible refine iteF ?_)
local macro_rules | `(tactic| walk_at "go") => `(tactic| (repeat walk_at "u"))

section
variable {P : Program} {w : World} {K : PySem.W.Frag} {mg : Str → Option Value} {base : Heap} {C D : Addr}
abbrev CnT (P : Program) (w : World) (K : PySem.W.Frag) (mg : Str → Option Value) (base : Heap) (D : Addr) : Prop := Cn P w K mg base CX0 2 "Table" D ["self", "number", "array", "nodes", "meta"] [.int 0, .int 0, .non] (sp_Tinit D)
theorem mkT {H : Hp} {Q : VK} {E : XK} {n : V} (q : ∀ H' t, H t = none → Same H H' → (∃ dx fs, H' t = some (.ins D dx fs)) → Q (.ref t) H') : MakeR D (sp_Tinit D) ([n] ++ [.int 0, .int 0, .non]) H Q E := by
  intro x dx H' nx ndx ne s1 hx _
  exact ⟨x, dx, n, .non, 0, 0, rfl, hx, by decide, by decide, by decide, fun H2 la ln k _ _ _ h2 _ _ => ⟨rfl, q H2 x nx (fun b o e => k b o (ne_of_none e nx) (s1 _ _ e)) ⟨dx, _, h2⟩⟩⟩
theorem room65 {k : Nat} {A : Around} (h : Room k A) : A.units + 65 < cLine := by have := h.un; omega
theorem red_one : redV (.int 1) 0 = (.int 1, 0) := rfl
theorem red_nil : redV (.int 0) 0 = (.int 0, 0) := rfl
theorem oth_at {H : Hp} {fa fb ta tb : Addr} {x : Str} (ha : FlAt C H fa 1 (.int 1) 0) (hb : FlAt C H fb 1 (.int 0) 0) (hc : ∃ dx fs, H ta = some (.ins D dx fs)) (hd : ∃ dx fs, H tb = some (.ins D dx fs)) :
    ∀ (i : Nat) (v : V), (othV fa fb x ta tb)[i]? = some v → ∃ a : Any, (othA x ta tb)[i]? = some a ∧ AnyAt C D H v a := by
  intro i v hv
  have o1 : FlOk 1 (.int 1) 0 := ⟨.inl rfl, .inr (.inr ⟨1, rfl, by decide, by decide, by decide, by decide, by decide⟩)⟩
  have o0 : FlOk 1 (.int 0) 0 := ⟨.inl rfl, .inr (.inr ⟨0, rfl, by decide, by decide, by decide, by decide, by decide⟩)⟩
  have b0 : bigOk 0 := lt_pow_mono (a := 1) (by decide) (by decide)
  have b1 : bigOk 1 := lt_pow_mono (a := 1) (by decide) (by decide)
  rcases i with _ | _ | _ | _ | _ | _ | _ | _ | _ | _ | _ | i
  · cases hv; exact ⟨_, rfl, rfl⟩
  · cases hv; exact ⟨_, rfl, rfl⟩
  · cases hv; exact ⟨_, rfl, rfl⟩
  · cases hv; exact ⟨_, rfl, rfl, b0⟩
  · cases hv; exact ⟨_, rfl, rfl, b1⟩
  · cases hv; exact ⟨_, rfl, ⟨fa, rfl, ha, o1⟩, o1⟩
  · cases hv; exact ⟨_, rfl, ⟨fb, rfl, hb, o0⟩, o0⟩
  · cases hv; exact ⟨_, rfl, rfl⟩
  · cases hv; exact ⟨_, rfl, rfl⟩
  · cases hv; exact ⟨_, rfl, rfl, hc⟩
  · cases hv; exact ⟨_, rfl, rfl, hd⟩
  · cases hv
def sp_Lothers : Sp := fun vs H Q _ => ∃ a : Addr, vs = [.ref a] ∧ Well H a ∧ ∀ H', Stp a H H' → Well H' a → Q (.bl true) H'
theorem ok_Lothers {f : Addr} {fd : FuncData} (F : FunD K "_law_others_right" "_law_others_right" (defArgs s_Lothersright) (defBody s_Lothersright) (defScope s_Lothersright) [] [] f fd) (B : Blt mg) (c_Float : CnF P w K mg base C) (c_Table : CnT P w K mg base D) (c_Lone : Fn P w K mg base CX0 2 "_law_one" ["_law_well_here", "_law_some"] [] sp_Lone) (c_same : Fn P w K mg base CX0 4 "same" ["one", "other"] [] (sp_same C D)) :
    FnOk P w K mg base CX0 6 f fd ["_law_well_here"] sp_Lothers := by
  refine F.ok sc_Lothersright (fun vs H Q E h => ?_) (fun cdv A outer s H vs Q E hr h => ?_)
  · obtain ⟨a, rfl, _⟩ := h; rfl
  · obtain ⟨a, rfl, hw, q⟩ := h
    refine ⟨_, PSs.nox (pss_cons (ps_par (i := 1) (j := 2) rfl sc_Lothersright.nd rfl rfl (by decide) rfl rfl (pa_cons (pe_lstN (pa_cons (pe_cn c_Table (hr.mono (by decide)) pass0 (pa_cons pe_int pa_nil)) (pa_cons (pe_cn c_Table (hr.mono (by decide)) pass0 (pa_cons pe_int pa_nil)) pa_nil))) (pa_cons (pe_fn c_Lone (hr.mono (by decide)) pass0 (pa_cons (pv 0) (pa_cons (pe_lstN (pa_cons pe_str (pa_cons pe_str (pa_cons pe_str (pa_cons pe_str (pa_cons pe_str pa_nil)))))) pa_nil))) pa_nil)) (by rfl))
  (pss_cons (ps_set (i := 3) sc_Lothersright.nd rfl (Or.inl rfl) (pe_lstN (pa_cons pe_non (pa_cons pe_bl (pa_cons pe_bl (pa_cons pe_int (pa_cons pe_int (pa_cons (pe_cn c_Float (hr.mono (by decide)) pass0 (pa_cons pe_int (pa_cons pe_int (pa_cons pe_int pa_nil)))) (pa_cons (pe_cn c_Float (hr.mono (by decide)) pass0 (pa_cons pe_int (pa_cons pe_int (pa_cons pe_int pa_nil)))) (pa_cons (pv 2) (pa_cons (pe_op op_oAdd (pv 2) pe_str) (pa_cons (pe_ix ix_seq (pv 1) pe_int (fun _ _ => rfl)) (pa_cons (pe_ix ix_seq (pv 1) pe_int (fun _ _ => rfl)) pa_nil)))))))))))))
  (pss_cons (ps_for PassesOwn.never rfl (pi_enum (by rfl) B.enumerate (pa_cons (pv 3) pa_nil)) (pg_tup rfl (pgs_cons (pg_name (i := 4) sc_Lothersright.nd rfl (Or.inl rfl)) (pgs_cons (pg_name (i := 5) sc_Lothersright.nd rfl (Or.inl rfl)) pgs_nil)))
    (pss_one (ps_for PassesOwn.never rfl (pi_enum (by rfl) B.enumerate (pa_cons (pv 3) pa_nil)) (pg_tup rfl (pgs_cons (pg_name (i := 6) sc_Lothersright.nd rfl (Or.inl rfl)) (pgs_cons (pg_name (i := 7) sc_Lothersright.nd rfl (Or.inl rfl)) pgs_nil)))
    (pss_cons (ps_set (i := 8) sc_Lothersright.nd rfl (Or.inl rfl) (pe_or (pe_cmpR (op_oEq hr.units) (pv 4) (pv 6) (nomark _)) (pe_one (pe_cmpR (op_inTD (room65 hr)) (pe_tupN (pa_cons (pe_callB (call_min2 rfl) (by rfl) B.min (by decide +kernel) (pa_cons (pv 4) (pa_cons (pv 6) pa_nil))) (pa_cons (pe_callB (call_max2 rfl) (by rfl) B.max (by decide +kernel) (pa_cons (pv 4) (pa_cons (pv 6) pa_nil))) pa_nil))) (pe_tupN (pa_cons (pe_tupN (pa_cons pe_int (pa_cons pe_int pa_nil))) (pa_cons (pe_tupN (pa_cons pe_int (pa_cons pe_int pa_nil))) pa_nil))) (by rfl)))))
  (pss_one (ps_if (pt_cmpR (op_oNe hr.units) (pe_fn c_same (hr.mono (by decide)) pass0 (pa_cons (pv 5) (pa_cons (pv 7) pa_nil))) (pv 8) (nomark _)) (pss_one (ps_ret pe_bl)) pss_nil))))))
  (pss_one (ps_ret pe_bl))))), ?_⟩
    walk_at "go"
    refine mkT fun H1 ta n1 s1 h1 => ?_
    walk_at "go"
    refine mkT fun H2 tb n2 s2 h2 => ?_
    walk_at "go"
    have hab : ta ≠ tb := fun z => by
      obtain ⟨dx, fs, e⟩ := h1
      rw [z] at e
      rw [n2] at e
      cases e
    refine g_new (sz rfl) fun tl H3 n3 s3 h3 _ => ?_
    walk_at "go"
    refine g_new (sz rfl) fun l4 H4 n4 s4 h4 _ => ?_
    have S4 := ((s1.trans s2).trans s3).trans s4
    have hw4 := hw.same S4
    have hw3 := hw.same ((s1.trans s2).trans s3)
    have tla := (hw.same (s1.trans s2)).ne_none n3
    refine ⟨a, l4, _, rfl, hw4, h4, hw3.ne_none n4, by decide, by decide, fun v H5 hv s5 hw5 => ?_⟩
    have h3b := s5 _ _ tla (s4 _ _ h3)
    have hta : ∃ dx fs, H5 ta = some (.ins D dx fs) := by
      obtain ⟨dx, fs, e⟩ := h1
      exact ⟨dx, fs, s5.ins hw4 (s4 _ _ (s3 _ _ (s2 _ _ e)))⟩
    have htb : ∃ dx fs, H5 tb = some (.ins D dx fs) := by
      obtain ⟨dx, fs, e⟩ := h2
      exact ⟨dx, fs, s5.ins hw4 (s4 _ _ (s3 _ _ e))⟩
    obtain ⟨x, rfl, hx⟩ : ∃ x : Str, v = .str x ∧ x.length ≤ 100 := by
      simp only [List.mem_cons, List.not_mem_nil, or_false] at hv
      rcases hv with rfl | rfl | rfl | rfl | rfl <;> exact ⟨_, rfl, by decide +kernel⟩
    have S5 := (Stp.of (w := a) S4).trans s5
    walk_at "go"
    refine mkF (mk_of_flok (n := 1) (.inl rfl) (by decide) (by decide) (by decide)) fun H6 fa n6 s6 f6 => ?_
    walk_at "go"
    refine mkF (mk_of_flok (n := 0) (.inl rfl) (by decide) (by decide) (by decide)) fun H7 fb n7 s7 f7 => ?_
    rw [red_one] at f6
    rw [red_nil] at f7
    walk_at "go"
    refine g_addS (Nat.le_trans (Nat.add_le_add hx (Nat.le_refl _)) (by decide)) ?_
    walk_at "go"
    refine g_ixL (s7 _ _ (s6 _ _ h3b)) rfl ?_
    walk_at "go"
    refine g_ixL (s7 _ _ (s6 _ _ h3b)) rfl ?_
    walk_at "go"
    refine g_new (sz rfl) fun l8 H8 n8 s8 h8 _ => ?_
    have S8 := (s6.trans s7).trans s8
    have hw8 := hw5.same S8
    have at8 : ∀ H', Same H8 H' → ∀ (i : Nat) (v : V), (othV fa fb x ta tb)[i]? = some v → ∃ z : Any, (othA x ta tb)[i]? = some z ∧ AnyAt C D H' v z := fun H' sH => by
      refine oth_at ((f6.same (s7.trans s8)).same sH) ((f7.same s8).same sH) ?_ ?_
      · obtain ⟨dx, fs, e⟩ := hta; exact ⟨dx, fs, sH _ _ (S8 _ _ e)⟩
      · obtain ⟨dx, fs, e⟩ := htb; exact ⟨dx, fs, sH _ _ (S8 _ _ e)⟩
    have due := oth_due (x := x) hab
    walk_at "go"
    refine ⟨l8, _, rfl, SqL.of h8, ?_⟩
    refine for_it (walk_enum (K := K) (a := l8) (xs := othV fa fb x ta tb)) (fun i σ' H' => ∃ e4 e5 e6 e7 e8, σ' = [some (.ref a), some (.ref tl), some (.str x), some (.ref l8), e4, e5, e6, e7, e8] ∧ Same H8 H') ⟨_, _, _, _, _, rfl, Same.refl _⟩ ?_ ?_ ?_
    · rintro i _ H' _ ⟨_, _, _, _, _, _, sH⟩
      exact SqL.of (sH _ _ h8)
    · rintro i z _ H9 H10 hi ⟨e4, e5, e6, e7, e8, rfl, s9⟩ ⟨T, y1, y2, rfl, nT, rfl, ey1, ey2⟩
      cases ey1
      walk_at "go"
      refine ⟨T, _, rfl, SqT.of upd_same, rfl, ?_⟩
      walk_at "go"
      have s10 : Same H8 (upd H9 T (.tup [.int (i : Nat), y2])) := fun b o e => by rw [upd_ne (ne_of_none (s9 _ _ e) nT)]; exact s9 _ _ e
      refine ⟨l8, _, rfl, SqL.of (s10 _ _ h8), ?_⟩
      refine for_it (walk_enum (K := K) (a := l8) (xs := othV fa fb x ta tb)) (fun j σ' H' => ∃ e6 e7 e8, σ' = [some (.ref a), some (.ref tl), some (.str x), some (.ref l8), some (.int (i : Nat)), some y2, e6, e7, e8] ∧ Same H8 H') ⟨_, _, _, rfl, s10⟩ ?_ ?_ ?_
      · rintro j _ H' _ ⟨_, _, _, _, sH⟩
        exact SqL.of (sH _ _ h8)
      · rintro j z _ H11 H12 hj ⟨e6, e7, e8, rfl, s11⟩ ⟨T2, y3, y4, rfl, nT2, rfl, ey3, ey4⟩
        cases ey3
        walk_at "go"
        refine ⟨T2, _, rfl, SqT.of upd_same, rfl, ?_⟩
        have s12 : Same H8 (upd H11 T2 (.tup [.int (j : Nat), y4])) := fun b o e => by rw [upd_ne (ne_of_none (s11 _ _ e) nT2)]; exact s11 _ _ e
        generalize upd H11 T2 (.tup [.int (j : Nat), y4]) = H12 at *
        walk_at "go"
        -- the rest, by what is due
        have fin : ∀ H13, Same H8 H13 → ∃ za zb, AnyAt C D H13 y2 za ∧ AnyAt C D H13 y4 zb ∧ sameA za zb = dueN i j := fun H13 s13 => by
          obtain ⟨za, q1, q2⟩ := at8 H13 s13 i y2 ey2
          obtain ⟨zb, q3, q4⟩ := at8 H13 s13 j y4 ey4
          exact ⟨za, zb, q2, q4, due i j za zb q1 q3⟩
        refine g_ite (fun hij => ?_) fun hij => ?_
        · walk_at "go"
          obtain ⟨za, zb, a1, a2, a3⟩ := fin _ s12
          refine ⟨y2, y4, za, zb, rfl, a1, a2, fun H14 s14 => ?_⟩
          walk_at "go"
          have e : dueN i j = true := by unfold dueN; rw [decide_eq_true (show i = j by omega)]; rfl
          rw [a3, e]
          refine iteF ?_
          walk_at "go"
          exact ⟨_, _, _, rfl, s12.trans s14⟩
        · walk_at "go"
          refine g_new (sz rfl) fun p1 H13 m1 s13 g1 _ => ?_
          walk_at "go"
          refine g_new (sz rfl) fun p2 H14 m2 s14 g2 _ => ?_
          walk_at "go"
          refine g_new (sz rfl) fun p3 H15 m3 s15 g3 _ => ?_
          walk_at "go"
          refine g_new (sz rfl) fun p4 H16 m4 s16 g4 _ => ?_
          have s16b := ((s12.trans s13).trans s14).trans (s15.trans s16)
          refine ⟨.tuple [.int _, .int _], [.tuple [.int 4, .int 5], .tuple [.int 3, .int 6]], .tup (SqT.of (s16 _ _ (s15 _ _ (s14 _ _ g1)))) (.cons (.int _) (.cons (.int _) .nil)),
            .tup (SqT.of g4) (.cons (.tup (SqT.of (s16 _ _ (s15 _ _ g2))) (.cons (.int _) (.cons (.int _) .nil))) (.cons (.tup (SqT.of (s16 _ _ g3)) (.cons (.int _) (.cons (.int _) .nil))) .nil)), rfl, rfl, ?_⟩
          walk_at "go"
          obtain ⟨za, zb, a1, a2, a3⟩ := fin _ s16b
          refine ⟨y2, y4, za, zb, rfl, a1, a2, fun H17 s17 => ?_⟩
          walk_at "go"
          have e : (List.any [PyData.tuple [.int 4, .int 5], .tuple [.int 3, .int 6]] fun z => PyData.eqv z (.tuple [.int (if ((j : Nat) : Int) < ((i : Nat) : Int) then ((j : Nat) : Int) else ((i : Nat) : Int)), .int (if ((j : Nat) : Int) > ((i : Nat) : Int) then ((j : Nat) : Int) else ((i : Nat) : Int))])) = dueN i j := by
            have hn : ¬ i = j := fun h => hij (by rw [h])
            unfold dueN
            rw [decide_eq_false hn]
            simp only [List.any_cons, List.any_nil, PyData.eqv, PyData.eqvAll, Bool.or_false, Bool.and_true, Bool.false_or]
            rw [Bool.eq_iff_iff]
            simp only [Bool.or_eq_true, Bool.and_eq_true, beq_iff_eq, decide_eq_true_eq]
            by_cases hlt : (j : Int) < i
            · rw [if_pos hlt, if_neg (by omega)]; omega
            · rw [if_neg hlt, if_pos (by omega)]; omega
          rw [e, a3]
          refine g_iten (fun h => absurd rfl h) fun _ => ?_
          walk_at "go"
          exact ⟨_, _, _, rfl, s16b.trans s17⟩
      · rintro _ H11 ⟨e6, e7, e8, rfl, s11⟩
        exact ⟨_, _, _, _, _, rfl, s11⟩
    · rintro _ H9 ⟨e4, e5, e6, e7, e8, rfl, s9⟩
      walk_at "go"
      exact q _ (S5.trans (Stp.of (S8.trans s9))) (hw8.same s9)
end
end Up

set_option Elab.async false
set_option linter.all false
set_option maxRecDepth 100000
set_option maxHeartbeats 4000000
set_option exponentiation.threshold 200000
namespace Up
open PySem PySem.Spec PyProof.Rows L2
local macro_rules | `(tactic| walk_at "u") => `(tactic| first
  | with_reducible refine g_seq ?_
  | with_reducible refine g_asg ?_
  | with_reducible refine g_op ?_
  | ((with_reducible show tVar _ _ _ _); apply g_var; exact rfl)
  | with_reducible refine g_c ?_
  | with_reducible refine g_name ?_
  | with_reducible refine g_ifs ?_
  | with_reducible refine g_tt ?_
  | with_reducible refine g_tB ?_
  | with_reducible refine g_bl ?_
  | with_reducible refine g_ret ?_
  | with_reducible refine g_cb ?_
  | with_reducible refine g_cons ?_
  | with_reducible refine g_nil ?_
  | with_reducible refine g_call ?_
  | with_reducible refine g_and ?_
  | with_reducible refine g_or ?_
  | with_reducible refine g_not ?_
  | with_reducible refine g_andV ?_
  | with_reducible refine g_orV ?_
  | with_reducible refine g_notV ?_
  | with_reducible refine g_if ?_
  | with_reducible refine g_un ?_
  | with_reducible refine g_neg ?_
  | with_reducible refine g_addI ?_
  | with_reducible refine g_subI ?_
  | with_reducible refine g_subB ?_
  | with_reducible refine g_I0 ?_
  | with_reducible refine g_cmpI ?_
  | with_reducible refine g_eqI ?_
  | with_reducible refine g_neI ?_
  | with_reducible refine g_eqS ?_
  | with_reducible refine g_neS ?_
  | with_reducible refine g_eqB ?_
  | with_reducible refine g_neB ?_
  | with_reducible refine g_bits ?_
  | with_reducible refine g_bitsI ?_
  | with_reducible refine g_fld ?_
  | with_reducible refine g_tup ?_
  | with_reducible refine g_lst ?_
  | with_reducible refine g_gtup ?_
  | with_reducible refine g_make ?_
  | with_reducible refine g_lc ?_
  | with_reducible refine g_yesT ?_
  | with_reducible refine g_intI ?_
  | with_reducible refine g_intB ?_
  | with_reducible refine g_max2 ?_
  | with_reducible refine g_abs1 ?_
  | with_reducible refine g_for ?_
  | with_reducible refine g_iList ?_
  | with_reducible refine g_iTup ?_
  | with_reducible refine g_iRng1 ?_
  | with_reducible refine g_iEnum ?_
  | with_reducible refine g_slice ?_
  | with_reducible refine g_po0 ?_
  | with_reducible refine g_po1 ?_
  | with_reducible refine g_gsub ?_
  | with_reducible refine g_par ?_
  | with_reducible refine g_par2 ?_
  | with_reducible refine g_rfl ?_
  | with_reducible refine g_meth ?_
  | with_reducible refine g_gcons ?_
  | with_reducible refine g_gnil ?_
  | with_reducible refine g_gfld ?_
  | with_reducible refine g_sfld ?_
  | with_reducible refine g_drop ?_
  | with_reducible refine g_next ?_
  | with_reducible refine iteT ?_
  | with_reducible refine iteF ?_)
local macro_rules | `(tactic| walk_at "go") => `(tactic| (repeat walk_at "u"))

section
variable {P : Program} {w : World} {K : PySem.W.Frag} {mg : Str → Option Value} {base : Heap} {C D : Addr}
abbrev s_law : Stmt := top 49
theorem sc_law : FnScope ["_law_script", "_law_cell", "_law_well_here", "_law_some", "_law_one_here", "_law_other"] ["_law_script"] (defScope s_law) := ⟨rfl, rfl, rfl, by decide +kernel, rfl, by decide +kernel, by decide +kernel⟩
def spLaw (K : PySem.W.Frag) : Sp := fun vs H Q _ => ∃ (a : Addr) (ns : List Int), vs = [.ref a] ∧ SqL K H a (ns.map V.int) ∧ ns.length ≤ 63 ∧ ∀ H', Q (.bl true) H'
theorem cells_int {ns : List Int} {lo hi : Option Int} : ∀ v ∈ cutV (ns.map V.int ++ [V.int 0]) lo hi, ∃ n, v = .int n := fun v hv => by
  have h := List.mem_of_mem_drop (List.mem_of_mem_take hv)
  rcases List.mem_append.mp h with h | h
  · obtain ⟨n, _, rfl⟩ := List.mem_map.mp h
    exact ⟨n, rfl⟩
  · simp only [List.mem_cons, List.not_mem_nil, or_false] at h
    exact ⟨0, h⟩
theorem ok_law {f : Addr} {fd : FuncData} (F : FunD K "law" "law" (defArgs s_law) (defBody s_law) (defScope s_law) [] [] f fd) (B : Blt mg) (c_Lwell : Fn P w K mg base CX0 1 "_law_well" ["_law_cell"] [] sp_Lwell) (c_Lnumbers : Fn P w K mg base CX0 7 "_law_numbers" ["_law_well_here"] [] (sp_Lnumbers C))
    (c_Lright : Fn P w K mg base CX0 5 "_law_right" ["_law_one_here", "_law_other"] [] (sp_Lright C)) (c_Lothersright : Fn P w K mg base CX0 6 "_law_others_right" ["_law_well_here"] [] sp_Lothers) : FnOk P w K mg base CX0 8 f fd ["_law_script"] (spLaw K) := by
  refine F.ok sc_law (fun vs H Q E h => ?_) (fun cdv A outer s H vs Q E hr h => ?_)
  · obtain ⟨a, ns, rfl, _⟩ := h; rfl
  · obtain ⟨a, ns, rfl, hS, hlen, q⟩ := h
    refine ⟨_, PSs.nox (pss_cons (ps_for PassesOwn.never rfl (pi_list (pe_slice sl_lstN (pe_op op_oAdd (pv 0) (pe_lstN (pa_cons pe_int pa_nil))) po_none (po_some pe_int))) (pg_name (i := 1) sc_law.nd rfl (Or.inl rfl))
    (pss_cons (ps_set (i := 2) sc_law.nd rfl (Or.inl rfl) (pe_fn c_Lwell (hr.mono (by decide)) pass0 (pa_cons (pv 1) pa_nil)))
  (pss_cons (ps_set (i := 3) sc_law.nd rfl (Or.inl rfl) (pe_fn c_Lnumbers (hr.mono (by decide)) pass0 (pa_cons (pv 2) pa_nil)))
  (pss_cons (ps_for PassesOwn.never rfl (pi_list (pv 3)) (pg_name (i := 4) sc_law.nd rfl (Or.inl rfl))
    (pss_one (ps_for PassesOwn.never rfl (pi_list (pv 3)) (pg_name (i := 5) sc_law.nd rfl (Or.inl rfl))
    (pss_one (ps_if (pt_not (pt_val (pe_fn c_Lright (hr.mono (by decide)) pass0 (pa_cons (pv 4) (pa_cons (pv 5) pa_nil))))) (pss_one (ps_ret pe_bl)) pss_nil)))))
  (pss_one (ps_if (pt_not (pt_val (pe_fn c_Lothersright (hr.mono (by decide)) pass0 (pa_cons (pv 2) pa_nil)))) (pss_one (ps_ret pe_bl)) pss_nil))))))
  (pss_one (ps_ret pe_bl))), ?_⟩
    walk_at "go"
    refine g_new (sz rfl) fun l1 H1 n1 s1 h1 _ => ?_
    refine .inl ⟨a, l1, _, _, rfl, rfl, s1.seq hS, SqL.of h1, ?_, fun l2 H2 n2 s2 h2 _ => ?_⟩
    · rw [List.length_map]
      exact Nat.le_trans (Nat.add_le_add hlen (Nat.le_refl 1)) (by decide)
    walk_at "go"
    refine ⟨l2, _, rfl, SqL.of h2, fun l3 H3 n3 s3 h3 _ => ?_⟩
    refine ⟨l3, rfl, ⟨_, SqL.of h3⟩, ?_⟩
    refine for_list (K := K) (a := l3) (xs := cutV (ns.map V.int ++ [V.int 0]) none (some 8)) (fun i σ' H' => ∃ e1 e2 e3 e4 e5, σ' = [some (.ref a), e1, e2, e3, e4, e5] ∧ Same H3 H') ⟨_, _, _, _, _, rfl, Same.refl _⟩ ?_ ?_ ?_
    · rintro i _ H' _ ⟨_, _, _, _, _, _, sH⟩
      exact SqL.of (sH _ _ h3)
    · rintro i z _ H4 hz ⟨e1, e2, e3, e4, e5, rfl, s4⟩
      obtain ⟨c, rfl⟩ := cells_int z (List.mem_of_getElem? hz)
      walk_at "go"
      refine ⟨c, rfl, fun wl H5 n5 s5 hw5 => ?_⟩
      walk_at "go"
      refine ⟨wl, rfl, hw5, fun l xs H6 s6 hw6 lw hl hx N6 => ?_⟩
      have S6 : Same H4 H6 := fun b o e => s6 b o (ne_of_none e n5) (s5 _ _ e)
      walk_at "go"
      refine ⟨l, rfl, ⟨_, SqL.of hl⟩, ?_⟩
      refine for_list (K := K) (a := l) (xs := xs) (fun i σ' H' => ∃ e4 e5, σ' = [some (.ref a), some (.int c), some (.ref wl), some (.ref l), e4, e5] ∧ Same H6 H') ⟨_, _, rfl, Same.refl _⟩ ?_ ?_ ?_
      · rintro i _ H' _ ⟨_, _, _, sH⟩
        exact SqL.of (sH _ _ hl)
      · rintro i v _ H7 hv ⟨e4, e5, rfl, s7⟩
        obtain ⟨n, hn, on⟩ := N6 v (List.mem_of_getElem? hv)
        walk_at "go"
        refine ⟨l, rfl, ⟨_, SqL.of (s7 _ _ hl)⟩, ?_⟩
        refine for_list (K := K) (a := l) (xs := xs) (fun i σ' H' => ∃ e5, σ' = [some (.ref a), some (.int c), some (.ref wl), some (.ref l), some v, e5] ∧ Same H6 H') ⟨_, rfl, s7⟩ ?_ ?_ ?_
        · rintro i _ H' _ ⟨_, _, sH⟩
          exact SqL.of (sH _ _ hl)
        · rintro j u _ H8 hu ⟨e5, rfl, s8⟩
          obtain ⟨m, hm, om⟩ := N6 u (List.mem_of_getElem? hu)
          walk_at "go"
          refine ⟨v, u, n, m, rfl, hn.same s8, hm.same s8, on, om, fun H9 s9 => ?_⟩
          walk_at "go"
          refine iteF ?_
          walk_at "go"
          exact ⟨_, rfl, s8.trans s9⟩
        · rintro _ H8 ⟨e5, rfl, s8⟩
          exact ⟨_, _, rfl, s8⟩
      · rintro _ H7 ⟨e4, e5, rfl, s7⟩
        walk_at "go"
        refine ⟨wl, rfl, hw6.same s7, fun H8 s8 hw8 => ?_⟩
        walk_at "go"
        refine iteF ?_
        walk_at "go"
        exact ⟨_, _, _, _, _, rfl, s4.trans fun b o e => s8 b o (ne_of_none e n5) (s7 _ _ (S6 _ _ e))⟩
    · rintro _ H4 ⟨e1, e2, e3, e4, e5, rfl, s4⟩
      walk_at "go"
      exact q _
end
end Up

set_option Elab.async false
set_option linter.all false
set_option maxRecDepth 100000
set_option maxHeartbeats 0
namespace Up
open PySem PySem.Spec PyProof.Rows L2
def d_isplain : He.DefD := ⟨("is_plain", none), "is_plain", "is_plain", defArgs s_isplain, defBody s_isplain, defScope s_isplain, [], []⟩
def d_reduced : He.DefD := ⟨("reduced", none), "reduced", "reduced", defArgs s_reduced, defBody s_reduced, defScope s_reduced, [], []⟩
def d_fits : He.DefD := ⟨("fits", none), "fits", "fits", defArgs s_fits, defBody s_fits, defScope s_fits, [], []⟩
def d_signof : He.DefD := ⟨("sign_of", none), "sign_of", "sign_of", defArgs s_signof, defBody s_signof, defScope s_signof, [], []⟩
def d_infinity : He.DefD := ⟨("infinity", none), "infinity", "infinity", defArgs s_infinity, defBody s_infinity, defScope s_infinity, [], []⟩
def d_nearest : He.DefD := ⟨("nearest", none), "nearest", "nearest", defArgs s_nearest, defBody s_nearest, defScope s_nearest, [], []⟩
def d_isnumber : He.DefD := ⟨("is_number", none), "is_number", "is_number", defArgs s_isnumber, defBody s_isnumber, defScope s_isnumber, [], []⟩
def d_tofloat : He.DefD := ⟨("to_float", none), "to_float", "to_float", defArgs s_tofloat, defBody s_tofloat, defScope s_tofloat, [], []⟩
def d_orderof : He.DefD := ⟨("order_of", none), "order_of", "order_of", defArgs s_orderof, defBody s_orderof, defScope s_orderof, [], []⟩
def d_placeof0 : He.DefD := ⟨("place_of_numbers", none), "place_of", "place_of", defArgs s_placeof0, defBody s_placeof0, defScope s_placeof0, [], []⟩
def d_compare : He.DefD := ⟨("compare", none), "compare", "compare", defArgs s_compare, defBody s_compare, defScope s_compare, [], []⟩
def d_same : He.DefD := ⟨("same", none), "same", "same", defArgs s_same, defBody s_same, defScope s_same, [], []⟩
def d_powerfor : He.DefD := ⟨("power_for", none), "power_for", "power_for", defArgs s_powerfor, defBody s_powerfor, defScope s_powerfor, [], []⟩
def d_Float_init : He.DefD := ⟨("Float", some "__init__"), "__init__", "Float.__init__", defArgs s_Float_init, defBody s_Float_init, defScope s_Float_init, [], []⟩
def d_Float_isfinite : He.DefD := ⟨("Float", some "is_finite"), "is_finite", "Float.is_finite", defArgs s_Float_isfinite, defBody s_Float_isfinite, defScope s_Float_isfinite, [], []⟩
def d_Float_ratio : He.DefD := ⟨("Float", some "ratio"), "ratio", "Float.ratio", defArgs s_Float_ratio, defBody s_Float_ratio, defScope s_Float_ratio, [], []⟩
def d_Table_init : He.DefD := ⟨("Table", some "__init__"), "__init__", "Table.__init__", defArgs s_Table_init, defBody s_Table_init, defScope s_Table_init, [.int 0, .int 0], [("meta", .non)]⟩
def d_Lwell : He.DefD := ⟨("_law_well", none), "_law_well", "_law_well", defArgs s_Lwell, defBody s_Lwell, defScope s_Lwell, [], []⟩
def d_Ldraw : He.DefD := ⟨("_law_draw", none), "_law_draw", "_law_draw", defArgs s_Ldraw, defBody s_Ldraw, defScope s_Ldraw, [], []⟩
def d_Lone : He.DefD := ⟨("_law_one", none), "_law_one", "_law_one", defArgs s_Lone, defBody s_Lone, defScope s_Lone, [], []⟩
def d_Lgreat : He.DefD := ⟨("_law_great", none), "_law_great", "_law_great", defArgs s_Lgreat, defBody s_Lgreat, defScope s_Lgreat, [], []⟩
def d_Lfinite : He.DefD := ⟨("_law_finite", none), "_law_finite", "_law_finite", defArgs s_Lfinite, defBody s_Lfinite, defScope s_Lfinite, [], []⟩
def d_Lfloat : He.DefD := ⟨("_law_float", none), "_law_float", "_law_float", defArgs s_Lfloat, defBody s_Lfloat, defScope s_Lfloat, [], []⟩
def d_Lfraction : He.DefD := ⟨("_law_fraction", none), "_law_fraction", "_law_fraction", defArgs s_Lfraction, defBody s_Lfraction, defScope s_Lfraction, [], []⟩
def d_Lright : He.DefD := ⟨("_law_right", none), "_law_right", "_law_right", defArgs s_Lright, defBody s_Lright, defScope s_Lright, [], []⟩
def d_Lnumbers : He.DefD := ⟨("_law_numbers", none), "_law_numbers", "_law_numbers", defArgs s_Lnumbers, defBody s_Lnumbers, defScope s_Lnumbers, [], []⟩
def d_Lothersright : He.DefD := ⟨("_law_others_right", none), "_law_others_right", "_law_others_right", defArgs s_Lothersright, defBody s_Lothersright, defScope s_Lothersright, [], []⟩
def d_law : He.DefD := ⟨("law", none), "law", "law", defArgs s_law, defBody s_law, defScope s_law, [], []⟩
def hfn : List He.DefD := [d_isplain, d_reduced, d_fits, d_signof, d_infinity, d_nearest, d_isnumber, d_tofloat, d_orderof, d_placeof0, d_compare, d_same, d_powerfor, d_Float_init, d_Float_isfinite, d_Float_ratio, d_Table_init,
  d_Lwell, d_Ldraw, d_Lone, d_Lgreat, d_Lfinite, d_Lfloat, d_Lfraction, d_Lright, d_Lnumbers, d_Lothersright, d_law]
def hglo : List Str := ["is_plain", "reduced", "fits", "sign_of", "infinity", "nearest", "is_number", "to_float", "order_of", "place_of_numbers", "compare", "same", "power_for", "Float", "Table",
  "_law_well", "_law_draw", "_law_one", "_law_great", "_law_finite", "_law_float", "_law_fraction", "_law_right", "_law_numbers", "_law_others_right", "law"]
def hfa : List He.Fa := hglo.map He.Fa.glo ++ (bltNames.map He.Fa.free ++ [.int "ROOM" 9007199254740992, .int "LOWEST" (-1074), .int "TOO_GREAT" 1024, .mkr "Float", .mkr "Table", .meth "Float" "is_finite", .meth "Float" "ratio"])
def hex (K : PySem.W.Frag) : Bool := ownB K (He.ga K "Float") && (noB K (He.ga K "Float") ["sign", "top", "power"] && (kitB' K (He.ga K "Float") true [.ref (He.ga K "Float")] &&
  (kitB' K (He.ga K "Float") false [.type "int", .type "bool", .type "str", .type "NoneType", .type "list", .type "tuple", .type "dict", .ref (He.ga K "Table")] &&
  (ownB K (He.ga K "Table") && (noB K (He.ga K "Table") ["number", "meta", "array", "nodes", "free"] && idB K (He.ga K "Table"))))))
abbrev hR : PySem.W.OpenRow := PySem.W.OpenLaw.row PySem.Challenge.rw_upvalues_k05_whole_order_of_numbers
abbrev hk : PySem.W.Hook := He.hookX 5 hfa hfn [] [] hex
def hob (s : PySem.W.SharedT) : He.AlX := He.obsX 5 hfa hfn [] [] hex (HandSHeadRun.getT s)
theorem hob_eq (s : PySem.W.SharedT) : hob s = hk.obs s.abs := He.obsX_eq (HandSHeadRun.getT_eq s)
def hloose : List PySem.Str := (["_wall", "LuaError", "InvalidArgument", "Native", "LEAST", "MOST", "ROOM", "LOWEST", "TOO_GREAT", "Float", "is_plain", "reduced", "fits", "sign_of", "infinity", "nearest", "is_number", "to_float", "whole_of", "order_of", "place_of", "place_of_numbers", "compare", "same", "LOW_HALF", "sum_of", "float_sum", "place_of_tables", "plain_key", "is_nan"] : List PySem.Str) ++ (["is_whole", "power_for", "Table", "_law_well", "_law_draw", "_law_one", "_law_great", "_law_finite", "_law_float", "_law_fraction", "_law_right", "_law_numbers", "_law_others_right"] : List PySem.Str)
theorem hrun (w : World) : HandSHeadRun.RunEq hR (PySem.W.view hR.prog [49]) hk hob 6000 hloose w := by
  intro os
  kernel_rfl
end Up

set_option Elab.async false
set_option linter.all false
set_option maxRecDepth 100000
set_option maxHeartbeats 0
namespace Up
open PySem PySem.Spec PyProof.Rows L2
theorem facts {P : Program} {w : World} {K : PySem.W.Frag} {h : Heap} {mg : Str → Option Value} {f : Addr} (X : K.In h) (G : h.Ns mainGlobals mg) (hfa' : mg ("law" : Str) = some (.ref f)) (cs : He.SaysX hfa hfn [] [] hex w h K) :
    ∃ fd : FuncData, (∀ (s : Shared) (v : Value), BindsTo s fd ⟨[v], []⟩ [("_law_script", v)]) ∧ ∀ base : Heap, K.In base → base.Ns mainGlobals mg → FnOk P w K mg base CX0 8 f fd ["_law_script"] (spLaw K) := by
  have c := cs.t.d
  have glo : ∀ x ∈ hglo, mg x = some (.ref (He.ga K x)) := fun x hx => He.glo_ok X G (c.facts (f := .glo x) (List.mem_append_left _ (List.mem_map_of_mem hx)))
  have B : Blt mg := blt_of fun x hx => He.free_ok X G (c.facts (f := .free x) (List.mem_append_right _ (List.mem_append_left _ (List.mem_map_of_mem hx))))
  have i_ROOM : ∃ t, mg "ROOM" = some (.int 9007199254740992 t) := He.int_ok X G (c.facts (f := .int "ROOM" 9007199254740992) (List.mem_append_right _ (List.mem_append_right _ (by simp))))
  have i_LOWEST : ∃ t, mg "LOWEST" = some (.int (-1074) t) := He.int_ok X G (c.facts (f := .int "LOWEST" (-1074)) (List.mem_append_right _ (List.mem_append_right _ (by simp))))
  have i_TOO : ∃ t, mg "TOO_GREAT" = some (.int 1024 t) := He.int_ok X G (c.facts (f := .int "TOO_GREAT" 1024) (List.mem_append_right _ (List.mem_append_right _ (by simp))))
  have mkF' := He.mkr_ok (c.facts (f := .mkr "Float") (List.mem_append_right _ (List.mem_append_right _ (by simp))))
  have mkT' := He.mkr_ok (c.facts (f := .mkr "Table") (List.mem_append_right _ (List.mem_append_right _ (by simp))))
  have mt1 := He.meth_ok (c.facts (f := .meth "Float" "is_finite") (List.mem_append_right _ (List.mem_append_right _ (by simp))))
  have mt2 := He.meth_ok (c.facts (f := .meth "Float" "ratio") (List.mem_append_right _ (List.mem_append_right _ (by simp))))
  have ex := cs.more
  unfold hex at ex
  simp only [Bool.and_eq_true] at ex
  obtain ⟨x1, x2, x3, x4, x5, x6, x7⟩ := ex
  have T : FlC K mg (He.ga K "Float") := {
    own := ownB_ok x1, nS := noB_ok x2 (by simp), nT := noB_ok x2 (by simp), nP := noB_ok x2 (by simp), mg := glo "Float" (by simp [hglo]), yes := kitB'_ok x3 (by simp)
    fi := kitB'_ok x4 (by simp), fb := kitB'_ok x4 (by simp), fs := kitB'_ok x4 (by simp), fn := kitB'_ok x4 (by simp), fl := kitB'_ok x4 (by simp), ft := kitB'_ok x4 (by simp), fd := kitB'_ok x4 (by simp) }
  have O : ObC K (He.ga K "Float") (He.ga K "Table") := ⟨ownB_ok x5, kitB'_ok x4 (by simp)⟩
  have TT : TbC K mg (He.ga K "Table") := ⟨ownB_ok x5, noB_ok x6 (by simp), noB_ok x6 (by simp), noB_ok x6 (by simp), noB_ok x6 (by simp), noB_ok x6 (by simp), glo "Table" (by simp [hglo])⟩
  have TI := idB_ok x7
  obtain ⟨f1, F1⟩ := c.defs (d := d_isplain) (by simp [hfn])
  obtain ⟨f2, F2⟩ := c.defs (d := d_reduced) (by simp [hfn])
  obtain ⟨f3, F3⟩ := c.defs (d := d_fits) (by simp [hfn])
  obtain ⟨f4, F4⟩ := c.defs (d := d_signof) (by simp [hfn])
  obtain ⟨f5, F5⟩ := c.defs (d := d_infinity) (by simp [hfn])
  obtain ⟨f6, F6⟩ := c.defs (d := d_nearest) (by simp [hfn])
  obtain ⟨f7, F7⟩ := c.defs (d := d_isnumber) (by simp [hfn])
  obtain ⟨f8, F8⟩ := c.defs (d := d_tofloat) (by simp [hfn])
  obtain ⟨f9, F9⟩ := c.defs (d := d_orderof) (by simp [hfn])
  obtain ⟨f10, F10⟩ := c.defs (d := d_placeof0) (by simp [hfn])
  obtain ⟨f11, F11⟩ := c.defs (d := d_compare) (by simp [hfn])
  obtain ⟨f12, F12⟩ := c.defs (d := d_same) (by simp [hfn])
  obtain ⟨f13, F13⟩ := c.defs (d := d_powerfor) (by simp [hfn])
  obtain ⟨f14, F14⟩ := c.defs (d := d_Float_init) (by simp [hfn])
  obtain ⟨f15, F15⟩ := c.defs (d := d_Float_isfinite) (by simp [hfn])
  obtain ⟨f16, F16⟩ := c.defs (d := d_Float_ratio) (by simp [hfn])
  obtain ⟨f17, F17⟩ := c.defs (d := d_Table_init) (by simp [hfn])
  obtain ⟨f18, F18⟩ := c.defs (d := d_Lwell) (by simp [hfn])
  obtain ⟨f19, F19⟩ := c.defs (d := d_Ldraw) (by simp [hfn])
  obtain ⟨f20, F20⟩ := c.defs (d := d_Lone) (by simp [hfn])
  obtain ⟨f21, F21⟩ := c.defs (d := d_Lgreat) (by simp [hfn])
  obtain ⟨f22, F22⟩ := c.defs (d := d_Lfinite) (by simp [hfn])
  obtain ⟨f23, F23⟩ := c.defs (d := d_Lfloat) (by simp [hfn])
  obtain ⟨f24, F24⟩ := c.defs (d := d_Lfraction) (by simp [hfn])
  obtain ⟨f25, F25⟩ := c.defs (d := d_Lright) (by simp [hfn])
  obtain ⟨f26, F26⟩ := c.defs (d := d_Lnumbers) (by simp [hfn])
  obtain ⟨f27, F27⟩ := c.defs (d := d_Lothersright) (by simp [hfn])
  obtain ⟨f28, F28⟩ := c.defs (d := d_law) (by simp [hfn])
  have e := hfa'.symm.trans (glo "law" (by simp [hglo]))
  cases e
  have b := FunD.bindsA (ps := ["_law_script"]) F28 fun _ _ _ _ _ _ us hl => match us, hl with | [_], _ => rfl
  refine ⟨f28, fun s v => b s [v] rfl, fun base _ _ => ?_⟩
  have c1 : Fn P w K mg base CX0 1 "is_plain" _ [] _ := fn_mk F1 (glo "is_plain" (by simp [hglo])) (ok_isplain F1 B) (fun _ _ _ _ _ _ us hl => match us, hl with | [_], _ => rfl)
  have c2 : Fn P w K mg base CX0 1 "reduced" _ [] _ := fn_mk F2 (glo "reduced" (by simp [hglo])) (ok_reduced F2 B) (fun _ _ _ _ _ _ us hl => match us, hl with | [_, _], _ => rfl)
  have c3 : Fn P w K mg base CX0 1 "fits" _ [] _ := fn_mk F3 (glo "fits" (by simp [hglo])) (ok_fits F3 B i_ROOM i_LOWEST i_TOO) (fun _ _ _ _ _ _ us hl => match us, hl with | [_, _], _ => rfl)
  have c4 : Fn P w K mg base CX0 1 "sign_of" _ [] _ := fn_mk F4 (glo "sign_of" (by simp [hglo])) (ok_signof F4) (fun _ _ _ _ _ _ us hl => match us, hl with | [_], _ => rfl)
  have c14 : CnF P w K mg base (He.ga K "Float") := cn_mk F14 mkF' T.mg (ok_Finit F14 B T c1 c2 c3) (fun _ _ _ _ _ _ us hl => match us, hl with | [_, _, _, _], _ => rfl)
  have c5 : Fn P w K mg base CX0 4 "infinity" _ [] _ := fn_mk F5 (glo "infinity" (by simp [hglo])) (ok_infinity F5 c14) (fun _ _ _ _ _ _ us hl => match us, hl with | [_], _ => rfl)
  have c6 : Fn P w K mg base CX0 5 "nearest" _ [] _ := fn_mk F6 (glo "nearest" (by simp [hglo])) (ok_nearest F6 B i_ROOM i_LOWEST i_TOO c14 c5) (fun _ _ _ _ _ _ us hl => match us, hl with | [_, _, _], _ => rfl)
  have c7 : Fn P w K mg base CX0 2 "is_number" _ [] _ := fn_mk F7 (glo "is_number" (by simp [hglo])) (ok_isnumber F7 B T c1) (fun _ _ _ _ _ _ us hl => match us, hl with | [_], _ => rfl)
  have c8 : Fn P w K mg base CX0 6 "to_float" _ [] _ := fn_mk F8 (glo "to_float" (by simp [hglo])) (ok_tofloat F8 B T c6 c4) (fun _ _ _ _ _ _ us hl => match us, hl with | [_], _ => rfl)
  have c15 : Mt P w K mg base CX0 1 (He.ga K "Float") "is_finite" _ _ := mt_mk F15 mt1 T.own.cl (ok_isfinite F15 B T) (fun _ _ _ _ _ _ us hl => match us, hl with | [_], _ => rfl)
  have c16 : Mt P w K mg base CX0 1 (He.ga K "Float") "ratio" _ _ := mt_mk F16 mt2 T.own.cl (ok_ratio F16 B T) (fun _ _ _ _ _ _ us hl => match us, hl with | [_], _ => rfl)
  have c10 : Fn P w K mg base CX0 2 "place_of_numbers" _ [] _ := fn_mk F10 (glo "place_of_numbers" (by simp [hglo])) (ok_placeof F10 B T i_TOO c15 c16) (fun _ _ _ _ _ _ us hl => match us, hl with | [_], _ => rfl)
  have c9 : Fn P w K mg base CX0 3 "order_of" _ [] _ := fn_mk F9 (glo "order_of" (by simp [hglo])) (ok_orderof F9 B c10) (fun _ _ _ _ _ _ us hl => match us, hl with | [_, _], _ => rfl)
  have c11 : Fn P w K mg base CX0 4 "compare" _ [] _ := fn_mk F11 (glo "compare" (by simp [hglo])) (ok_compare F11 B c9) (fun _ _ _ _ _ _ us hl => match us, hl with | [_, _, _], _ => rfl)
  have c12 : Fn P w K mg base CX0 4 "same" _ [] _ := fn_mk F12 (glo "same" (by simp [hglo])) (ok_same F12 B T O TI c7 c9) (fun _ _ _ _ _ _ us hl => match us, hl with | [_, _], _ => rfl)
  have c13 : Fn P w K mg base CX0 1 "power_for" _ [] _ := fn_mk F13 (glo "power_for" (by simp [hglo])) (ok_powerfor F13 B) (fun _ _ _ _ _ _ us hl => match us, hl with | [_], _ => rfl)
  have o17 := ok_Tinit (P := P) (w := w) (base := base) F17 B TT c13
  obtain ⟨ds, r17, b17⟩ := FunD.binds (ps := ["self", "number", "array", "nodes", "meta"]) F17 2 0 (by simp [d_Table_init, He.DefD.dvs]) (by simp [d_Table_init, He.DefD.dvs, He.DefD.kws])
    (fun T D doc pm an cdv ct us its ks hu hi hk => match us, its, ks, hu, hi, hk with | [_, _], [_, _], [_], _, _, _ => ⟨_, rfl, _, _, _, _, _, _, rfl, rfl, rfl⟩) (by simp [d_Table_init, He.DefD.kws])
  have c17 : CnT P w K mg base (He.ga K "Table") := ⟨_, f17, ds, o17, mkT', glo "Table" (by simp [hglo]), b17, r17⟩
  have c18 : Fn P w K mg base CX0 1 "_law_well" _ [] _ := fn_mk F18 (glo "_law_well" (by simp [hglo])) (ok_Lwell F18 B) (fun _ _ _ _ _ _ us hl => match us, hl with | [_], _ => rfl)
  have c19 : Fn P w K mg base CX0 1 "_law_draw" _ [] _ := fn_mk F19 (glo "_law_draw" (by simp [hglo])) (ok_Ldraw F19 B) (fun _ _ _ _ _ _ us hl => match us, hl with | [_, _], _ => rfl)
  have c20 : Fn P w K mg base CX0 2 "_law_one" _ [] _ := fn_mk F20 (glo "_law_one" (by simp [hglo])) (ok_Lone F20 B c19) (fun _ _ _ _ _ _ us hl => match us, hl with | [_, _], _ => rfl)
  have c21 : Fn P w K mg base CX0 2 "_law_great" _ [] _ := fn_mk F21 (glo "_law_great" (by simp [hglo])) (ok_Lgreat F21 B c19) (fun _ _ _ _ _ _ us hl => match us, hl with | [_, _], _ => rfl)
  have c22 : Fn P w K mg base CX0 3 "_law_finite" _ [] _ := fn_mk F22 (glo "_law_finite" (by simp [hglo])) (ok_Lfinite F22 B c19 c20 c21) (fun _ _ _ _ _ _ us hl => match us, hl with | [_], _ => rfl)
  have c23 : Fn P w K mg base CX0 4 "_law_float" _ [] _ := fn_mk F23 (glo "_law_float" (by simp [hglo])) (ok_Lfloat F23 B c14 c19 c20 c22) (fun _ _ _ _ _ _ us hl => match us, hl with | [_], _ => rfl)
  have c24 : Fn P w K mg base CX0 1 "_law_fraction" _ [] _ := fn_mk F24 (glo "_law_fraction" (by simp [hglo])) (ok_Lfraction F24 B T) (fun _ _ _ _ _ _ us hl => match us, hl with | [_], _ => rfl)
  have c25 : Fn P w K mg base CX0 5 "_law_right" _ [] _ := fn_mk F25 (glo "_law_right" (by simp [hglo])) (ok_Lright F25 B c24 c11 c12) (fun _ _ _ _ _ _ us hl => match us, hl with | [_, _], _ => rfl)
  have c26 : Fn P w K mg base CX0 7 "_law_numbers" _ [] _ := fn_mk F26 (glo "_law_numbers" (by simp [hglo])) (ok_Lnumbers F26 B T c14 c19 c20 c21 c23 c8) (fun _ _ _ _ _ _ us hl => match us, hl with | [_], _ => rfl)
  have c27 : Fn P w K mg base CX0 6 "_law_others_right" _ [] _ := fn_mk F27 (glo "_law_others_right" (by simp [hglo])) (ok_Lothers F27 B c14 c17 c20 c12) (fun _ _ _ _ _ _ us hl => match us, hl with | [_], _ => rfl)
  exact ok_law F28 B c18 c26 c25 c27
end Up
open PySem PySem.W PySem.Calls PyProof.Rows
theorem PySem.Challenge.cw_upvalues_k05_whole_order_of_numbers_holds : PySem.Challenge.rw_upvalues_k05_whole_order_of_numbers.Holds := by
  w_on; o_law
  refine HandSHeadRun.head_any (r := OpenLaw.row PySem.Challenge.rw_upvalues_k05_whole_order_of_numbers) (q := view (OpenLaw.row PySem.Challenge.rw_upvalues_k05_whole_order_of_numbers).prog [49]) (H := Up.hk) (ob := Up.hob) (M := 6000) (loose := Up.hloose) (d := HandSHeadRun.topDef (OpenLaw.row PySem.Challenge.rw_upvalues_k05_whole_order_of_numbers).prog 49) (kwd := []) Up.hob_eq
    (by kernel_rfl) (fun s => by kernel_rfl) Up.hrun (by kernel_rfl) (by kernel_rfl) (by kernel_rfl) (by rfl) (by first | assumption | decide +kernel) (by decide +kernel) ⟨rfl, rfl, rfl, rfl, rfl, by decide +kernel⟩ ?hw ?hc
  case hw => w_witness2
  case hc =>
    refine L2.walk_ofE (l := PySem.Challenge.rw_upvalues_k05_whole_order_of_numbers) (n := 63) (k := 8) (x := "_law_script") (CX := L2.CX0) rfl (by decide) (by kernel_rfl) ⟨rfl, by decide, by decide⟩ ?F (fun _ _ _ _ z => z)
    intro w mg fa h Y G hmg0
    obtain ⟨K, KX, c⟩ := Y
    have hmg : mg ("law" : PySem.Str) = some (.ref fa) := by
      have e : (HandSHeadRun.topDef (OpenLaw.row PySem.Challenge.rw_upvalues_k05_whole_order_of_numbers).prog 49).name = ("law" : PySem.Str) := by kernel_rfl
      rw [← e]
      exact hmg0
    obtain ⟨fd, hb, hF⟩ := Up.facts (P := (PySem.Challenge.rw_upvalues_k05_whole_order_of_numbers).prog) (w := w) KX G hmg c
    exact ⟨K, fd, Up.spLaw K, KX, hb, fun H a ns hl _ hS => ⟨a, ns, rfl, hS, hl, fun _ => rfl⟩, hF⟩
#print axioms PySem.Challenge.cw_upvalues_k05_whole_order_of_numbers_holds
