import PyProof.Rows.All
import Wide.All
import OpenK.AllK
import Wide.FinOn
import PyProof.EqAt
import PyProof.EqKinds
import PyProof.TupleCall
import HandS.ForMost
import HandS.IsInst
import HandS.Wide
import HandS.WideBits
import HandS.TupAny
import HandS.Deep
import HandS.Flow
import HandS.Defaults
import HandS.Exc
import HandS.WordsExc
import HandS.Codes
import HandS.More
import HandS.Style
import PyProof.NeKinds
import HandS.MakeKwOnly
import HandS.Walk
import KE.KStateDown
import HandS.Head0
import HandS.Head1
import HandS.Head2
import HandS.HeadEnd
import HandS.HeadHook1
import HandS.HeadHook2
import HandS.HeadHook3
import HandS.HeadHook4
import PySem.Challenge.RW_upvalues_k12_whole_borders_of_tables
set_option Elab.async false
set_option linter.all false
set_option maxRecDepth 100000
set_option maxHeartbeats 4000000
namespace Up
open PySem PySem.Spec PyProof.Rows L2

theorem sz {n : Nat} (h : Nat.ble n 100000 = true) : n ≤ sizeLine := Nat.le_trans (Nat.le_of_ble_eq_true h) (by decide)
/-! ### a new object, by what is known of the heap behind it -/
def NewAt (H : Hp) (o : HO) (Q : VK) : Prop := ∀ p H', H p = none → Same H H' → H' p = some o → (∀ b, b ≠ p → H' b = H b) → Q (.ref p) H'
theorem NewAt.all {H : Hp} {o : HO} {Q : VK} (h : NewAt H o Q) : ∀ p, H p = none → Q (.ref p) (upd H p o) := fun p hp =>
  h p _ hp (fun b u e => by rw [upd_ne (ne_of_none e hp)]; exact e) upd_same fun b hb => upd_ne hb
def tTupN (t : TA) : TE := fun σ H Q => t σ H fun xs H1 => xs.length ≤ sizeLine ∧ NewAt H1 (.tup xs) Q
def tLstN (t : TA) : TE := fun σ H Q => t σ H fun xs H1 => xs.length ≤ sizeLine ∧ NewAt H1 (.lst xs) Q
section
variable {X : Cx} {es : List Expr} {t : TA} {pos : Pos}
theorem pe_tupN {x1} (h : PA X es t) : PE X (.Tuple es x1 pos) (tTupN t) := by
  refine ⟨fun pins s σ H Q I hq => ?_⟩
  refine wpAny_Tuple_spliced (thn (h.run pos pins s σ H _ I hq) fun us s1 ⟨xs, H1, I1, r, z, q⟩ => ⟨(by rw [← r.length]; exact z), ?_⟩)
  exact ⟨.ref s1.heap.objs.size, upd H1 s1.heap.objs.size (.tup xs), I1.laid (t' := s1.toks) (fun b u e => Heap.get?_push_of_some _ e) (Nat.le_refl _) ⟨z, us, r, ⟨_, Heap.get?_push_size _ rfl, rfl, _, rfl⟩⟩, rfl, q.all _ (I1.hok.fresh (Nat.le_refl _))⟩
theorem pe_lstN (h : PA X es t) : PE X (.List es pos) (tLstN t) := by
  refine ⟨fun pins s σ H Q I hq => ?_⟩
  refine wpAny_List_spliced (thn (h.run pos pins s σ H _ I hq) fun us s1 ⟨xs, H1, I1, r, z, q⟩ => ⟨(by rw [← r.length]; exact z), ?_⟩)
  exact ⟨.ref s1.heap.objs.size, upd H1 s1.heap.objs.size (.lst xs), I1.laid (t' := s1.toks) (fun b u e => Heap.get?_push_of_some _ e) (Nat.le_refl _) ⟨z, us, 0, r, Heap.get?_push_size _ rfl⟩, rfl, q.all _ (I1.hok.fresh (Nat.le_refl _))⟩
end
/-! ### operators by the kinds of their values -/
section
variable {X : Cx} {f : Value → Value → Sem Value} {r r' : R2}
theorem op_or (h : OpR X f r) (h' : OpR X f r') : OpR X f (fun x y H Q => r x y H Q ∨ r' x y H Q) := by
  intro pins s σ H x y v u Q I rx ry q
  rcases q with q | q
  · exact h pins s σ H x y v u Q I rx ry q
  · exact h' pins s σ H x y v u Q I rx ry q
theorem op_wk (h : OpR X f r) (k : ∀ x y H Q, r' x y H Q → r x y H Q) : OpR X f r' := by
  intro pins s σ H x y v u Q I rx ry q
  exact h pins s σ H x y v u Q I rx ry (k _ _ _ _ q)
theorem op_wh {S : Prop} (h : S → OpR X f r) (k : ∀ x y H Q, r' x y H Q → S ∧ r x y H Q) : OpR X f r' := by
  intro pins s σ H x y v u Q I rx ry q
  exact h (k _ _ _ _ q).1 pins s σ H x y v u Q I rx ry (k _ _ _ _ q).2
end
/-- two lists that are read -/
def oCatS (K : PySem.W.Frag) : R2 := fun x y H Q => ∃ a b xs ys, x = .ref a ∧ y = .ref b ∧ SqL K H a xs ∧ SqL K H b ys ∧ xs.length + ys.length ≤ sizeLine ∧ NewAt H (.lst (xs ++ ys)) Q
theorem op_catS {X : Cx} : OpR X (binaryOp .Add) (oCatS X.K) := by
  intro pins s σ H x y v u Q I rx ry h
  obtain ⟨a, b, xs, ys, rfl, rfl, ha, hb, hz, q⟩ := h
  cases rx
  cases ry
  obtain ⟨its, r1, p1, _⟩ := I.list ha
  obtain ⟨jts, r2, p2, _⟩ := I.list hb
  have l1 := r1.length
  have l2 := r2.length
  obtain ⟨⟨c1, d1, t1, z1⟩, n1, e1, k1, _, w1⟩ := p1
  obtain ⟨⟨c2, d2, t2, z2⟩, n2, e2, k2, _, w2⟩ := p2
  simp only at k1 w1 k2 w2
  subst k1 w1 k2 w2
  refine concat_meets (S := _) ⟨_, e1, rfl⟩ ⟨_, e2, rfl⟩ noFill_list_add seq_list_add PySem.F.slot_list_add PySem.F.entry_list_add (PySem.F.args_list_add_2 _ _) (list_addW a b its.toArray jts.toArray n1 n2 d1 d2 z1 z2 (by rw [List.size_toArray, List.size_toArray]; omega)) ⟨e1, e2, ?_⟩
  rw [show its.toArray ++ jts.toArray = (its ++ jts).toArray by simp]
  exact ⟨.ref _, _, I.lnew (t' := s.toks) (r1.append r2) (by rw [List.length_append]; omega), rfl, q.all _ I.fresh⟩
/-- two tuples -/
def oCatU (K : PySem.W.Frag) : R2 := fun x y H Q => ∃ a b xs ys, x = .ref a ∧ y = .ref b ∧ SqT K H a xs ∧ SqT K H b ys ∧ xs.length + ys.length ≤ sizeLine ∧ xs ≠ [] ∧ ys ≠ [] ∧ NewAt H (.tup (xs ++ ys)) Q
/-- a + b -/
def oAdd (K : PySem.W.Frag) : R2 := fun x y H Q => match x, y with
  | .int i, .int j => Q (.int (i + j)) H
  | .str a, .str b => a.length + b.length ≤ sizeLine ∧ Q (.str (a ++ b)) H
  | .ref a, .ref b => oCatS K (.ref a) (.ref b) H Q ∨ oCatU K (.ref a) (.ref b) H Q
  | _, _ => False
theorem op_oAdd {X : Cx} : OpR X (binaryOp .Add) (oAdd X.K) := by
  refine op_wk (op_or op_add (op_or op_add_str (op_or op_catS op_catA))) fun x y H Q q => ?_
  cases x <;> cases y <;> first | exact q.elim | skip
  · exact .inl ⟨_, _, rfl, rfl, q⟩
  · exact .inr (.inl ⟨_, _, rfl, rfl, q⟩)
  · rcases q with q | ⟨c, d, xs, ys, e1, e2, h1, h2, hz, n1, n2, q⟩
    · exact .inr (.inr (.inl q))
    · exact .inr (.inr (.inr ⟨c, d, xs, ys, e1, e2, h1, h2, hz, fun z => absurd z n1, fun _ z => absurd z n2, fun _ _ => q.all⟩))
/-- a - b, of ints and of bools -/
def oSub : R2 := fun x y H Q => match x, y with
  | .int i, .int j => Q (.int (i - j)) H
  | .bl i, .bl j => Q (.int (b2i i - b2i j)) H
  | _, _ => False
theorem op_sub_bb {X : Cx} : OpR X (binaryOp .Sub) (fun x y H Q => ∃ i j, x = .bl i ∧ y = .bl j ∧ Q (.int (b2i i - b2i j)) H) := by
  intro pins s σ H x y v u Q I rx ry h
  obtain ⟨i, j, rfl, rfl, q⟩ := h
  cases rx
  cases ry
  exact sub_bool ⟨.int (b2i i - b2i j), H, I.tok _, ⟨_, rfl⟩, q⟩
theorem op_oSub {X : Cx} : OpR X (binaryOp .Sub) oSub := by
  refine op_wk (op_or op_sub op_sub_bb) fun x y H Q q => ?_
  cases x <;> cases y <;> first | exact q.elim | skip
  · exact .inr ⟨_, _, rfl, rfl, q⟩
  · exact .inl ⟨_, _, rfl, rfl, q⟩
/-- a * b -/
def oMul : R2 := fun x y H Q => match x, y with
  | .int i, .int j => IntMulOk i j ∧ Q (.int (i * j)) H
  | .ref a, .int k => ∃ xs, H a = some (.lst xs) ∧ -(2 ^ 63) ≤ k ∧ k < 2 ^ 63 ∧ xs.length * k.toNat ≤ sizeLine ∧ NewAt H (.lst (List.replicate k.toNat xs).flatten) Q
  | _, _ => False
theorem op_mulK {X : Cx} : OpR X (binaryOp .Mult) (rI IntMulOk fun i j => .int (i * j)) := opI fun _ _ _ _ _ _ _ hc q => mul_int q hc
theorem op_oMul {X : Cx} : OpR X (binaryOp .Mult) oMul := by
  refine op_wk (op_or op_mulK op_rep) fun x y H Q q => ?_
  cases x <;> cases y <;> first | exact q.elim | skip
  · exact .inl ⟨_, _, rfl, rfl, q⟩
  · obtain ⟨xs, h1, h2, h3, h4, q⟩ := q
    exact .inr ⟨_, _, xs, rfl, rfl, h1, h2, h3, h4, q.all⟩
/-- a // b -/
def oDiv : R2 := fun x y H Q => match x, y with
  | .int i, .int j => (j ≠ 0 ∧ j.natAbs.log2 < 9000) ∧ Q (.int (i.fdiv j)) H
  | _, _ => False
theorem op_oDiv {X : Cx} : OpR X (binaryOp .FloorDiv) oDiv := by
  refine op_wk (r := rI (fun _ j => j ≠ 0 ∧ j.natAbs.log2 < 9000) fun i j => .int (i.fdiv j)) (opI fun _ _ _ _ _ _ _ hc q => floordiv_int hc.1 q (.inl (PyProof.noPylong_of_log2 hc.2))) fun x y H Q q => ?_
  cases x <;> cases y <;> first | exact q.elim | skip
  exact ⟨_, _, rfl, rfl, q⟩
/-- a % b -/
def oMod : R2 := fun x y H Q => match x, y with
  | .int i, .int j => j ≠ 0 ∧ Q (.int (i.fmod j)) H
  | _, _ => False
theorem op_oMod {X : Cx} : OpR X (binaryOp .Mod) oMod := by
  refine op_wk op_modN fun x y H Q q => ?_
  cases x <;> cases y <;> first | exact q.elim | skip
  exact ⟨_, _, rfl, rfl, q⟩
/-- an operator of two ints with a condition -/
def oII (C : Int → Int → Prop) (g : Int → Int → V) : R2 := fun x y H Q => match x, y with
  | .int i, .int j => C i j ∧ Q (g i j) H
  | _, _ => False
theorem op_oII {X : Cx} {f : Value → Value → Sem Value} {C : Int → Int → Prop} {g : Int → Int → V} (h : OpR X f (rI C g)) : OpR X f (oII C g) := by
  refine op_wk h fun x y H Q q => ?_
  cases x <;> cases y <;> first | exact q.elim | skip
  exact ⟨_, _, rfl, rfl, q⟩
def oI0 (g : Int → Int → V) : R2 := fun x y H Q => match x, y with
  | .int i, .int j => Q (g i j) H
  | _, _ => False
theorem op_oI0 {X : Cx} {f : Value → Value → Sem Value} {g : Int → Int → V} (h : OpR X f (rI0 g)) : OpR X f (oI0 g) := by
  refine op_wk h fun x y H Q q => ?_
  cases x <;> cases y <;> first | exact q.elim | skip
  exact ⟨_, _, rfl, rfl, q⟩
abbrev oPow : R2 := oII CPow fun i j => .int (i ^ j.toNat)
abbrev oShl : R2 := oII CShl fun i j => .int (i * 2 ^ j.toNat)
abbrev oShr : R2 := oII (fun _ j => 0 ≤ j) fun i j => .int (i / 2 ^ j.toNat)
abbrev oAnd : R2 := oI0 fun i j => .int (Builtin.bitAnd i j)
abbrev oOr : R2 := oI0 fun i j => .int (Builtin.bitOr i j)
abbrev oXor : R2 := oI0 fun i j => .int (Builtin.bitXor i j)
theorem op_oPow {X : Cx} : OpR X (binaryOp .Pow) oPow := op_oII op_pow
theorem op_oShl {X : Cx} : OpR X (binaryOp .LShift) oShl := op_oII op_shlW
theorem op_oShr {X : Cx} : OpR X (binaryOp .RShift) oShr := op_oII op_shr
theorem op_oAnd {X : Cx} : OpR X (binaryOp .BitAnd) oAnd := op_oI0 op_and
theorem op_oOr {X : Cx} : OpR X (binaryOp .BitOr) oOr := op_oI0 L2.op_or
theorem op_oXor {X : Cx} : OpR X (binaryOp .BitXor) oXor := op_oI0 op_xor
/-! ### comparisons -/
def oCmp (g : Int → Int → Bool) (k : Str → Str → Bool) : R2 := fun x y H Q => match x, y with
  | .int i, .int j => Q (.bl (g i j)) H
  | .str a, .str b => Q (.bl (k a b)) H
  | _, _ => False
theorem op_oCmp {X : Cx} {f : Value → Value → Sem Value} {g : Int → Int → Bool} {k : Str → Str → Bool} (h : OpR X f (rI0 fun i j => .bl (g i j))) (h' : OpR X f (fun x y H Q => ∃ i j, x = .str i ∧ y = .str j ∧ Q (.bl (k i j)) H)) : OpR X f (oCmp g k) := by
  refine op_wk (op_or h h') fun x y H Q q => ?_
  cases x <;> cases y <;> first | exact q.elim | skip
  · exact .inl ⟨_, _, rfl, rfl, q⟩
  · exact .inr ⟨_, _, rfl, rfl, q⟩
abbrev oLt : R2 := oCmp (fun i j => decide (i < j)) fun a b => decide (a.cps.toList < b.cps.toList)
theorem op_oLt {X : Cx} : OpR X (compareOp .Lt) oLt := op_oCmp op_lt op_lt_str
abbrev oLe : R2 := oI0 fun i j => .bl (decide (i ≤ j))
abbrev oGt : R2 := oI0 fun i j => .bl (decide (j < i))
abbrev oGe : R2 := oI0 fun i j => .bl (decide (j ≤ i))
theorem op_oLe {X : Cx} : OpR X (compareOp .LtE) oLe := op_oI0 op_le
theorem op_oGt {X : Cx} : OpR X (compareOp .Gt) oGt := op_oI0 op_gt
theorem op_oGe {X : Cx} : OpR X (compareOp .GtE) oGe := op_oI0 op_ge
/-- a == b of scalars, of data -/
def oEq (K : PySem.W.Frag) : R2 := fun x y H Q => rEq x y H Q ∨ rEqD K x y H Q
def oNe (K : PySem.W.Frag) : R2 := fun x y H Q => rNe x y H Q ∨ rNeD K x y H Q
theorem op_oEq {X : Cx} (hu : X.A.units + 64 < cLine) : OpR X (compareOp .Eq) (oEq X.K) := op_or op_eq (op_eqD hu)
theorem op_oNe {X : Cx} (hu : X.A.units + 64 < cLine) : OpR X (compareOp .NotEq) (oNe X.K) := op_or op_ne (op_neD hu)

/-! ### slices, divmod -/
def oSlL (K : PySem.W.Frag) : V → Option Int → Option Int → Hp → VK → Prop := fun x lo hi H Q => ∃ a xs, x = .ref a ∧ SqL K H a xs ∧ NewAt H (.lst (cutV xs lo hi)) Q
theorem sl_lstN {X : Cx} : SlR X (oSlL X.K) := by
  intro pins s σ H x v vl vu lo hi sl Q I rx hs pl pu h
  obtain ⟨a, xs, e, hq, q⟩ := h
  exact sl_list pins s σ H x v vl vu lo hi sl Q I rx hs pl pu ⟨a, xs, e, hq, q.all⟩
def rDivm : List V → Hp → VK → Prop := fun xs H Q => ∃ i j, xs = [.int i, .int j] ∧ (0 < j ∧ j.natAbs.log2 < 9000) ∧ NewAt H (.tup [.int (i / j), .int (i % j)]) Q
theorem call_divmodK {X : Cx} : CallR X (.builtin "divmod") rDivm := by
  intro pins s σ H xs us Q I r h
  obtain ⟨i, j, e, hc, q⟩ := h
  exact call_divmodW pins s σ H xs us Q I r ⟨i, j, e, ⟨hc.1, PyProof.noPylong_of_log2 hc.2⟩, q.all⟩
/-! ### targets: o.f of an instance -/
def gFld (K : PySem.W.Frag) (to : TE) (f : Str) : TG := fun v σ H Q => to σ H fun x H1 => ∃ a C dx fs, x = .ref a ∧ H1 a = some (.ins C dx fs) ∧ Cls K C ∧ NoAttr K C f ∧ fs.length < 1000 ∧ Q σ (upd H1 a (.ins C dx (putF f v fs)))
theorem pg_fld {X : Cx} {o : Expr} {f : Str} {pos : Pos} {to : TE} (ho : PE X o to)
    (ha : ∀ v, assign (.Attribute o f pos) X.env v = (do
      let ov ← holding [v] (eval o X.env)
      standAt pos.atName
      holding [v, ov] (setAttr ov f v)
      release [v, ov] []) := by intro _; rfl) : PG X (.Attribute o f pos) (gFld X.K to f) := by
  refine ⟨fun pins s σ H v u Q I r h => ?_⟩
  rw [ha]
  refine wpAny_bind (wpAny_holding (thn (ho.run pins s σ H _ I h) fun ov s1 ⟨x, H1, I1, r1, a, C, dx, fs, ex, ea, c, n, l, q1⟩ => ?_))
  subst ex
  obtain rfl : ov = Value.ref a := r1
  refine wpAny_bind (wpAny_standAt (wpAny_bind (wpAny_holding (setattr_ok I1 ea c n l r fun s3 I3 => ?_))))
  exact wpAny_release ⟨σ, _, I3, q1⟩

/-! ### a def of the text, called by its name -/
section
variable (P : Program) (w : World) (K : PySem.W.Frag) (mg : Str → Option Value) (base : Heap)
/-- the module's name x holds a def that keeps sp -/
def Fn (CX : CXT) (k : Nat) (x : Str) (ps : List Str) (dvs : List V) (sp : Sp) : Prop :=
  ∃ f fd ds, FnOk P w K mg base CX k f fd ps sp ∧ mg x = some (.ref f) ∧ PySem.W.keepIn K (.ref f) = true ∧ Binds K fd ps ds ∧ Vals dvs ds
/-- the class at C has a method m that keeps sp -/
def Mt (CX : CXT) (k : Nat) (C : Addr) (m : Str) (ps : List Str) (sp : Sp) : Prop :=
  ∃ f fd, FnOk P w K mg base CX k f fd ps sp ∧ Meth K C m f ∧ Binds K fd ps [] ∧ Cls K C
/-- the name x holds a class at C that is made by an __init__ that keeps sp -/
def Cn (CX : CXT) (k : Nat) (x : Str) (C : Addr) (ps : List Str) (dvs : List V) (sp : Sp) : Prop :=
  ∃ f fd ds, FnOk P w K mg base CX k f fd ps sp ∧ Mk K C f ∧ mg x = some (.ref C) ∧ Binds K fd ps ds ∧ Vals dvs ds
end
section
variable {X : Cx} {CX : CXT} {k : Nat} {C : Addr} {x m : Str} {ps : List Str} {dvs : List V} {sp : Sp} {E : XK} {p pos apos : Pos} {e o : Expr} {es : List Expr} {ta : TE} {t : TA}
theorem pe_fn (F : Fn X.prog X.w X.K X.mg X.base CX k x ps dvs sp) (hr : Room k X.A) (hx : Passes CX X E) (ha : PA X (e :: es) t) (hg : Gl X x := by rfl)
    (hdb : (x == ("__debug__" : Str)) = false := by decide) (he : starEach (e :: es) X.env = (false, eval e X.env) :: starEach es X.env := by rfl) (hpl : (backTo pos (starEach es X.env)).any (·.1) = false := by rfl) :
    PE X (.Call (.Name x p) (e :: es) [] pos) (tCall sp dvs E t) := by
  obtain ⟨f, fd, ds, F, hm, hk, hb, hd⟩ := F
  exact pe_call F hr hg hm hk hb hd hx ha hdb he hpl
theorem pe_fn0 (F : Fn X.prog X.w X.K X.mg X.base CX k x ps dvs sp) (hr : Room k X.A) (hx : Passes CX X E) (hg : Gl X x := by rfl)
    (hdb : (x == ("__debug__" : Str)) = false := by decide) : PE X (.Call (.Name x p) [] [] pos) (tCall sp dvs E tNil) := by
  obtain ⟨f, fd, ds, F, hm, hk, hb, hd⟩ := F
  exact pe_call0 F hr hg hm hk hb hd hx hdb
/-- C(..): a new instance and its dict, then __init__ -/
def MakeR (C : Addr) (sp : Sp) (vs : List V) (H : Hp) (Q : VK) (E : XK) : Prop := ∀ x dx H', H x = none → H dx = none → dx ≠ x → Same H H' → H' x = some (.ins C dx []) → (∀ b, b ≠ x → b ≠ dx → H' b = H b) →
  sp (.ref x :: vs) H' (fun v H2 => v = .non ∧ Q (.ref x) H2) E
def tMakeN (C : Addr) (sp : Sp) (dvs : List V) (E : XK) (t : TA) : TE := fun σ H Q => t σ H fun vs H1 => MakeR C sp (vs ++ dvs) H1 Q E
theorem pe_cn (F : Cn X.prog X.w X.K X.mg X.base CX k x C ps dvs sp) (hr : Room (k + 1) X.A) (hx : Passes CX X E) (ha : PA X (e :: es) t) (hg : Gl X x := by rfl)
    (hdb : (x == ("__debug__" : Str)) = false := by decide) (he : starEach (e :: es) X.env = (false, eval e X.env) :: starEach es X.env := by rfl) (hpl : (backTo pos (starEach es X.env)).any (·.1) = false := by rfl) :
    PE X (.Call (.Name x p) (e :: es) [] pos) (tMakeN C sp dvs E t) := by
  obtain ⟨f, fd, ds, F, hM, hm, hb, hd⟩ := F
  refine ⟨fun pins s σ H Q I h => ?_⟩
  refine wpAny_Call_Name_kw (ld_glob I hg hm ?_ hdb)
  refine PySem.W.callWith_K (h₀ := X.base) I.ok.mod.kin hM.kp (thn (ha.run pos pins s σ H _ I h) fun us s1 ⟨vs, H1, I1, r, q⟩ => ⟨I1.kIn, ?_⟩) he hpl
  refine run_make hM F hr hb hd hx I1 r fun y dy n1 n2 ne => q y dy _ n1 n2 ne (fun b u z => ?_) upd_same fun b hb1 hb2 => ?_
  · rw [upd_ne (ne_of_none z n1), upd_ne (ne_of_none z n2)]; exact z
  · rw [upd_ne hb1, upd_ne hb2]
theorem pe_mt {pl : Sem Bool} (F : Mt X.prog X.w X.K X.mg X.base CX k C m ps sp) (hr : Room k X.A) (hx : Passes CX X E) (he : PE X o ta) (ha : PA X (e :: es) t)
    (hst : starEach (e :: es) X.env = (false, eval e X.env) :: starEach es X.env := by rfl) (hpl : (backTo pos (starEach es X.env)).any (·.1) = false := by rfl)
    (ht : eval (.Call (.Attribute o m apos) (e :: es) [] pos) X.env = (do
      let ov ← eval o X.env
      standAt apos.atName
      let (f, first) ← holding [ov] (getMethod ov m pl)
      callWith pos f first (backTo pos (starEach (e :: es) X.env)) (backToKw pos (keywordEach [] X.env))) := by rfl) :
    PE X (.Call (.Attribute o m apos) (e :: es) [] pos) (tMeth C m sp [] E ta t) := by
  obtain ⟨f, fd, F, hm, hb, c⟩ := F
  exact pe_meth (pl := pl) he c hm F hr hb .nil hx ha hst hpl ht
theorem pe_mt0 {pl : Sem Bool} (F : Mt X.prog X.w X.K X.mg X.base CX k C m ps sp) (hr : Room k X.A) (hx : Passes CX X E) (he : PE X o ta)
    (ht : eval (.Call (.Attribute o m apos) [] [] pos) X.env = (do
      let ov ← eval o X.env
      standAt apos.atName
      let (f, first) ← holding [ov] (getMethod ov m pl)
      callWith pos f first (backTo pos (starEach [] X.env)) (backToKw pos (keywordEach [] X.env))) := by rfl) :
    PE X (.Call (.Attribute o m apos) [] [] pos) (tMeth C m sp [] E ta tNil) := by
  obtain ⟨f, fd, F, hm, hb, c⟩ := F
  exact pe_meth0 (pl := pl) he c hm F hr hb .nil hx ht
end

/-! ### the rules with the written part named (within a comprehension) -/
section
variable {X : Cx} (K : PySem.W.Frag)
theorem call_isiE (h : X.K = K) : CallR X (.builtin "isinstance") (rIsi K) := h ▸ call_isi
theorem call_len_seqE (h : X.K = K) : CallR X (.builtin "len") (fun xs H Q => ∃ p ys, xs = [.ref p] ∧ (SqL K H p ys ∨ SqT K H p ys) ∧ Q (.int ys.length) H) := h ▸ call_len_seq
theorem op_oAddE (h : X.K = K) : OpR X (binaryOp .Add) (oAdd K) := h ▸ op_oAdd
theorem op_oEqE (h : X.K = K) (hu : X.A.units + 64 < cLine) : OpR X (compareOp .Eq) (oEq K) := h ▸ op_oEq hu
theorem op_oNeE (h : X.K = K) (hu : X.A.units + 64 < cLine) : OpR X (compareOp .NotEq) (oNe K) := h ▸ op_oNe hu
theorem op_inE (h : X.K = K) : OpR X (compareOp .In) (rIn K false) := h ▸ op_in_seq
theorem op_notInE (h : X.K = K) : OpR X (compareOp .NotIn) (rIn K true) := h ▸ op_notIn_seq
theorem ix_seqE (h : X.K = K) : IxR X (rIx K) := h ▸ ix_seq
theorem pe_fldE {e : Expr} {f : Str} {pos : Pos} {ta : TE} (h : X.K = K) (he : PE X e ta) (hb : attributeBase e f X.env (eval e X.env) = eval e X.env) : PE X (.Attribute e f pos) (tFld K ta f) := h ▸ pe_fld he hb
end
/-! ### names of the module -/
theorem pe_gint {X : Cx} {x : Str} {i : Int} {pos : Pos} (h : ∃ t, X.mg x = some (.int i t)) (hg : Gl X x := by rfl) (hd : (x == ("__debug__" : Str)) = false := by decide) : PE X (.Name x pos) (tC (.int i)) := by
  obtain ⟨t, h⟩ := h
  exact pe_glob hg h ⟨_, rfl⟩ hd
theorem pe_gref {X : Cx} {x : Str} {C : Addr} {pos : Pos} (h : X.mg x = some (.ref C)) (hg : Gl X x := by rfl) (hd : (x == ("__debug__" : Str)) = false := by decide) : PE X (.Name x pos) (tC (.ref C)) := pe_glob hg h rfl hd
/-- the built-ins that the text does not hide -/
structure Blt (mg : Str → Option Value) : Prop where
  len : mg "len" = none
  int : mg "int" = none
  bool : mg "bool" = none
  str : mg "str" = none
  isinstance : mg "isinstance" = none
  abs : mg "abs" = none
  max : mg "max" = none
  min : mg "min" = none
  divmod : mg "divmod" = none
  range : mg "range" = none
  enumerate : mg "enumerate" = none
  zip : mg "zip" = none
  list : mg "list" = none
  tuple : mg "tuple" = none
  ord : mg "ord" = none
  sorted : mg "sorted" = none
def bltNames : List Str := ["len", "int", "bool", "str", "isinstance", "abs", "max", "min", "divmod", "range", "enumerate", "zip", "list", "tuple", "ord", "sorted"]
theorem blt_of {mg : Str → Option Value} (h : ∀ x ∈ bltNames, mg x = none) : Blt mg := by
  have g : ∀ x, x ∈ bltNames → mg x = none := h
  exact ⟨g _ (by simp [bltNames]), g _ (by simp [bltNames]), g _ (by simp [bltNames]), g _ (by simp [bltNames]), g _ (by simp [bltNames]), g _ (by simp [bltNames]), g _ (by simp [bltNames]), g _ (by simp [bltNames]), g _ (by simp [bltNames]), g _ (by simp [bltNames]), g _ (by simp [bltNames]), g _ (by simp [bltNames]), g _ (by simp [bltNames]), g _ (by simp [bltNames]), g _ (by simp [bltNames]), g _ (by simp [bltNames])⟩
section
variable {X : Cx}
theorem pe_tyInt {pos : Pos} (B : Blt X.mg) (hg : Gl X "int" := by rfl) : PE X (.Name "int" pos) (tC (.ty "int")) := pe_bltn (u := .type "int") hg B.int (by decide +kernel) rfl
theorem pe_tyBool {pos : Pos} (B : Blt X.mg) (hg : Gl X "bool" := by rfl) : PE X (.Name "bool" pos) (tC (.ty "bool")) := pe_bltn (u := .type "bool") hg B.bool (by decide +kernel) rfl
theorem pe_tyStr {pos : Pos} (B : Blt X.mg) (hg : Gl X "str" := by rfl) : PE X (.Name "str" pos) (tC (.ty "str")) := pe_bltn (u := .type "str") hg B.str (by decide +kernel) rfl
end
end Up

set_option Elab.async false
set_option linter.all false
set_option maxRecDepth 100000
set_option maxHeartbeats 4000000
namespace Up
open PySem PySem.Spec PyProof.Rows L2
/-! ### one step of a reading each -/
section
variable {K : PySem.W.Frag} {D : Ends} {σ : L2.St} {H : Hp} {Q : VK} {ta tb te : TE} {t u : TS} {c d : TT}
theorem g_seq (h : t { D with nx := u D } σ H) : tSeq t u D σ H := h
theorem g_ifs (h : c σ H fun b H1 => if b = true then t D σ H1 else u D σ H1) : tIfS c t u D σ H := h
theorem g_asg {g : TG} (h : te σ H fun x H1 => g x σ H1 D.nx) : tAsg te g D σ H := h
theorem g_name {i : Nat} {v : V} {R : L2.St → Hp → Prop} (h : R (σ.set i (some v)) H) : gName i v σ H R := h
theorem g_drop (h : te σ H fun _ H1 => D.nx σ H1) : tDrop te D σ H := h
theorem g_ret (h : te σ H D.rt) : tRet te D σ H := h
theorem g_retN (h : D.rt .non H) : tRetN D σ H := h
theorem g_next (h : D.nx σ H) : tNext D σ H := h
theorem g_sfld {f : Str} (h : te σ H fun y H1 => ta σ H1 fun x H2 => ∃ a C dx fs, x = .ref a ∧ H2 a = some (.ins C dx fs) ∧ Cls K C ∧ NoAttr K C f ∧ fs.length < 1000 ∧ D.nx σ (upd H2 a (.ins C dx (putF f y fs)))) : sFld K ta te f D σ H := h
theorem g_var {i : Nat} {v : V} (e : σ[i]? = some (some v)) (h : Q v H) : tVar i σ H Q := ⟨v, e, h⟩
theorem g_c {v : V} (h : Q v H) : tC v σ H Q := h
theorem g_op {r : R2} (h : ta σ H fun x H1 => tb σ H1 fun y H2 => r x y H2 Q) : tOp r ta tb σ H Q := h
theorem g_un {r : V → Hp → VK → Prop} (h : ta σ H fun x H1 => r x H1 Q) : tUn r ta σ H Q := h
theorem g_neg {i : Int} (h : Q (.int (-i)) H) : rU (fun i => .int (-i)) (.int i) H Q := ⟨i, rfl, h⟩
theorem g_if (h : c σ H fun b H1 => if b = true then ta σ H1 Q else tb σ H1 Q) : tIf c ta tb σ H Q := h
theorem g_cb {r : List V → Hp → VK → Prop} {t : TA} (h : t σ H fun vs H1 => r vs H1 Q) : tCB r t σ H Q := h
theorem g_cons {t : TA} {R : List V → Hp → Prop} (h : ta σ H fun x H1 => t σ H1 fun xs H2 => R (x :: xs) H2) : tCons ta t σ H R := h
theorem g_nil {R : List V → Hp → Prop} (h : R [] H) : tNil σ H R := h
theorem g_bits (h : ta σ H fun x H1 => ∃ i, x = .int i ∧ Q (.int (Builtin.Int.intBits i : Nat)) H1) : tBits ta σ H Q := h
theorem g_call {sp : Sp} {dvs : List V} {E : XK} {t : TA} (h : t σ H fun vs H1 => sp (vs ++ dvs) H1 Q E) : tCall sp dvs E t σ H Q := h
theorem g_fld {f : Str} (h : ta σ H fun x H1 => ∃ a C dx fs v, x = .ref a ∧ H1 a = some (.ins C dx fs) ∧ Cls K C ∧ NoAttr K C f ∧ fs.lookup f = some v ∧ Q v H1) : tFld K ta f σ H Q := h
theorem g_gtup {n : Nat} {t : TGs} {v : V} {R : L2.St → Hp → Prop} (h : ∃ a xs, v = .ref a ∧ SqT K H a xs ∧ xs.length = n ∧ t xs σ H R) : gTup K n t v σ H R := h
theorem g_gcons {t : TG} {u : TGs} {v : V} {r : List V} {R : L2.St → Hp → Prop} (h : t v σ H fun σ' H' => u r σ' H' R) : gCons t u (v :: r) σ H R := ⟨v, r, rfl, h⟩
theorem g_gnil {R : L2.St → Hp → Prop} (h : R σ H) : gNil [] σ H R := ⟨rfl, h⟩
theorem g_gfld {f : Str} {v : V} {R : L2.St → Hp → Prop} (h : ta σ H fun x H1 => ∃ a C dx fs, x = .ref a ∧ H1 a = some (.ins C dx fs) ∧ Cls K C ∧ NoAttr K C f ∧ fs.length < 1000 ∧ R σ (upd H1 a (.ins C dx (putF f v fs)))) : gFld K ta f v σ H R := h
/-! tests -/
section
variable {R : Bool → Hp → Prop} {T : Bool → Prop}
theorem g_tt (h : ta σ H fun x H' => ∃ k, x = .bl k ∧ R k H') : tTest ta σ H R := h
theorem g_tB (h : ta σ H fun x H' => ∃ k, x = .bl k ∧ R k H') : tB ta σ H R := h
theorem g_bl {b : Bool} (h : T b) : ∃ k, V.bl b = .bl k ∧ T k := ⟨b, rfl, h⟩
theorem g_and (h : c σ H fun k H1 => if k = true then d σ H1 R else R false H1) : tAnd c d σ H R := h
theorem g_or (h : c σ H fun k H1 => if k = true then R true H1 else d σ H1 R) : tOr c d σ H R := h
theorem g_not (h : c σ H fun k H1 => R (!k) H1) : tNot c σ H R := h
theorem g_andV (h : ta σ H fun x H1 => ∃ c, x = .bl c ∧ if c = true then tb σ H1 Q else Q (.bl false) H1) : tAndV ta tb σ H Q := h
theorem g_orV (h : ta σ H fun x H1 => ∃ c, x = .bl c ∧ if c = true then Q (.bl true) H1 else tb σ H1 Q) : tOrV ta tb σ H Q := h
theorem g_notV (h : ta σ H fun x H1 => ∃ c, x = .bl c ∧ Q (.bl (!c)) H1) : tNotV ta σ H Q := h
end
/-! ints -/
section
variable {i j : Int}
theorem g_addI (h : Q (.int (i + j)) H) : oAdd K (.int i) (.int j) H Q := h
theorem g_addS {a b : Str} (hz : a.length + b.length ≤ sizeLine) (h : Q (.str (a ++ b)) H) : oAdd K (.str a) (.str b) H Q := ⟨hz, h⟩
theorem g_subI (h : Q (.int (i - j)) H) : oSub (.int i) (.int j) H Q := h
theorem g_subB {i j : Bool} (h : Q (.int (b2i i - b2i j)) H) : oSub (.bl i) (.bl j) H Q := h
theorem g_mulI (hm : IntMulOk i j) (h : Q (.int (i * j)) H) : oMul (.int i) (.int j) H Q := ⟨hm, h⟩
theorem g_divI (hm : j ≠ 0) (hl : j.natAbs.log2 < 9000) (h : Q (.int (i.fdiv j)) H) : oDiv (.int i) (.int j) H Q := ⟨⟨hm, hl⟩, h⟩
theorem g_modI (hm : j ≠ 0) (h : Q (.int (i.fmod j)) H) : oMod (.int i) (.int j) H Q := ⟨hm, h⟩
theorem g_II {C : Int → Int → Prop} {g : Int → Int → V} (hm : C i j) (h : Q (g i j) H) : oII C g (.int i) (.int j) H Q := ⟨hm, h⟩
theorem g_I0 {g : Int → Int → V} (h : Q (g i j) H) : oI0 g (.int i) (.int j) H Q := h
theorem g_cmpI {g : Int → Int → Bool} {k : Str → Str → Bool} (h : Q (.bl (g i j)) H) : oCmp g k (.int i) (.int j) H Q := h
theorem g_bitsI {T : Int → Prop} (h : T i) : ∃ n, V.int i = .int n ∧ T n := ⟨i, rfl, h⟩
theorem g_eqI (h : Q (.bl (decide (i = j))) H) : oEq K (.int i) (.int j) H Q := by
  refine Or.inl ⟨rfl, ?_⟩
  have e : decide (V.int i = V.int j) = decide (i = j) := by simp
  rw [e]; exact h
theorem g_neI (h : Q (.bl (!decide (i = j))) H) : oNe K (.int i) (.int j) H Q := by
  refine Or.inl ⟨rfl, ?_⟩
  have e : decide (V.int i = V.int j) = decide (i = j) := by simp
  rw [e]; exact h
theorem g_eqS {a b : Str} (h : Q (.bl (decide (a = b))) H) : oEq K (.str a) (.str b) H Q := by
  refine Or.inl ⟨rfl, ?_⟩
  have e : decide (V.str a = V.str b) = decide (a = b) := by simp
  rw [e]; exact h
theorem g_neS {a b : Str} (h : Q (.bl (!decide (a = b))) H) : oNe K (.str a) (.str b) H Q := by
  refine Or.inl ⟨rfl, ?_⟩
  have e : decide (V.str a = V.str b) = decide (a = b) := by simp
  rw [e]; exact h
theorem g_eqB {a b : Bool} (h : Q (.bl (decide (a = b))) H) : oEq K (.bl a) (.bl b) H Q := by
  refine Or.inl ⟨rfl, ?_⟩
  have e : decide (V.bl a = V.bl b) = decide (a = b) := by simp
  rw [e]; exact h
theorem g_neB {a b : Bool} (h : Q (.bl (!decide (a = b))) H) : oNe K (.bl a) (.bl b) H Q := by
  refine Or.inl ⟨rfl, ?_⟩
  have e : decide (V.bl a = V.bl b) = decide (a = b) := by simp
  rw [e]; exact h
theorem g_eqx {x y : V} (hs : scal x y = true) (hn : x ≠ y) (h : Q (.bl false) H) : oEq K x y H Q := by
  refine Or.inl ⟨hs, ?_⟩
  rw [decide_eq_false hn]; exact h
theorem g_nex {x y : V} (hs : scal x y = true) (hn : x ≠ y) (h : Q (.bl true) H) : oNe K x y H Q := by
  refine Or.inl ⟨hs, ?_⟩
  rw [decide_eq_false hn]; exact h
theorem g_isN {x : V} (h : Q (.bl (decide (x = .non))) H) : (fun x y H Q => y = V.non ∧ Q (.bl (decide (x = .non))) H : R2) x .non H Q := ⟨rfl, h⟩
end
/-! ifs -/
theorem g_ite {p : Prop} [Decidable p] {A B : Prop} (h1 : p → A) (h2 : ¬ p → B) : if decide p = true then A else B := by
  by_cases h : p
  · rw [if_pos (decide_eq_true h)]; exact h1 h
  · rw [if_neg (by simp [h])]; exact h2 h
theorem g_iten {p : Prop} [Decidable p] {A B : Prop} (h1 : ¬ p → A) (h2 : p → B) : if (!decide p) = true then A else B := by
  by_cases h : p
  · rw [if_neg (by simp [h])]; exact h2 h
  · rw [if_pos (by simp [h])]; exact h1 h
theorem g_iteb {b : Bool} {A B : Prop} (h1 : b = true → A) (h2 : b = false → B) : if b = true then A else B := by
  cases b
  · exact h2 rfl
  · exact h1 rfl
theorem g_yes {p : Prop} [Decidable p] {A B : Prop} (hp : p) (h : A) : if decide p = true then A else B := by
  rw [if_pos (decide_eq_true hp)]; exact h
theorem g_no {p : Prop} [Decidable p] {A B : Prop} (hp : ¬ p) (h : B) : if decide p = true then A else B := by
  rw [if_neg (by simp [hp])]; exact h
theorem g_cut {t u : TS} (R : L2.St → Hp → Prop) (h1 : t { D with nx := R } σ H) (h2 : ∀ σ' H', R σ' H' → u D σ' H') : C8.tCut t u D σ H := ⟨R, h1, h2⟩
theorem g_meth {C : Addr} {m : Str} {sp : Sp} {dvs : List V} {E : XK} {t : TA} (h : ta σ H fun x H1 => ∃ a dx fs, x = .ref a ∧ H1 a = some (.ins C dx fs) ∧ fs.lookup m = none ∧ t σ H1 fun vs H2 => sp (x :: (vs ++ dvs)) H2 Q E) : tMeth C m sp dvs E ta t σ H Q := h
theorem g_par {i j : Nat} {ta : TA} (h : ta σ H fun vs H1 => ∃ v w, vs = [v, w] ∧ D.nx ((σ.set i (some v)).set j (some w)) H1) : tPar i j ta D σ H := h
theorem g_par2 {a b : V} {T : V → V → Prop} (h : T a b) : ∃ v w, [a, b] = [v, w] ∧ T v w := ⟨a, b, rfl, h⟩
theorem g_rfl {a : V} {T : Prop} (h : T) : a = a ∧ T := ⟨rfl, h⟩
theorem g_ixT {p : Addr} {xs : List V} {i : Int} {v : V} (h : H p = some (.tup xs)) (e : atI xs i = some v) (q : Q v H) : rIx K (.ref p) (.int i) H Q := .inr (.inl ⟨p, xs, i, v, rfl, rfl, SqT.of h, e, q⟩)
theorem g_ixL {p : Addr} {xs : List V} {i : Int} {v : V} (h : H p = some (.lst xs)) (e : atI xs i = some v) (q : Q v H) : rIx K (.ref p) (.int i) H Q := .inl ⟨p, xs, i, v, rfl, rfl, SqL.of h, e, q⟩
/-! loops -/
theorem g_for {wi : TI} {g : TG} {tb : TS} (h : wi σ H fun J H1 => ∃ W : Nat → Nat → L2.St → Hp → Prop, (∃ m, W 0 m σ H1) ∧ ∀ i m σ H, W i m σ H →
  (J.stop i H ∧ D.nx σ H) ∨ (J.go i H ∧ ∃ N : L2.St → Hp → Prop, (∀ σ' H', N σ' H' → ∃ m', m' < m ∧ W (i + 1) m' σ' H') ∧ ∀ x H', J.yld i H x H' → g x σ H' fun σ2 H2 => tb { D with nx := N, ct := N, bk := D.nx } σ2 H2)) : tFor wi g tb D σ H := h
theorem g_iList {R : It → Hp → Prop} (h : te σ H fun x H1 => ∃ a, x = .ref a ∧ (∃ xs, SqL K H1 a xs) ∧ R (Itl K a) H1) : iList K te σ H R := h
theorem g_iTup {R : It → Hp → Prop} (h : te σ H fun x H1 => ∃ a, x = .ref a ∧ (∃ xs, SqT K H1 a xs) ∧ R (Itt K a) H1) : iTup K te σ H R := h
theorem g_iRng1 {ta : TA} {R : It → Hp → Prop} (h : ta σ H fun vs H1 => ∃ j : Int, vs = [.int j] ∧ -(2 ^ 62) ≤ j ∧ j < 2 ^ 62 ∧ R (Itr 0 j.toNat) H1) : iRng1 ta σ H R := h
theorem g_iEnum {ta : TA} {R : It → Hp → Prop} (h : ta σ H fun vs H1 => ∃ a xs, vs = [.ref a] ∧ SqL K H1 a xs ∧ R (Ite K a) H1) : iEnum K ta σ H R := h
theorem g_slice {r : V → Option Int → Option Int → Hp → VK → Prop} {tl th : TO} (h : te σ H fun x H1 => tl σ H1 fun l H2 => th σ H2 fun u H3 => r x l u H3 Q) : tSl r te tl th σ H Q := h
theorem g_po0 {R : Option Int → Hp → Prop} (h : R none H) : tNoPart σ H R := h
theorem g_po1 {R : Option Int → Hp → Prop} (h : te σ H fun x H1 => ∃ i, x = .int i ∧ R (some i) H1) : tPart te σ H R := h
theorem g_poI {i : Int} {T : Int → Prop} (h : T i) : ∃ n, V.int i = .int n ∧ T n := ⟨i, rfl, h⟩
theorem g_gsub {to ti : TE} {t : TSet} {v : V} {R : L2.St → Hp → Prop} (h : to σ H fun o H1 => ti σ H1 fun i H2 => t o i v H2 fun H3 => R σ H3) : gSub to ti t v σ H R := h
theorem g_intI {i : Int} {T : Int → Prop} {U : Prop} (h : T i) : (∃ j, [V.int i] = [.int j] ∧ T j) ∨ U := .inl ⟨i, rfl, h⟩
theorem g_intB {b : Bool} {T : Bool → Prop} {U : Prop} (h : T b) : U ∨ ∃ k, [V.bl b] = [.bl k] ∧ T k := .inr ⟨b, rfl, h⟩
theorem g_setL {p : Addr} {xs : List V} {k : Int} {j : Nat} {v : V} {R : Hp → Prop} (h : H p = some (.lst xs)) (e : ixN xs.length k = some j) (q : ∀ H', H' p = some (.lst (xs.set j v)) → (∀ b, b ≠ p → H' b = H b) → R H') : rSetL (.ref p) (.int k) v H R :=
  ⟨p, xs, k, j, rfl, rfl, h, e, q _ upd_same fun b hb => upd_ne hb⟩
theorem g_max2 {i j : Int} {T : Int → Int → Prop} (h : T i j) : ∃ a b, [V.int i, V.int j] = [.int a, .int b] ∧ T a b := ⟨i, j, rfl, h⟩
theorem g_abs1 {i : Int} {T : Int → Prop} (h : T i) : ∃ a, [V.int i] = [.int a] ∧ T a := ⟨i, rfl, h⟩
theorem g_lenL {p : Addr} {xs : List V} {T : List V → Prop} (h : H p = some (.lst xs)) (q : T xs) : ∃ p' ys, [V.ref p] = [.ref p'] ∧ (SqL K H p' ys ∨ SqT K H p' ys) ∧ T ys := ⟨p, xs, rfl, .inl (SqL.of h), q⟩
theorem g_lc {wi : TI} {g : TG} {tt : TT} {vs : List Nat} (h : wi σ H fun J H1 => ∀ D, H1 D = none → ∃ W : Nat → Nat → Hp → Prop, (∃ m, W 0 m (upd H1 D (.lst []))) ∧ ∀ i m H, W i m H →
  (J.stop i H ∧ Q (.ref D) H) ∨ (J.go i H ∧ ∃ Nx : Hp → Prop, (∀ H', Nx H' → ∃ m', m' < m ∧ W (i + 1) m' H') ∧ ∀ x H', J.yld i H x H' → g x (wipe σ vs) H' fun σ2 H2 => wipe σ2 vs = wipe σ vs ∧ tt σ2 H2 fun b H3 =>
    if b = true then te σ2 H3 fun y H4 => ∃ acc, H4 D = some (.lst acc) ∧ acc.length < sizeLine ∧ Nx (upd H4 D (.lst (acc ++ [y]))) else Nx H3)) : tLc wi g tt te vs σ H Q := h
theorem g_yesT {R : Bool → Hp → Prop} (h : R true H) : tYes σ H R := h
theorem dp_bl : ∀ bs : List Bool, DpAll K H (bs.map V.bl) (bs.map PyData.bool)
  | [] => .nil
  | b :: bs => .cons (.bl b) (dp_bl bs)
theorem g_eqBs {a b : Addr} {bs : List Bool} (ha : H a = some (.lst (bs.map V.bl))) (hb : H b = some (.lst (bs.map V.bl))) (hs : SeqAt.shaped (.list (bs.map PyData.bool)) = true) (q : Q (.bl true) H) : oEq K (.ref a) (.ref b) H Q := by
  refine .inr ⟨_, _, .lst (SqL.of ha) (dp_bl bs), .lst (SqL.of hb) (dp_bl bs), hs, hs, ?_⟩
  rw [SeqAt.eqv_refl _ (SeqAt.canLay_of_shaped hs)]
  exact q
/-! new objects -/
theorem g_tup {t : TA} (h : t σ H fun xs H1 => xs.length ≤ sizeLine ∧ NewAt H1 (.tup xs) Q) : tTupN t σ H Q := h
theorem g_lst {t : TA} (h : t σ H fun xs H1 => xs.length ≤ sizeLine ∧ NewAt H1 (.lst xs) Q) : tLstN t σ H Q := h
theorem g_new {n : Nat} {o : HO} (hn : n ≤ sizeLine) (h : ∀ p H', H p = none → Same H H' → H' p = some o → (∀ b, b ≠ p → H' b = H b) → Q (.ref p) H') : n ≤ sizeLine ∧ NewAt H o Q := ⟨hn, h⟩
theorem g_make {C : Addr} {sp : Sp} {dvs : List V} {E : XK} {t : TA} (h : t σ H fun vs H1 => MakeR C sp (vs ++ dvs) H1 Q E) : tMakeN C sp dvs E t σ H Q := h
end
end Up

set_option Elab.async false
set_option linter.all false
set_option maxRecDepth 100000
set_option maxHeartbeats 4000000
namespace Up
open PySem PySem.Spec PyProof.Rows L2
/-! ### what a call hands back, over a heap in which all that stood stands -/
abbrev Ret (H : Hp) (v : V) (Q : VK) : Prop := ∀ H', Same H H' → Q v H'
abbrev RetT (H : Hp) (xs : List V) (Q : VK) : Prop := ∀ H' a, H a = none → Same H H' → H' a = some (.tup xs) → Q (.ref a) H'
abbrev RetL (H : Hp) (xs : List V) (Q : VK) : Prop := ∀ H' a, H a = none → Same H H' → H' a = some (.lst xs) → Q (.ref a) H'
/-! ### what is known of a value's kind -/
def isI : V → Bool
  | .int _ => true
  | _ => false
def isB : V → Bool
  | .bl _ => true
  | _ => false
def isS : V → Bool
  | .str _ => true
  | _ => false
/-- the classes int, bool, str asked of x -/
structure Kn (K : PySem.W.Frag) (H : Hp) (x : V) (t : Value) : Prop where
  ty : TyX K H x t
  int : PySem.W.kitOne K t (.type "int") = some (isI x || isB x)
  bool : PySem.W.kitOne K t (.type "bool") = some (isB x)
  str : PySem.W.kitOne K t (.type "str") = some (isS x)
theorem kn_non {K : PySem.W.Frag} {H : Hp} : Kn K H .non (.type "NoneType") := ⟨.base .non, kit_ty (r := false) (by decide +kernel), kit_ty (r := false) (by decide +kernel), kit_ty (r := false) (by decide +kernel)⟩
theorem kn_bl {K : PySem.W.Frag} {H : Hp} {b : Bool} : Kn K H (.bl b) (.type "bool") := ⟨.base (.bl b), kit_ty (r := true) (by decide +kernel), kit_ty (r := true) (by decide +kernel), kit_ty (r := false) (by decide +kernel)⟩
theorem kn_int {K : PySem.W.Frag} {H : Hp} {i : Int} : Kn K H (.int i) (.type "int") := ⟨.base (.int i), kit_ty (r := true) (by decide +kernel), kit_ty (r := false) (by decide +kernel), kit_ty (r := false) (by decide +kernel)⟩
theorem kn_str {K : PySem.W.Frag} {H : Hp} {i : Str} : Kn K H (.str i) (.type "str") := ⟨.base (.str i), kit_ty (r := false) (by decide +kernel), kit_ty (r := false) (by decide +kernel), kit_ty (r := true) (by decide +kernel)⟩
theorem kn_lst {K : PySem.W.Frag} {H : Hp} {a : Addr} {xs : List V} (h : H a = some (.lst xs)) : Kn K H (.ref a) (.type "list") := ⟨.base (.lst h), kit_ty (r := false) (by decide +kernel), kit_ty (r := false) (by decide +kernel), kit_ty (r := false) (by decide +kernel)⟩
theorem kn_tup {K : PySem.W.Frag} {H : Hp} {a : Addr} {xs : List V} (h : H a = some (.tup xs)) : Kn K H (.ref a) (.type "tuple") := ⟨.base (.tup h), kit_ty (r := false) (by decide +kernel), kit_ty (r := false) (by decide +kernel), kit_ty (r := false) (by decide +kernel)⟩
theorem kn_dK {K : PySem.W.Frag} {H : Hp} {a : Addr} {xs : List (Key × V)} (h : H a = some (.dK xs)) : Kn K H (.ref a) (.type "dict") := ⟨.base (.dK h), kit_ty (r := false) (by decide +kernel), kit_ty (r := false) (by decide +kernel), kit_ty (r := false) (by decide +kernel)⟩
/-- an own class whose instances are no int, bool, str -/
structure OwnC (K : PySem.W.Frag) (C : Addr) : Prop where
  cl : Cls K C
  ha : PySem.W.findIn K (.ref C) "__class__" = some (some (.builtin "object.__class__"))
  hn : PySem.W.specialIn K (.builtin "object.__class__") "__get__" = some (some (.builtin "getset_descriptor.__get__"))
  htk : PySem.W.takesIn K (.builtin "object.__class__") = some true
  hm : PySem.W.mroIn K C (.type "object") = some true
  int : PySem.W.kitOne K (.ref C) (.type "int") = some false
  bool : PySem.W.kitOne K (.ref C) (.type "bool") = some false
  str : PySem.W.kitOne K (.ref C) (.type "str") = some false
theorem kn_ins {K : PySem.W.Frag} {H : Hp} {a C dx : Addr} {fs : List (Str × V)} (T : OwnC K C) (h : H a = some (.ins C dx fs)) : Kn K H (.ref a) (.ref C) := ⟨.base (.ins h T.cl T.ha T.hn T.htk T.hm), T.int, T.bool, T.str⟩
theorem g_isi {K : PySem.W.Frag} {H : Hp} {Q : VK} {x c : V} {t u : Value} {b : Bool} (ht : TyX K H x t) (hc : ClsV c u) (hk : PySem.W.kitOne K t u = some b) (q : Q (.bl b) H) : rIsi K [x, c] H Q := ⟨x, c, t, u, b, rfl, hc, ht, hk, q⟩
section
variable {K : PySem.W.Frag} {H H' : Hp} {Q : VK} {x : V} {t : Value}
theorem TyX.same (s : Same H H') (h : TyX K H x t) : TyX K H' x t := by
  cases h with
  | base h => cases h with
    | non => exact .base .non
    | bl b => exact .base (.bl b)
    | int b => exact .base (.int b)
    | str b => exact .base (.str b)
    | flt b => exact .base (.flt b)
    | lst e => exact .base (.lst (s _ _ e))
    | frz e => exact .base (.frz (s _ _ e))
    | tup e => exact .base (.tup (s _ _ e))
    | dK e => exact .base (.dK (s _ _ e))
    | dT e => exact .base (.dT (s _ _ e))
    | ins e c h1 h2 h3 h4 => exact .base (.ins (s _ _ e) c h1 h2 h3 h4)
  | byt b => exact .byt b
  | set e => exact .set (s _ _ e)
  | kList e c => exact .kList e c
  | kTuple e c => exact .kTuple e c
  | kDict e c => exact .kDict e c
  | fTuple e => exact .fTuple (s _ _ e)
  | fDict e => exact .fDict (s _ _ e)
theorem Kn.same (s : Same H H') (h : Kn K H x t) : Kn K H' x t := ⟨TyX.same s h.ty, h.int, h.bool, h.str⟩
theorem g_isiInt (h : Kn K H x t) (q : Q (.bl (isI x || isB x)) H) : rIsi K [x, .ty "int"] H Q := g_isi h.ty (.ty _) h.int q
theorem g_isiBool (h : Kn K H x t) (q : Q (.bl (isB x)) H) : rIsi K [x, .ty "bool"] H Q := g_isi h.ty (.ty _) h.bool q
theorem g_isiStr (h : Kn K H x t) (q : Q (.bl (isS x)) H) : rIsi K [x, .ty "str"] H Q := g_isi h.ty (.ty _) h.str q
end
end Up

set_option Elab.async false
set_option linter.all false
set_option maxRecDepth 100000
set_option maxHeartbeats 4000000
namespace Up
open PySem PySem.Spec PyProof.Rows L2 PySem.SeqAt HN
/-! ### == of None and of instances of a class without an own one -/
structure IdC (K : PySem.W.Frag) (C : Addr) : Prop where
  hm : PySem.W.mroIn K C (.type "object") = some true
  he : PySem.W.findIn K (.ref C) "__eq__" = some (some (.builtin "object.__eq__"))
  hn : PySem.W.subIn K (.ref C) (.type "NoneType") = some false
section
variable {M : Model} {prog : Program} {w : World} {A : Around} {E : Value → Shared → Prop} {s : Shared} {K : PySem.W.Frag} {x y C : Addr} {ox oy : Obj} {od oe : Option Obj}
theorem inst_nt (I : PySem.W.InstAt s.heap x ox C od) : ox.cls ≠ .type "tuple" := by
  obtain ⟨_, hc, _, _⟩ := I
  rw [hc]; exact fun z => nomatch z
theorem obj_other {Q : Value → Shared → Prop} (X : K.In s.heap) (I : PySem.W.InstAt s.heap x ox C od) (J : PySem.W.InstAt s.heap y oy C oe) (T : IdC K C) (hxy : x ≠ y) (hq : Q .notImplemented s) :
    wpAny (model prog w) A (call (.builtin "object.__eq__") [.ref x, .ref y]) Q E s :=
  wpAny_call (codeAny_call_builtin PySem.F.cmp_object.eq.plain PySem.F.cmpEntry_eq (PySem.W.check_slot PySem.F.cmpKind_eq PySem.F.cmpSplit_eq (I.type.andThen (PySem.W.looks_mroIn X T.hm)) (PySem.F.cmpArgs_eq _ _) (objEq_entry_other hxy I.1 J.1 (inst_nt I) hq)))
theorem obj_same {Q : Value → Shared → Prop} (X : K.In s.heap) (I : PySem.W.InstAt s.heap x ox C od) (T : IdC K C) (hq : Q (.bool true) s) :
    wpAny (model prog w) A (call (.builtin "object.__eq__") [.ref x, .ref x]) Q E s :=
  wpAny_call (codeAny_call_builtin PySem.F.cmp_object.eq.plain PySem.F.cmpEntry_eq (PySem.W.check_slot PySem.F.cmpKind_eq PySem.F.cmpSplit_eq (I.type.andThen (PySem.W.looks_mroIn X T.hm)) (PySem.F.cmpArgs_eq _ _) (objEq_entry_same hq)))
theorem try_other {Q : Option Value → Shared → Prop} (X : K.In s.heap) (I : PySem.W.InstAt s.heap x ox C od) (J : PySem.W.InstAt s.heap y oy C oe) (T : IdC K C) (hxy : x ≠ y) (hq : Q none s) :
    wpAny (model prog w) A (tryCompare (.ref x) "__eq__" (.ref y)) Q E s := by
  unfold tryCompare
  exact wpAny_bind (ifBound_objEq X I T.he (obj_other X I J T hxy (wpAny_pure hq)))
theorem try_same {Q : Option Value → Shared → Prop} (X : K.In s.heap) (I : PySem.W.InstAt s.heap x ox C od) (T : IdC K C) (hq : Q (some (.bool true)) s) :
    wpAny (model prog w) A (tryCompare (.ref x) "__eq__" (.ref x)) Q E s := by
  unfold tryCompare
  exact wpAny_bind (ifBound_objEq X I T.he (obj_same X I T (wpAny_pure hq)))
theorem try_rn {Q : Option Value → Shared → Prop} (X : K.In s.heap) (I : PySem.W.InstAt s.heap x ox C od) (T : IdC K C) (hq : Q none s) :
    wpAny (model prog w) A (tryCompare (.ref x) "__eq__" .none) Q E s := by
  unfold tryCompare
  exact wpAny_bind (ifBound_objEq X I T.he (HN.call_objEq X I T.hm (wpAny_pure hq)))
theorem try_nr {Q : Option Value → Shared → Prop} (hq : Q none s) : wpAny (model prog w) A (tryCompare .none "__eq__" (.ref x)) Q E s :=
  wpAny_tryCompare_declines (show s.TypeIs .none "NoneType" from rfl) PySem.F.slot_NoneType_eq_refl (call_gives PySem.F.slot_NoneType_eq_refl rfl PySem.F.entry_NoneType_eq (PySem.F.args_NoneType_eq_2 _ _) (NoneType___eq___none_ref_0 x) ⟨rfl, hq⟩)
theorem rc_same {Q : Value → Shared → Prop} (hu : A.units < cLine) (X : K.In s.heap) (I : PySem.W.InstAt s.heap x ox C od) (T : IdC K C) (hq : Q (.bool true) s) : wpAny (model prog w) A (richCompare .Eq (.ref x) (.ref x)) Q E s := by
  simp only [richCompare, cmpInfo_Eq, oneThing_ref]
  refine wpAny_holding (wpAny_bind (wpAny_cRoomFor hu ?_))
  refine wpAny_bind (I.type.here (wpAny_bind (I.type.here ?_)))
  simp only [bne_self_eq_false, Bool.false_eq_true, if_false]
  refine wpAny_bind (wpAny_pure (wpAny_bind (m := tryCompare (.ref x) _ (.ref x)) (try_same X I T ?_)))
  exact wpAny_pure hq
theorem rc_other {Q : Value → Shared → Prop} (hu : A.units < cLine) (X : K.In s.heap) (I : PySem.W.InstAt s.heap x ox C od) (J : PySem.W.InstAt s.heap y oy C oe) (T : IdC K C) (hxy : x ≠ y) (hq : Q (.bool false) s) : wpAny (model prog w) A (richCompare .Eq (.ref x) (.ref y)) Q E s := by
  simp only [richCompare, cmpInfo_Eq, oneThing_ref]
  refine wpAny_holding (wpAny_bind (wpAny_cRoomFor hu ?_))
  refine wpAny_bind (I.type.here (wpAny_bind (J.type.here ?_)))
  simp only [bne_self_eq_false, Bool.false_eq_true, if_false]
  refine wpAny_bind (wpAny_pure (wpAny_bind (m := tryCompare (.ref x) _ (.ref y)) (try_other X I J T hxy ?_)))
  simp only [Bool.false_eq_true, if_false, Bool.not_false, if_true]
  refine wpAny_bind (m := tryCompare (.ref y) _ (.ref x)) (try_other X J I T hxy.symm ?_)
  exact wpAny_bind (wpAny_rule (wpAny_bind (wpAny_isSame_ref_other hxy I.1 J.1 (inst_nt I) (wpAny_pure hq))))
theorem rc_nr {Q : Value → Shared → Prop} (hu : A.units < cLine) (X : K.In s.heap) (I : PySem.W.InstAt s.heap x ox C od) (T : IdC K C) (hq : Q (.bool false) s) : wpAny (model prog w) A (richCompare .Eq .none (.ref x)) Q E s := by
  have h0 : oneThing? .Eq .none (.ref x) = none := rfl
  simp only [richCompare, cmpInfo_Eq, h0]
  refine wpAny_holding (wpAny_bind (wpAny_cRoomFor hu ?_))
  refine wpAny_bind (wpAny_typeOf (show s.TypeIs .none "NoneType" from rfl) (wpAny_bind (I.type.here ?_)))
  split
  · refine wpAny_bind ((PySem.W.looks_subIn X T.hn).here ?_)
    simp only [Bool.false_eq_true, if_false, Bool.not_false, if_true]
    refine wpAny_bind (m := tryCompare .none _ (.ref x)) (try_nr ?_)
    refine wpAny_bind (m := tryCompare (.ref x) _ .none) (try_rn X I T ?_)
    exact wpAny_bind (wpAny_rule (wpAny_bind (wpAny_of_eq (rfl : isSame .none (.ref x) = pure false) (wpAny_pure hq))))
  · rename_i q
    exact absurd (by simp) q
end
/-- None, or an instance of the class at C -/
def IdV (C : Addr) (H : Hp) (x : V) : Prop := x = .non ∨ ∃ a dx fs, x = .ref a ∧ H a = some (.ins C dx fs)
def rEqId (C : Addr) : R2 := fun x y H Q => IdV C H x ∧ IdV C H y ∧ Q (.bl (decide (x = y))) H
theorem op_eqId {X : Cx} {C : Addr} (T : IdC X.K C) (hu : X.A.units + 64 < cLine) : OpR X (compareOp .Eq) (rEqId C) := by
  intro pins s σ H x y v u Q I rx ry h
  obtain ⟨h1, h2, q⟩ := h
  have hu0 : X.A.units < cLine := by omega
  show wpAny (model X.prog X.w) X.A (richCompare .Eq v u) (EP X pins σ Q) X.xe s
  rcases h1 with rfl | ⟨a, dx, fs, rfl, ha⟩
  · rcases h2 with rfl | ⟨b, dy, gs, rfl, hb⟩
    · exact op_eq pins s σ H .non .non v u Q I rx ry ⟨rfl, q⟩
    · cases rx
      cases ry
      obtain ⟨mA, O, _⟩ := ins_get I.hok hb
      obtain ⟨od, J, _⟩ := O.look
      exact rc_nr hu0 I.kIn J T ⟨.bl false, H, I, rfl, q⟩
  · obtain ⟨mA, O, _⟩ := ins_get I.hok ha
    obtain ⟨od, J, _⟩ := O.look
    rcases h2 with rfl | ⟨b, dy, gs, rfl, hb⟩
    · cases rx
      cases ry
      exact rc_none hu0 I.kIn J T.hm T.he X.prog X.w X.xe _ ⟨.bl false, H, I, rfl, q⟩
    · cases rx
      cases ry
      obtain ⟨mB, O2, _⟩ := ins_get I.hok hb
      obtain ⟨oe, J2, _⟩ := O2.look
      by_cases hab : a = b
      · subst hab
        rw [decide_eq_true rfl] at q
        exact rc_same hu0 I.kIn J T ⟨.bl true, H, I, rfl, q⟩
      · rw [decide_eq_false (fun z => hab (by injection z))] at q
        exact rc_other hu0 I.kIn J J2 T hab ⟨.bl false, H, I, rfl, q⟩
def oEqI (K : PySem.W.Frag) (C : Addr) : R2 := fun x y H Q => oEq K x y H Q ∨ rEqId C x y H Q
theorem op_oEqI {X : Cx} {C : Addr} (T : IdC X.K C) (hu : X.A.units + 64 < cLine) : OpR X (compareOp .Eq) (oEqI X.K C) := op_or (op_oEq hu) (op_eqId T hu)
end Up

set_option Elab.async false
set_option linter.all false
set_option maxRecDepth 100000
set_option maxHeartbeats 4000000
namespace Up
open PySem PySem.Spec PyProof.Rows L2 PySem.SeqAt HN
/-! ### == and != of two instances of a class with its own __eq__ -/
def EqC (P : Program) (w : World) (K : PySem.W.Frag) (mg : Str → Option Value) (base : Heap) (k : Nat) (C : Addr) (sp : Sp) : Prop :=
  ∃ f fd, FnOk P w K mg base CX0 k f fd ["self", "other"] sp ∧ PySem.W.findIn K (.ref C) "__eq__" = some (some (.ref f)) ∧ PySem.W.isFn K (.ref f) = true ∧ Binds K fd ["self", "other"] [] ∧
    PySem.W.findIn K (.ref C) "__ne__" = some (some (.builtin "object.__ne__")) ∧ PySem.W.mroIn K C (.type "object") = some true
def rEqO (C : Addr) (sp : Sp) : R2 := fun x y H Q => ∃ a b dx dy fs gs, x = .ref a ∧ y = .ref b ∧ H a = some (.ins C dx fs) ∧ H b = some (.ins C dy gs) ∧ sp [.ref a, .ref b] H (fun v H' => ∃ c, v = .bl c ∧ Q (.bl c) H') E0
def rNeO (C : Addr) (sp : Sp) : R2 := fun x y H Q => ∃ a b dx dy fs gs, x = .ref a ∧ y = .ref b ∧ H a = some (.ins C dx fs) ∧ H b = some (.ins C dy gs) ∧ sp [.ref a, .ref b] H (fun v H' => ∃ c, v = .bl c ∧ Q (.bl (!c)) H') E0
section
variable {X : Cx} {C : Addr} {k : Nat} {sp : Sp}
/-- the own __eq__ runs, wherever it is called from -/
theorem run_eq {pins : List (Addr × Obj)} {σ : L2.St} {H : Hp} {s : Shared} {A : Around} {f a b : Addr} {fd : FuncData} {Qv : VK} {R : Value → Shared → Prop} {E : Value → Shared → Prop} (F : FnOk X.prog X.w X.K X.mg X.base CX0 k f fd ["self", "other"] sp) (hb : Binds X.K fd ["self", "other"] [])
    (hr : Room k A) (hA : A.frames = X.A.frames) (I : L2.Inv X pins σ H s) (h : sp [.ref a, .ref b] H Qv E0) (q : ∀ v u H' s', L2.Inv X pins σ H' s' → L2.RelV v u → Qv v H' → R u s') : wpAny (model X.prog X.w) A (call (.ref f) [.ref a, .ref b]) R E s := by
  have e := I.env0
  have e0 : Env0 X.prog X.w X.K X.mg X.base A X.stack s H := ⟨by rw [hA]; exact e.frames, e.mod, e.bs, e.bsz, e.funs, e.frf, e.hok, e.bare⟩
  have r2 : Vals [V.ref a, V.ref b] [Value.ref a, Value.ref b] := .cons rfl (.cons rfl .nil)
  have bb := hb s [.ref a, .ref b] I.kIn rfl
  refine wpAny_call (codeAny_mono (F.run A X.stack s H ⟨[.ref a, .ref b], []⟩ [.ref a, .ref b] [.ref a, .ref b] Qv E0 hr e0 bb r2 h) fun r s' hq => ?_)
  cases r with
  | error e => exact hq.elim
  | ok fl =>
    cases fl with
    | ret u =>
      obtain ⟨v, H', I', rv, qv⟩ := I.after hq
      exact q v u H' s' I' rv qv
    | next => exact False.elim hq
    | brk => exact False.elim hq
    | cont => exact False.elim hq
theorem op_eqO (T : EqC X.prog X.w X.K X.mg X.base k C sp) (hr : Room k X.A) : OpR X (compareOp .Eq) (rEqO C sp) := by
  intro pins s σ H x y v u Q I rx ry h
  obtain ⟨f, fd, F, hs, hf, hb, hne, hm⟩ := T
  obtain ⟨a, b, dx, dy, fs, gs, rfl, rfl, ha, hb', h⟩ := h
  cases rx
  cases ry
  obtain ⟨mA, J, _⟩ := ins_get I.hok ha
  obtain ⟨mB, J', _⟩ := ins_get I.hok hb'
  obtain ⟨od, J, _⟩ := J.look
  obtain ⟨od', J', _⟩ := J'.look
  obtain ⟨m, hF⟩ := I.fr
  show wpAny (model X.prog X.w) X.A (richCompare .Eq (.ref a) (.ref b)) (EP X pins σ Q) X.xe s
  refine PySem.W.cmp_K (op := .Eq) (tb := .ref C) hr.units0 hF I.ok.mod.kin J J'.type (by simp [PySem.W.notFirst]) hs hf ?_
  refine run_eq F hb hr rfl I h fun v u H' s' I' rv qv => ?_
  obtain ⟨c, rfl, qv⟩ := qv
  cases rv
  exact ⟨.bl c, H', I', rfl, qv⟩
theorem ifBound_objNe {M : Model} {A : Around} {E : Value → Shared → Prop} {s : Shared} {K : PySem.W.Frag} {x C : Addr} {ox : Obj} {od : Option Obj} {args : List Value} {Q : Option Value → Shared → Prop} (Y : K.In s.heap) (I : PySem.W.InstAt s.heap x ox C od) (hs : PySem.W.findIn K (.ref C) "__ne__" = some (some (.builtin "object.__ne__")))
    (h : wpAny M A (call (.builtin "object.__ne__") (.ref x :: args)) (fun v => Q (some v)) E s) : wpAny M A (callSpecialIfBound? (.ref x) "__ne__" args) Q E s := by
  simp only [callSpecialIfBound?, bindSpecialIfBound?]
  refine wpAny_holding (wpAny_bind (wpAny_bind (wpAny_bind (I.type.here ((PySem.W.looks_findIn Y hs).here ?_)))))
  refine wpAny_bind (wpAny_askSetting (wpAny_ite ?_))
  have fin : wpAny M A (call (.builtin "object.__ne__") ([.ref x] ++ args) >>= fun v => pure (some v)) Q E s := wpAny_bind (wpAny_mono h (fun v s' z => wpAny_pure z) fun _ _ z => z)
  split
  · exact wpAny_bind (wpAny_of_eq (PySem.F.cmp_object.ne.bind _) (wpAny_pure (by exact fin)))
  · exact wpAny_tryCatch (wpAny_bind (wpAny_of_eq (PySem.F.cmp_object.ne.bind _) (wpAny_pure (by exact fin))))
theorem op_neO (T : EqC X.prog X.w X.K X.mg X.base k C sp) (hr : Room (k + 1) X.A) : OpR X (compareOp .NotEq) (rNeO C sp) := by
  intro pins s σ H x y v u Q I rx ry h
  obtain ⟨f, fd, F, hs, hf, hb, hne, hm⟩ := T
  obtain ⟨a, b, dx, dy, fs, gs, rfl, rfl, ha, hb', h⟩ := h
  cases rx
  cases ry
  obtain ⟨mA, J, _⟩ := ins_get I.hok ha
  obtain ⟨mB, J', _⟩ := ins_get I.hok hb'
  obtain ⟨od, J, _⟩ := J.look
  obtain ⟨od', J', _⟩ := J'.look
  show wpAny (model X.prog X.w) X.A (richCompare .NotEq (.ref a) (.ref b)) (EP X pins σ Q) X.xe s
  have hu := hr.un
  have one : wpAny (model X.prog X.w) X.A (tryCompare (.ref a) "__ne__" (.ref b)) (fun r s' => ∃ v, r = some v ∧ EP X pins σ Q v s') X.xe s := by
    unfold tryCompare
    refine wpAny_bind (ifBound_objNe I.kIn J hne ?_)
    refine wpAny_call (codeAny_call_builtin PySem.F.cmp_object.ne.plain PySem.F.cmpEntry_ne (PySem.W.check_slot PySem.F.cmpKind_ne PySem.F.cmpSplit_ne (J.type.andThen (PySem.W.looks_mroIn I.kIn hm)) (PySem.F.cmpArgs_ne _ _) ?_))
    unfold Builtin.«object.__ne__»
    refine wpAny_bind (wpAny_of_eq (a := ((Value.ref a : Value), [Value.ref b])) (by first | rfl | (simp only [slotArgs]; rfl)) ?_)
    refine wpAny_bind (wpAny_cRoomFor (by show X.A.units + 1 < cLine; omega) ?_)
    refine wpAny_bind (PySem.W.ifBound_K I.kIn J hs hf ?_)
    refine run_eq F hb hr.in1 rfl I h fun v u H' s' I' rv qv => ?_
    obtain ⟨c, rfl, qv⟩ := qv
    cases rv
    refine wpAny_bind (wpAny_truthy_bool (wpAny_pure ?_))
    exact wpAny_pure ⟨_, rfl, .bl (!c), H', I', rfl, qv⟩
  unfold richCompare
  simp only [oneThing_ref, cmpInfo_NotEq]
  refine wpAny_holding (wpAny_bind (wpAny_cRoomFor (by omega) ?_))
  refine wpAny_bind (J.type.here (wpAny_bind (J'.type.here ?_)))
  simp only [bne_self_eq_false, Bool.false_eq_true, if_false]
  refine wpAny_bind (wpAny_pure (wpAny_bind (m := tryCompare (.ref a) _ (.ref b)) (wpAny_mono one (fun r s' z => ?_) fun _ _ e => e)))
  obtain ⟨v, rfl, z⟩ := z
  exact wpAny_pure z
end
end Up

set_option Elab.async false
set_option linter.all false
set_option maxRecDepth 100000
set_option maxHeartbeats 4000000
namespace Up
open PySem PySem.Spec PyProof.Rows L2
/-- an expression that the proof never comes to -/
def tNevE : TE := fun _ _ _ => False
theorem pe_never {X : Cx} {e : Expr} : PE X e tNevE := ⟨fun _ _ _ _ _ _ h => h.elim⟩
/-- a test, a value read once with a middle term -/
def tCutT (t : TT) : TT := fun σ H R => ∃ P : Bool → Hp → Prop, t σ H P ∧ ∀ b H', P b H' → R b H'
theorem pt_cut {X : Cx} {e : Expr} {t : TT} (h : PT X e t) : PT X e (tCutT t) := ⟨fun pins s σ H Q I ⟨P, h1, h2⟩ => wpAny_mono (h.run pins s σ H P I h1) (fun b s' ⟨H', I', p⟩ => ⟨H', I', h2 _ _ p⟩) fun _ _ e => e⟩
def tCutE (t : TE) : TE := fun σ H R => ∃ P : VK, t σ H P ∧ ∀ b H', P b H' → R b H'
theorem pe_cut {X : Cx} {e : Expr} {t : TE} (h : PE X e t) : PE X e (tCutE t) := ⟨fun pins s σ H Q I ⟨P, h1, h2⟩ => wpAny_mono (h.run pins s σ H P I h1) (fun b s' ⟨v, H', I', r, p⟩ => ⟨v, H', I', r, h2 _ _ p⟩) fun _ _ e => e⟩
theorem g_cutT {t : TT} {σ : L2.St} {H : Hp} {R : Bool → Hp → Prop} (P : Bool → Hp → Prop) (h1 : t σ H P) (h2 : ∀ b H', P b H' → R b H') : tCutT t σ H R := ⟨P, h1, h2⟩
theorem g_cutE {t : TE} {σ : L2.St} {H : Hp} {R : VK} (P : VK) (h1 : t σ H P) (h2 : ∀ b H', P b H' → R b H') : tCutE t σ H R := ⟨P, h1, h2⟩
theorem g_chain {r r' : R2} {ta tb tc : TE} {σ : L2.St} {H : Hp} {Q : VK} (h : ta σ H fun x H1 => tb σ H1 fun y H2 => r x y H2 fun z H3 => ∃ k, z = .bl k ∧ (if k = true then tc σ H3 fun w' H4 => r' y w' H4 Q else Q (.bl false) H3)) : tChain r r' ta tb tc σ H Q := h
theorem g_par3 {i j l : Nat} {ta : TA} {D : Ends} {σ : L2.St} {H : Hp} (h : ta σ H fun vs H1 => ∃ u v w, vs = [u, v, w] ∧ D.nx (((σ.set i (some u)).set j (some v)).set l (some w)) H1) : tPar3 i j l ta D σ H := h
theorem g_par3' {a b c : V} {T : V → V → V → Prop} (h : T a b c) : ∃ u v w, [a, b, c] = [u, v, w] ∧ T u v w := ⟨a, b, c, rfl, h⟩
theorem g_while {c : TT} {tb : TS} {D : Ends} {σ : L2.St} {H : Hp} (W : Nat → L2.St → Hp → Prop) (m0 : Nat) (h0 : W m0 σ H) (hs : ∀ m σ H, W m σ H →
    c σ H fun b H1 => if b = true then ∃ N : L2.St → Hp → Prop, (∀ σ' H', N σ' H' → ∃ m', m' < m ∧ W m' σ' H') ∧ tb { D with nx := N, ct := N, bk := D.nx } σ H1 else D.nx σ H1) : tWhile c tb D σ H := ⟨W, ⟨m0, h0⟩, hs⟩
theorem g_wbody {tb : TS} {D : Ends} {σ : L2.St} {H : Hp} {W : Nat → L2.St → Hp → Prop} {m : Nat} (h : tb { D with nx := fun σ' H' => ∃ m', m' < m ∧ W m' σ' H', ct := fun σ' H' => ∃ m', m' < m ∧ W m' σ' H', bk := D.nx } σ H) :
    ∃ N : L2.St → Hp → Prop, (∀ σ' H', N σ' H' → ∃ m', m' < m ∧ W m' σ' H') ∧ tb { D with nx := N, ct := N, bk := D.nx } σ H := ⟨_, fun _ _ z => z, h⟩
section
variable {K : PySem.W.Frag} {H : Hp} {Q : VK} {x y : V}
theorem g_eqV (hs : scal x y = true) (h : Q (.bl (decide (x = y))) H) : oEq K x y H Q := .inl ⟨hs, h⟩
theorem g_neV (hs : scal x y = true) (h : Q (.bl (!decide (x = y))) H) : oNe K x y H Q := .inl ⟨hs, h⟩
end
/-- an int or a text -/
def IS (t : V) : Prop := (∃ n, t = .int n) ∨ ∃ x, t = .str x
theorem IS.int (n : Int) : IS (.int n) := .inl ⟨n, rfl⟩
theorem IS.str (n : Str) : IS (.str n) := .inr ⟨n, rfl⟩
theorem IS.scal {t u : V} (ht : IS t) (hu : IS u) : scal t u = true := by
  rcases ht with ⟨n, rfl⟩ | ⟨n, rfl⟩ <;> rcases hu with ⟨m, rfl⟩ | ⟨m, rfl⟩ <;> rfl
theorem IS.flat {t : V} (ht : IS t) : flatV t = true := by
  rcases ht with ⟨n, rfl⟩ | ⟨n, rfl⟩ <;> rfl
theorem IS.eqV {t u : V} (ht : IS t) (hu : IS u) : eqV t u = decide (t = u) := by
  rcases ht with ⟨n, rfl⟩ | ⟨n, rfl⟩ <;> rcases hu with ⟨m, rfl⟩ | ⟨m, rfl⟩
  · show (n == m) = _
    by_cases h : n = m
    · subst h; simp
    · have : (n == m) = false := beq_eq_false_iff_ne.mpr h
      rw [this]; simp [h]
  · show false = _
    simp
  · show false = _
    simp
  · show (n == m) = _
    by_cases h : n = m
    · subst h; simp
    · have : (n == m) = false := beq_eq_false_iff_ne.mpr h
      rw [this]; simp [h]
/-- x in (a, b) -/
theorem IS.in2 {x a b : V} (hx : IS x) (ha : IS a) (hb : IS b) : inV x [a, b] = decide (a = x ∨ b = x) := by
  unfold inV
  simp only [List.any_cons, List.any_nil, Bool.or_false]
  rw [ha.eqV hx, hb.eqV hx]
  by_cases h1 : a = x <;> by_cases h2 : b = x <;> simp [h1, h2]
theorem g_in2 {K : PySem.W.Frag} {H : Hp} {Q : VK} {x a b : V} {p : Addr} (hp : H p = some (.tup [a, b])) (hx : IS x) (ha : IS a) (hb : IS b) (q : Q (.bl (decide (a = x ∨ b = x))) H) : rIn K false x (.ref p) H Q :=
  ⟨p, _, rfl, .inr (SqT.of hp), hx.flat, by simp [ha.flat, hb.flat], by rw [hx.in2 ha hb]; exact q⟩
def dV : V → PyData
  | .int n => .int n
  | .str x => .str x
  | _ => .none
theorem IS.dp {K : PySem.W.Frag} {H : Hp} {t : V} (ht : IS t) : Dp K H t (dV t) := by
  rcases ht with ⟨n, rfl⟩ | ⟨n, rfl⟩
  · exact .int n
  · exact .str n
theorem IS.eqv {t u : V} (ht : IS t) (hu : IS u) : PyData.eqv (dV t) (dV u) = decide (t = u) := by
  rw [← ht.eqV hu]
  rcases ht with ⟨n, rfl⟩ | ⟨n, rfl⟩ <;> rcases hu with ⟨m, rfl⟩ | ⟨m, rfl⟩ <;> simp [dV, PyData.eqv, L2.eqV]
end Up

set_option Elab.async false
set_option linter.all false
set_option maxRecDepth 100000
set_option maxHeartbeats 4000000
namespace Up
open PySem PySem.Spec PyProof.Rows L2
/-! ### nodes that are linked, in plain Lean -/
structure Nd (κ : Type) where
  key : κ
  kv : V
  val : V
  link : Option Nat
  dead : Bool
abbrev Nds (κ : Type) := List (Option (Nd κ))
section
variable {κ : Type}
/-- the node at a place -/
def nd (l : Nds κ) (i : Nat) : Option (Nd κ) := (l[i]?).join
def fu {α : Type} (g : Nat → α) (i : Nat) (x : α) : Nat → α := fun j => if j = i then x else g j
theorem fu_same {α : Type} {g : Nat → α} {i : Nat} {x : α} : fu g i x i = x := if_pos rfl
theorem fu_ne {α : Type} {g : Nat → α} {i j : Nat} {x : α} (h : j ≠ i) : fu g i x j = g j := if_neg h
theorem nd_set {l : Nds κ} {i : Nat} {x : Option (Nd κ)} (h : i < l.length) : nd (l.set i x) = fu (nd l) i x := by
  funext j
  unfold nd fu
  rw [List.getElem?_set]
  by_cases e : j = i
  · subst e
    rw [if_pos rfl, if_pos h, if_pos rfl]
    rfl
  · rw [if_neg (fun z => e z.symm), if_neg e]
theorem nd_lt {l : Nds κ} {i : Nat} {x : Nd κ} (h : nd l i = some x) : i < l.length := by
  unfold nd at h
  by_cases e : i < l.length
  · exact e
  · rw [List.getElem?_eq_none (by omega)] at h; cases h
theorem nd_at {l : Nds κ} {i : Nat} (h : i < l.length) : l[i]? = some (nd l i) := by
  unfold nd
  rw [List.getElem?_eq_getElem h]
  rfl
def lk (g : Nat → Option (Nd κ)) (i j : Nat) : Prop := ∃ x, g i = some x ∧ x.link = some j
inductive Rch (g : Nat → Option (Nd κ)) : Nat → Nat → Prop
  | refl (i : Nat) : Rch g i i
  | step {i j l : Nat} : lk g i j → Rch g j l → Rch g i l
theorem Rch.end {g : Nat → Option (Nd κ)} {i j l : Nat} (h : Rch g i j) (h2 : lk g j l) : Rch g i l := by
  induction h with
  | refl i => exact .step h2 (.refl _)
  | step a _ ih => exact .step a (ih h2)
theorem lk_fun {g : Nat → Option (Nd κ)} {i j l : Nat} (h : lk g i j) (h2 : lk g i l) : j = l := by
  obtain ⟨x, e, hx⟩ := h
  obtain ⟨y, f, hy⟩ := h2
  rw [e] at f
  cases f
  rw [hx] at hy
  exact Option.some.inj hy
/-- nodes, n of them, main positions by mp, the free pointer at fr -/
structure WF (mp : κ → Nat) (g : Nat → Option (Nd κ)) (n fr : Nat) : Prop where
  lt : ∀ i x, g i = some x → i < n
  val : ∀ i j, lk g i j → ∃ y, g j = some y
  inj : ∀ i i' j, lk g i j → lk g i' j → i = i'
  rnk : ∃ rk : Nat → Nat, ∀ i j, lk g i j → rk j < rk i
  rch : ∀ i x, g i = some x → Rch g (mp x.key) i
  own : ∀ i x, g i = some x → ∃ y, g (mp x.key) = some y ∧ mp y.key = mp x.key
  frn : fr ≤ n
  fre : ∀ i, fr ≤ i → i < n → ∃ y, g i = some y
theorem WF.new {mp : κ → Nat} {n : Nat} : WF mp (fun _ => none) n n :=
  ⟨fun _ _ h => (nomatch h), fun _ _ ⟨_, h, _⟩ => (nomatch h), fun _ _ _ ⟨_, h, _⟩ => (nomatch h), ⟨fun _ => 0, fun _ _ ⟨_, h, _⟩ => (nomatch h)⟩, fun _ _ h => (nomatch h), fun _ _ h => (nomatch h), Nat.le_refl _, fun _ h h2 => absurd h2 (by omega)⟩
variable {mp : κ → Nat} {g : Nat → Option (Nd κ)} {n fr : Nat}
/-- the same keys and links -/
theorem WF.like (W : WF mp g n fr) {g' : Nat → Option (Nd κ)} {fr' : Nat} (h : ∀ i, (g' i).map (fun x => (x.key, x.link)) = (g i).map (fun x => (x.key, x.link))) (h1 : fr' ≤ fr) (h2 : ∀ i, fr' ≤ i → i < fr → ∃ y, g i = some y) : WF mp g' n fr' := by
  have to : ∀ {i x}, g' i = some x → ∃ y, g i = some y ∧ y.key = x.key ∧ y.link = x.link := by
    intro i x e
    have := h i
    rw [e] at this
    cases e2 : g i with
    | none => rw [e2] at this; cases this
    | some y =>
      rw [e2] at this
      simp only [Option.map_some] at this
      injection this with this
      injection this with a b
      exact ⟨y, rfl, a.symm, b.symm⟩
  have bk : ∀ {i x}, g i = some x → ∃ y, g' i = some y ∧ y.key = x.key ∧ y.link = x.link := by
    intro i x e
    have := h i
    rw [e] at this
    cases e2 : g' i with
    | none => rw [e2] at this; cases this
    | some y =>
      rw [e2] at this
      simp only [Option.map_some] at this
      injection this with this
      injection this with a b
      exact ⟨y, rfl, a, b⟩
  have l1 : ∀ {i j}, lk g' i j → lk g i j := fun ⟨x, e, hx⟩ => by
    obtain ⟨y, e2, _, b⟩ := to e
    exact ⟨y, e2, b.trans hx⟩
  have l2 : ∀ {i j}, lk g i j → lk g' i j := fun ⟨x, e, hx⟩ => by
    obtain ⟨y, e2, _, b⟩ := bk e
    exact ⟨y, e2, b.trans hx⟩
  have r2 : ∀ {i j}, Rch g i j → Rch g' i j := fun r => by
    induction r with
    | refl i => exact .refl i
    | step a _ ih => exact .step (l2 a) ih
  refine ⟨fun i x e => ?_, fun i j e => ?_, fun i i' j a b => W.inj _ _ _ (l1 a) (l1 b), ?_, fun i x e => ?_, fun i x e => ?_, Nat.le_trans h1 W.frn, fun i a b => ?_⟩
  · obtain ⟨y, e2, _⟩ := to e
    exact W.lt _ _ e2
  · obtain ⟨y, e2⟩ := W.val _ _ (l1 e)
    obtain ⟨z, e3, _⟩ := bk e2
    exact ⟨z, e3⟩
  · obtain ⟨rk, h⟩ := W.rnk
    exact ⟨rk, fun i j a => h _ _ (l1 a)⟩
  · obtain ⟨y, e2, a, _⟩ := to e
    rw [← a]
    exact r2 (W.rch _ _ e2)
  · obtain ⟨y, e2, a, _⟩ := to e
    obtain ⟨z, e3, b⟩ := W.own _ _ e2
    obtain ⟨u, e4, c, _⟩ := bk e3
    rw [← a]
    exact ⟨u, e4, by rw [c]; exact b⟩
  · by_cases hi : i < fr
    · obtain ⟨y, e⟩ := h2 i a hi
      obtain ⟨z, e3, _⟩ := bk e
      exact ⟨z, e3⟩
    · obtain ⟨y, e⟩ := W.fre i (by omega) b
      obtain ⟨z, e3, _⟩ := bk e
      exact ⟨z, e3⟩
/-- the node at the main position is unused or has no value -/
theorem WF.repl (W : WF mp g n fr) {a : Nat} {x : Nd κ} (ha : a < n) (hm : mp x.key = a) (hl : x.link = (g a).bind (·.link)) : WF mp (fu g a (some x)) n fr := by
  have l1 : ∀ {i j}, lk (fu g a (some x)) i j → lk g i j := fun {i j} ⟨y, e, hy⟩ => by
    by_cases h : i = a
    · subst h
      rw [fu_same] at e
      cases e
      rw [hl] at hy
      cases e2 : g i with
      | none => rw [e2] at hy; cases hy
      | some z => rw [e2] at hy; exact ⟨z, e2, hy⟩
    · rw [fu_ne h] at e
      exact ⟨y, e, hy⟩
  have l2 : ∀ {i j}, lk g i j → lk (fu g a (some x)) i j := fun {i j} ⟨y, e, hy⟩ => by
    by_cases h : i = a
    · subst h
      refine ⟨x, fu_same, ?_⟩
      rw [hl, e]
      exact hy
    · exact ⟨y, by rw [fu_ne h]; exact e, hy⟩
  have r2 : ∀ {i j}, Rch g i j → Rch (fu g a (some x)) i j := fun r => by
    induction r with
    | refl i => exact .refl i
    | step a _ ih => exact .step (l2 a) ih
  have ex : ∀ i y, g i = some y → ∃ z, fu g a (some x) i = some z := fun i y e => by
    by_cases h : i = a
    · subst h; exact ⟨x, fu_same⟩
    · exact ⟨y, by rw [fu_ne h]; exact e⟩
  refine ⟨fun i y e => ?_, fun i j e => ?_, fun i i' j a b => W.inj _ _ _ (l1 a) (l1 b), ?_, fun i y e => ?_, fun i y e => ?_, W.frn, fun i h1 h2 => ?_⟩
  · by_cases h : i = a
    · subst h; exact ha
    · rw [fu_ne h] at e; exact W.lt _ _ e
  · obtain ⟨y, e2⟩ := W.val _ _ (l1 e)
    exact ex _ _ e2
  · obtain ⟨rk, h⟩ := W.rnk
    exact ⟨rk, fun i j a => h _ _ (l1 a)⟩
  · by_cases h : i = a
    · subst h
      rw [fu_same] at e
      cases e
      rw [hm]
      exact .refl _
    · rw [fu_ne h] at e
      exact r2 (W.rch _ _ e)
  · by_cases h : i = a
    · subst h
      rw [fu_same] at e
      cases e
      rw [hm, fu_same]
      exact ⟨x, rfl, hm⟩
    · rw [fu_ne h] at e
      obtain ⟨z, e2, b⟩ := W.own _ _ e
      by_cases h2 : mp y.key = a
      · rw [h2, fu_same]
        exact ⟨x, rfl, hm⟩
      · exact ⟨z, by rw [fu_ne h2]; exact e2, b⟩
  · obtain ⟨y, e⟩ := W.fre i h1 h2
    exact ex _ _ e
/-- the free place: the pointer goes down to the first unused one -/
structure FreeAt (g : Nat → Option (Nd κ)) (n fr f : Nat) : Prop where
  lt : f < fr
  none : g f = Option.none
  up : ∀ i, f < i → i < fr → ∃ y, g i = some y
theorem WF.no_to (W : WF mp g n fr) {f i : Nat} (h : g f = none) : ¬ lk g i f := fun z => by
  obtain ⟨y, e⟩ := W.val _ _ z
  rw [h] at e; cases e
theorem WF.no_from {f j : Nat} (h : g f = none) : ¬ lk g f j := fun ⟨y, e, _⟩ => by rw [h] at e; cases e
/-- a key with the same main position as the node that is there -/
theorem WF.coll (W : WF mp g n fr) {a f : Nat} {h : Nd κ} {x : Nd κ} (F : FreeAt g n fr f) (ha : g a = some h) (hh : mp h.key = a) (hx : mp x.key = a) (hl : x.link = h.link) : WF mp (fu (fu g f (some x)) a (some { h with link := some f })) n f := by
  have hfa : f ≠ a := fun z => by rw [← z, F.none] at ha; cases ha
  have ga : fu (fu g f (some x)) a (some { h with link := some f }) a = some { h with link := some f } := fu_same
  have gf : fu (fu g f (some x)) a (some { h with link := some f }) f = some x := by rw [fu_ne hfa, fu_same]
  have go : ∀ {i}, i ≠ a → i ≠ f → fu (fu g f (some x)) a (some { h with link := some f }) i = g i := fun h1 h2 => by rw [fu_ne h1, fu_ne h2]
  generalize fu (fu g f (some x)) a (some { h with link := some f }) = g' at *
  have l1 : ∀ {i j}, lk g' i j → (i = a ∧ j = f) ∨ (i = f ∧ lk g a j) ∨ (i ≠ a ∧ i ≠ f ∧ lk g i j) := fun {i j} ⟨y, e, hy⟩ => by
    by_cases h1 : i = a
    · subst h1
      rw [ga] at e
      cases e
      exact .inl ⟨rfl, (Option.some.inj hy).symm⟩
    · by_cases h2 : i = f
      · subst h2
        rw [gf] at e
        cases e
        exact .inr (.inl ⟨rfl, h, ha, by rw [← hl]; exact hy⟩)
      · rw [go h1 h2] at e
        exact .inr (.inr ⟨h1, h2, y, e, hy⟩)
  have laf : lk g' a f := ⟨_, ga, rfl⟩
  have lf : ∀ {j}, lk g a j → lk g' f j := fun {j} ⟨y, e, hy⟩ => by
    rw [ha] at e; cases e
    exact ⟨x, gf, by rw [hl]; exact hy⟩
  have lo : ∀ {i j}, i ≠ a → lk g i j → lk g' i j := fun {i j} h1 ⟨y, e, hy⟩ => by
    have h2 : i ≠ f := fun z => by rw [z, F.none] at e; cases e
    exact ⟨y, by rw [go h1 h2]; exact e, hy⟩
  have r2 : ∀ {i j}, Rch g i j → Rch g' i j := fun r => by
    induction r with
    | refl i => exact .refl i
    | @step i j l b _ ih =>
      by_cases h1 : i = a
      · subst h1
        exact .step laf (.step (lf b) ih)
      · exact .step (lo h1 b) ih
  have ex : ∀ i y, g i = some y → ∃ z, g' i = some z ∧ z.key = y.key := fun i y e => by
    by_cases h1 : i = a
    · subst h1; rw [ha] at e; cases e; exact ⟨_, ga, rfl⟩
    · by_cases h2 : i = f
      · rw [h2, F.none] at e; cases e
      · exact ⟨y, by rw [go h1 h2]; exact e, rfl⟩
  have hfn : f < n := Nat.lt_of_lt_of_le F.lt W.frn
  refine ⟨fun i y e => ?_, fun i j e => ?_, fun i i' j b c => ?_, ?_, fun i y e => ?_, fun i y e => ?_, Nat.le_of_lt hfn, fun i h1 h2 => ?_⟩
  · by_cases h1 : i = a
    · subst h1; exact W.lt _ _ ha
    · by_cases h2 : i = f
      · subst h2; exact hfn
      · rw [go h1 h2] at e; exact W.lt _ _ e
  · rcases l1 e with ⟨_, rfl⟩ | ⟨_, e⟩ | ⟨_, _, e⟩
    · exact ⟨x, gf⟩
    · obtain ⟨y, e2⟩ := W.val _ _ e
      obtain ⟨z, e3, _⟩ := ex _ _ e2
      exact ⟨z, e3⟩
    · obtain ⟨y, e2⟩ := W.val _ _ e
      obtain ⟨z, e3, _⟩ := ex _ _ e2
      exact ⟨z, e3⟩
  · rcases l1 b with ⟨b1, b2⟩ | ⟨b1, b⟩ | ⟨b1, b2, b⟩ <;> rcases l1 c with ⟨c1, c2⟩ | ⟨c1, c⟩ | ⟨c1, c2, c⟩
    · exact b1.trans c1.symm
    · rw [b2] at c; exact absurd c (W.no_to F.none)
    · rw [b2] at c; exact absurd c (W.no_to F.none)
    · rw [c2] at b; exact absurd b (W.no_to F.none)
    · exact b1.trans c1.symm
    · exact absurd (W.inj _ _ _ b c).symm c1
    · rw [c2] at b; exact absurd b (W.no_to F.none)
    · exact absurd (W.inj _ _ _ b c) b1
    · exact W.inj _ _ _ b c
  · obtain ⟨rk, hr⟩ := W.rnk
    refine ⟨fun i => if i = f then 2 * rk a else 2 * rk i + 1, fun i j e => ?_⟩
    show (if j = f then 2 * rk a else 2 * rk j + 1) < (if i = f then 2 * rk a else 2 * rk i + 1)
    rcases l1 e with ⟨rfl, rfl⟩ | ⟨rfl, e⟩ | ⟨e1, e2, e⟩
    · rw [if_pos rfl, if_neg (fun z => hfa z.symm)]; omega
    · rw [if_pos rfl, if_neg (fun z => by rw [z] at e; exact W.no_to F.none e)]
      have := hr _ _ e
      omega
    · rw [if_neg e2, if_neg (fun z => by rw [z] at e; exact W.no_to F.none e)]
      have := hr _ _ e
      omega
  · by_cases h1 : i = a
    · subst h1
      rw [ga] at e
      cases e
      show Rch g' (mp h.key) i
      rw [hh]
      exact .refl _
    · by_cases h2 : i = f
      · subst h2
        rw [gf] at e
        cases e
        rw [hx]
        exact .step laf (.refl _)
      · rw [go h1 h2] at e
        exact r2 (W.rch _ _ e)
  · by_cases h1 : i = a
    · subst h1
      rw [ga] at e
      cases e
      show ∃ y, g' (mp h.key) = some y ∧ mp y.key = mp h.key
      rw [hh]
      exact ⟨_, ga, hh⟩
    · by_cases h2 : i = f
      · subst h2
        rw [gf] at e
        cases e
        rw [hx]
        exact ⟨_, ga, hh⟩
      · rw [go h1 h2] at e
        obtain ⟨z, e2, b⟩ := W.own _ _ e
        obtain ⟨z2, e3, c⟩ := ex _ _ e2
        exact ⟨z2, e3, by rw [c]; exact b⟩
  · by_cases h3 : i = f
    · subst h3; exact ⟨x, gf⟩
    · obtain ⟨y, e⟩ : ∃ y, g i = some y := by
        by_cases h4 : i < fr
        · exact F.up i (by omega) h4
        · exact W.fre i (by omega) h2
      obtain ⟨z, e2, _⟩ := ex _ _ e
      exact ⟨z, e2⟩
/-- the node that is there belongs elsewhere: it moves to the free place -/
theorem WF.move (W : WF mp g n fr) {a f p : Nat} {h q x : Nd κ} (F : FreeAt g n fr f) (ha : g a = some h) (hh : mp h.key ≠ a) (hp : g p = some q) (hq : q.link = some a) (hx : mp x.key = a) (hl : x.link = none) :
    WF mp (fu (fu (fu g p (some { q with link := some f })) f (some h)) a (some x)) n f := by
  obtain ⟨rk, hr⟩ := id W.rnk
  have lpa : lk g p a := ⟨q, hp, hq⟩
  have hpa : p ≠ a := fun z => by have := hr _ _ lpa; rw [z] at this; omega
  have hfa : f ≠ a := fun z => by rw [← z, F.none] at ha; cases ha
  have hfp : f ≠ p := fun z => by rw [← z, F.none] at hp; cases hp
  have ga : fu (fu (fu g p (some { q with link := some f })) f (some h)) a (some x) a = some x := fu_same
  have gf : fu (fu (fu g p (some { q with link := some f })) f (some h)) a (some x) f = some h := by rw [fu_ne hfa, fu_same]
  have gp : fu (fu (fu g p (some { q with link := some f })) f (some h)) a (some x) p = some { q with link := some f } := by rw [fu_ne hpa, fu_ne (fun z => hfp z.symm), fu_same]
  have go : ∀ {i}, i ≠ a → i ≠ f → i ≠ p → fu (fu (fu g p (some { q with link := some f })) f (some h)) a (some x) i = g i := fun h1 h2 h3 => by rw [fu_ne h1, fu_ne h2, fu_ne h3]
  generalize fu (fu (fu g p (some { q with link := some f })) f (some h)) a (some x) = g' at *
  have l1 : ∀ {i j}, lk g' i j → (i = p ∧ j = f) ∨ (i = f ∧ lk g a j) ∨ (i ≠ a ∧ i ≠ f ∧ i ≠ p ∧ lk g i j) := fun {i j} ⟨y, e, hy⟩ => by
    by_cases h1 : i = a
    · subst h1
      rw [ga] at e
      cases e
      rw [hl] at hy; cases hy
    · by_cases h2 : i = f
      · subst h2
        rw [gf] at e
        cases e
        exact .inr (.inl ⟨rfl, h, ha, hy⟩)
      · by_cases h3 : i = p
        · subst h3
          rw [gp] at e
          cases e
          exact .inl ⟨rfl, (Option.some.inj hy).symm⟩
        · rw [go h1 h2 h3] at e
          exact .inr (.inr ⟨h1, h2, h3, y, e, hy⟩)
  have lpf : lk g' p f := ⟨_, gp, rfl⟩
  have lf : ∀ {j}, lk g a j → lk g' f j := fun {j} ⟨y, e, hy⟩ => by
    rw [ha] at e; cases e
    exact ⟨h, gf, hy⟩
  have lo : ∀ {i j}, i ≠ a → i ≠ p → lk g i j → lk g' i j := fun {i j} h1 h3 ⟨y, e, hy⟩ => by
    have h2 : i ≠ f := fun z => by rw [z, F.none] at e; cases e
    exact ⟨y, by rw [go h1 h2 h3]; exact e, hy⟩
  have nta : ∀ {i}, i ≠ p → ¬ lk g i a := fun h1 z => h1 (W.inj _ _ _ z lpa)
  have r2 : ∀ {i j}, Rch g i j → Rch g' (if i = a then f else i) (if j = a then f else j) := fun r => by
    induction r with
    | refl i => exact .refl _
    | @step i j l b _ ih =>
      by_cases h1 : i = a
      · subst h1
        rw [if_pos rfl]
        have hj : j ≠ i := fun z => by have := hr _ _ b; rw [z] at this; omega
        rw [if_neg hj] at ih
        exact .step (lf b) ih
      · rw [if_neg h1]
        by_cases h2 : i = p
        · subst h2
          have := lk_fun b lpa
          subst this
          rw [if_pos rfl] at ih
          exact .step lpf ih
        · have hj : j ≠ a := fun z => nta h2 (by rw [z] at b; exact b)
          rw [if_neg hj] at ih
          exact .step (lo h1 h2 b) ih
  have ex : ∀ i y, i ≠ a → g i = some y → ∃ z, g' i = some z ∧ z.key = y.key := fun i y h1 e => by
    by_cases h2 : i = f
    · rw [h2, F.none] at e; cases e
    · by_cases h3 : i = p
      · subst h3; rw [hp] at e; cases e; exact ⟨_, gp, rfl⟩
      · exact ⟨y, by rw [go h1 h2 h3]; exact e, rfl⟩
  have hfn : f < n := Nat.lt_of_lt_of_le F.lt W.frn
  have noa : ∀ i y, g i = some y → mp y.key ≠ a := fun i y e z => by
    obtain ⟨u, e2, b⟩ := W.own _ _ e
    rw [z, ha] at e2
    cases e2
    exact hh (b.trans z)
  have alln : ∀ i, i ≠ a → i ≠ f → ∀ y, g' i = some y → ∃ z, g i = some z ∧ z.key = y.key := fun i h1 h2 y e => by
    by_cases h3 : i = p
    · subst h3; rw [gp] at e; cases e; exact ⟨q, hp, rfl⟩
    · rw [go h1 h2 h3] at e; exact ⟨y, e, rfl⟩
  refine ⟨fun i y e => ?_, fun i j e => ?_, fun i i' j b c => ?_, ?_, fun i y e => ?_, fun i y e => ?_, Nat.le_of_lt hfn, fun i h1 h2 => ?_⟩
  · by_cases h1 : i = a
    · subst h1; exact W.lt _ _ ha
    · by_cases h2 : i = f
      · subst h2; exact hfn
      · obtain ⟨z, e2, _⟩ := alln i h1 h2 y e
        exact W.lt _ _ e2
  · rcases l1 e with ⟨_, rfl⟩ | ⟨_, e⟩ | ⟨e1, _, e3, e⟩
    · exact ⟨h, gf⟩
    · obtain ⟨y, e2⟩ := W.val _ _ e
      have hj : j ≠ a := fun z => by have := hr _ _ e; rw [z] at this; omega
      obtain ⟨z, e3, _⟩ := ex _ _ hj e2
      exact ⟨z, e3⟩
    · obtain ⟨y, e2⟩ := W.val _ _ e
      have hj : j ≠ a := fun z => nta e3 (by rw [z] at e; exact e)
      obtain ⟨z, e3, _⟩ := ex _ _ hj e2
      exact ⟨z, e3⟩
  · rcases l1 b with ⟨b1, b2⟩ | ⟨b1, b⟩ | ⟨b1, b2, b3, b⟩ <;> rcases l1 c with ⟨c1, c2⟩ | ⟨c1, c⟩ | ⟨c1, c2, c3, c⟩
    · exact b1.trans c1.symm
    · rw [b2] at c; exact absurd c (W.no_to F.none)
    · rw [b2] at c; exact absurd c (W.no_to F.none)
    · rw [c2] at b; exact absurd b (W.no_to F.none)
    · exact b1.trans c1.symm
    · exact absurd (W.inj _ _ _ b c).symm c1
    · rw [c2] at b; exact absurd b (W.no_to F.none)
    · exact absurd (W.inj _ _ _ b c) b1
    · exact W.inj _ _ _ b c
  · refine ⟨fun i => if i = f then rk a else rk i, fun i j e => ?_⟩
    show (if j = f then rk a else rk j) < (if i = f then rk a else rk i)
    rcases l1 e with ⟨rfl, rfl⟩ | ⟨rfl, e⟩ | ⟨e1, e2, e3, e⟩
    · rw [if_pos rfl, if_neg (fun z => hfp z.symm)]; exact hr _ _ lpa
    · rw [if_pos rfl, if_neg (fun z => by rw [z] at e; exact W.no_to F.none e)]
      exact hr _ _ e
    · rw [if_neg e2, if_neg (fun z => by rw [z] at e; exact W.no_to F.none e)]
      exact hr _ _ e
  · by_cases h1 : i = a
    · subst h1
      rw [ga] at e
      cases e
      rw [hx]
      exact .refl _
    · by_cases h2 : i = f
      · subst h2
        rw [gf] at e
        cases e
        have := r2 (W.rch _ _ ha)
        rw [if_pos rfl, if_neg hh] at this
        exact this
      · obtain ⟨z, e2, b⟩ := alln i h1 h2 y e
        rw [← b]
        have := r2 (W.rch _ _ e2)
        rw [if_neg h1, if_neg (noa _ _ e2)] at this
        exact this
  · by_cases h1 : i = a
    · subst h1
      rw [ga] at e
      cases e
      rw [hx]
      exact ⟨x, ga, hx⟩
    · by_cases h2 : i = f
      · subst h2
        rw [gf] at e
        cases e
        obtain ⟨z, e2, b⟩ := W.own _ _ ha
        obtain ⟨z2, e3, c⟩ := ex _ _ hh e2
        exact ⟨z2, e3, by rw [c]; exact b⟩
      · obtain ⟨z, e2, b⟩ := alln i h1 h2 y e
        rw [← b]
        obtain ⟨z2, e3, c⟩ := W.own _ _ e2
        obtain ⟨z3, e4, d⟩ := ex _ _ (noa _ _ e2) e3
        exact ⟨z3, e4, by rw [d]; exact c⟩
  · by_cases h3 : i = f
    · subst h3; exact ⟨h, gf⟩
    · by_cases h5 : i = a
      · subst h5; exact ⟨x, ga⟩
      · obtain ⟨y, e⟩ : ∃ y, g i = some y := by
          by_cases h4 : i < fr
          · exact F.up i (by omega) h4
          · exact W.fre i (by omega) h2
        obtain ⟨z, e2, _⟩ := ex _ _ h5 e
        exact ⟨z, e2⟩
/-- from the main position of a node to the one ahead of it -/
theorem WF.ahead (W : WF mp g n fr) {i j : Nat} (h : Rch g i j) (hne : i ≠ j) : ∃ p, Rch g i p ∧ lk g p j := by
  induction h with
  | refl i => exact absurd rfl hne
  | @step i k l b r ih =>
    by_cases h : k = l
    · subst h; exact ⟨i, .refl _, b⟩
    · obtain ⟨p, r2, b2⟩ := ih h
      exact ⟨p, .step b r2, b2⟩
end
end Up

set_option Elab.async false
set_option linter.all false
set_option maxRecDepth 100000
set_option maxHeartbeats 4000000
namespace Up
open PySem PySem.Spec PyProof.Rows L2
/-! ### a list beside an empty one -/
def oEqE (K : PySem.W.Frag) : R2 := fun x y H Q => ∃ a b xs, x = .ref a ∧ y = .ref b ∧ SqL K H a xs ∧ SqL K H b [] ∧ Q (.bl xs.isEmpty) H
def oNeE (K : PySem.W.Frag) : R2 := fun x y H Q => ∃ a b xs, x = .ref a ∧ y = .ref b ∧ SqL K H a xs ∧ SqL K H b [] ∧ Q (.bl (!xs.isEmpty)) H
theorem op_eqE {X : Cx} (hu : X.A.units + 64 < cLine) : OpR X (compareOp .Eq) (oEqE X.K) := by
  intro pins s σ H x y v u Q I rx ry h
  obtain ⟨a, b, xs, rfl, rfl, ha, hb, q⟩ := h
  cases rx
  cases ry
  obtain ⟨its, r1, p1, _⟩ := I.list ha
  obtain ⟨jts, r2, p2, _⟩ := I.list hb
  have l1 := r1.length
  have l2 := r2.length
  by_cases e : xs = []
  · subst e
    have z1 : its.toArray.size = 0 := by rw [List.size_toArray, ← l1]; rfl
    refine SeqAt.eq_listAt (e := fun _ => true) p1.isList p2.isList (by rw [z1, List.size_toArray, ← l2]; rfl) (by omega) (fun j h1 => absurd h1 (by omega)) ?_
    rw [z1]
    exact ⟨.bl true, H, I, rfl, q⟩
  · refine SeqAt.eq_list_lengthsAt p1.isList p2.isList ?_ (by omega) ?_
    · rw [List.size_toArray, List.size_toArray, ← l1, ← l2]
      cases xs with
      | nil => exact absurd rfl e
      | cons _ _ => rfl
    · cases xs with
      | nil => exact absurd rfl e
      | cons _ _ => exact ⟨.bl false, H, I, rfl, q⟩
theorem op_neE {X : Cx} (hu : X.A.units + 64 < cLine) : OpR X (compareOp .NotEq) (oNeE X.K) := by
  intro pins s σ H x y v u Q I rx ry h
  obtain ⟨a, b, xs, rfl, rfl, ha, hb, q⟩ := h
  cases rx
  cases ry
  obtain ⟨its, r1, p1, _⟩ := I.list ha
  obtain ⟨jts, r2, p2, _⟩ := I.list hb
  have l1 := r1.length
  have l2 := r2.length
  by_cases e : xs = []
  · subst e
    have z1 : its.toArray.size = 0 := by rw [List.size_toArray, ← l1]; rfl
    refine SeqAt.RcNeAt.lists (e := fun _ => true) p1.isList p2.isList (by rw [z1, List.size_toArray, ← l2]; rfl) (by omega) (fun j h1 => absurd h1 (by omega)) _ _ _ _ ?_
    rw [z1]
    exact ⟨.bl false, H, I, rfl, q⟩
  · refine SeqAt.RcNeAt.lists_lengths p1.isList p2.isList ?_ (by omega) _ _ _ _ ?_
    · rw [List.size_toArray, List.size_toArray, ← l1, ← l2]
      cases xs with
      | nil => exact absurd rfl e
      | cons _ _ => rfl
    · cases xs with
      | nil => exact absurd rfl e
      | cons _ _ => exact ⟨.bl true, H, I, rfl, q⟩
theorem g_eqE {K : PySem.W.Frag} {H : Hp} {Q : VK} {a b : Addr} {xs : List V} (ha : H a = some (.lst xs)) (hb : H b = some (.lst [])) (q : Q (.bl xs.isEmpty) H) : oEqE K (.ref a) (.ref b) H Q := ⟨a, b, xs, rfl, rfl, SqL.of ha, SqL.of hb, q⟩
theorem g_neE {K : PySem.W.Frag} {H : Hp} {Q : VK} {a b : Addr} {xs : List V} (ha : H a = some (.lst xs)) (hb : H b = some (.lst [])) (q : Q (.bl (!xs.isEmpty)) H) : oNeE K (.ref a) (.ref b) H Q := ⟨a, b, xs, rfl, rfl, SqL.of ha, SqL.of hb, q⟩
/-! ### xs[i] op= e -/
def rGetL (K : PySem.W.Frag) : V → V → Hp → VK → Prop := fun x y H Q => ∃ p xs i z, x = .ref p ∧ y = .int i ∧ SqL K H p xs ∧ 0 ≤ i ∧ atI xs i = some z ∧ Q z H
theorem pget_list {X : Cx} : PGet X (rGetL X.K) := by
  intro pins s σ H x y v u Q I rx ry h
  obtain ⟨p, xs, i, z, rfl, rfl, hq, h0, he, q⟩ := h
  cases rx
  obtain ⟨t, rfl⟩ := ry
  obtain ⟨its, r, pl, hz⟩ := I.list hq
  obtain ⟨j, h1, h2, h3, h4, h5⟩ := atI_get he
  obtain ⟨w, ew, rw'⟩ := r.get h2
  have hl := r.length
  have hn := line63
  have hj : i.toNat = j := by
    rw [seqIndex_of h0 h5] at h1
    exact Option.some.inj h1
  exact wpAny_getItem_list pl.isList h0 (by omega) (by rw [hj]; simpa using ew) ⟨z, H, I, rw', q⟩
theorem g_augS {to ti te : TE} {tget : V → V → Hp → VK → Prop} {tip : TIp} {tset : TSet} {D : Ends} {σ : L2.St} {H : Hp} (h : to σ H fun o H1 => ti σ H1 fun i H2 => tget o i H2 fun x H3 => te σ H3 fun y H4 => tip x y H4 fun z H5 => tset o i z H5 fun H6 => D.nx σ H6) : tAugS to ti te tget tip tset D σ H := h
theorem g_getL {K : PySem.W.Frag} {H : Hp} {Q : VK} {p : Addr} {xs : List V} {i : Int} {z : V} (h : H p = some (.lst xs)) (h0 : 0 ≤ i) (e : atI xs i = some z) (q : Q z H) : rGetL K (.ref p) (.int i) H Q := ⟨p, xs, i, z, rfl, rfl, SqL.of h, h0, e, q⟩
theorem g_ipI {f : Int → Int → Int} {i j : Int} {H : Hp} {Q : VK} (q : Q (.int (f i j)) H) : ipI f (.int i) (.int j) H Q := ⟨i, j, rfl, rfl, q⟩
def ipM : TIp := fun x y H Q => ∃ i j, x = .int i ∧ y = .int j ∧ IntMulOk i j ∧ Q (.int (i * j)) H
theorem ip_mul {X : Cx} : PIp X .Mult ipM := by
  intro pins s σ H x y v u Q I r1 r2 h
  obtain ⟨i, j, e1, e2, hm, q⟩ := h
  subst e1; subst e2
  obtain ⟨t, rfl⟩ := r1
  obtain ⟨t', rfl⟩ := r2
  exact imul_int ⟨.int _, H, I.tok _, ⟨_, rfl⟩, q⟩ hm
theorem g_ipM {i j : Int} {H : Hp} {Q : VK} (hm : IntMulOk i j) (q : Q (.int (i * j)) H) : ipM (.int i) (.int j) H Q := ⟨i, j, rfl, rfl, hm, q⟩
theorem g_ord {c : Nat} {H : Hp} {Q : VK} (q : Q (.int (c : Nat)) H) : (fun xs H Q => ∃ x, xs = [V.str x] ∧ x.length = 1 ∧ Q (.int (x.cps.getD 0 0 : Nat)) H : List V → Hp → VK → Prop) [.str ⟨#[c]⟩] H Q := ⟨_, rfl, rfl, q⟩
/-! ### other readings -/
theorem g_nt {A B : Prop} (h : B) : if (!true) = true then A else B := h
theorem g_nf {A B : Prop} (h : A) : if (!false) = true then A else B := h

theorem g_bm {K : PySem.W.Frag} {T : String} {r : V → List V → Hp → VK → Prop} {to : TE} {t : TA} {σ : L2.St} {H : Hp} {Q : VK} (h : to σ H fun x H1 => tyV K T x H1 ∧ t σ H1 fun vs H2 => r x vs H2 Q) : tBM K T r to t σ H Q := h
theorem g_app {H : Hp} {Q : VK} {l : Addr} {xs : List V} {y : V} (h : H l = some (.lst xs)) (hz : xs.length < sizeLine) (q : ∀ H', H' l = some (.lst (xs ++ [y])) → (∀ b, b ≠ l → H' b = H b) → Q .non H') : rAppend (.ref l) [y] H Q := ⟨l, xs, y, rfl, rfl, h, hz, q _ upd_same fun b hb => upd_ne hb⟩
theorem g_ext {H : Hp} {Q : VK} {l b : Addr} {xs zs : List V} (h : H l = some (.lst xs)) (hb : H b = some (.lst zs)) (hz : xs.length + zs.length ≤ sizeLine) (q : ∀ H', H' l = some (.lst (xs ++ zs)) → (∀ b, b ≠ l → H' b = H b) → Q .non H') : rExtend (.ref l) [.ref b] H Q := ⟨l, b, xs, zs, rfl, rfl, h, hb, hz, q _ upd_same fun b hb => upd_ne hb⟩
theorem tyL {K : PySem.W.Frag} {H : Hp} {p : Addr} {xs : List V} (h : H p = some (.lst xs)) : tyV K "list" (.ref p) H := .inl ⟨rfl, _, SqL.of h⟩
theorem g_iStr {te : TE} {σ : L2.St} {H : Hp} {R : It → Hp → Prop} (h : te σ H fun v H1 => ∃ x, v = .str x ∧ R (Its x) H1) : iStr te σ H R := h
theorem atI_of {xs : List V} {i : Int} {v : V} (h0 : 0 ≤ i) (h : xs[i.toNat]? = some v) : atI xs i = some v := by
  have hl : i.toNat < xs.length := by
    by_cases e : i.toNat < xs.length
    · exact e
    · rw [List.getElem?_eq_none (by omega)] at h; cases h
  unfold atI
  have e : ixN xs.length i = some i.toNat := by unfold ixN; rw [if_pos h0, if_pos (by omega)]
  rw [e]
  exact h
theorem ixN_of {n : Nat} {i : Int} (h0 : 0 ≤ i) (h : i < n) : ixN n i = some i.toNat := by unfold ixN; rw [if_pos h0, if_pos (by omega)]
theorem g_aug {i : Nat} {te : TE} {tip : TIp} {D : Ends} {σ : L2.St} {H : Hp} (h : ∃ v, σ[i]? = some (some v) ∧ te σ H fun y H1 => tip v y H1 fun z H2 => D.nx (σ.set i (some z)) H2) : tAug i te tip D σ H := h
theorem g_fldaug {K : PySem.W.Frag} {ta tv : TE} {rd : R2} {f : Str} {D : Ends} {σ : L2.St} {H : Hp} (h : ta σ H fun x H1 => ∃ a C dx fs v, x = .ref a ∧ H1 a = some (.ins C dx fs) ∧ Cls K C ∧ NoAttr K C f ∧ fs.lookup f = some v ∧ tv σ H1 fun y H2 => rd v y H2 fun z H3 => ∃ dx' fs', H3 a = some (.ins C dx' fs') ∧ fs'.length < 1000 ∧ D.nx σ (upd H3 a (.ins C dx' (putF f z fs')))) : sFldAug K ta tv rd f D σ H := h
theorem pg_tupE {X : Cx} (K : PySem.W.Frag) {es : List Expr} {k : Nat} {t : TGs} {n : Nat} {pos : Pos} (hK : X.K = K) (hc : X.calm = true) (h : PGs X es t)
    (hn : (assignEach es X.env).length = n := by rfl) (hst : (assignEach es X.env).findIdx? (·.1) = none := by rfl) : PG X (.Tuple es k pos) (gTup K n t) := hK ▸ pg_tup hc h hn hst
/-! ### loops over enumerate, over a text -/
theorem for_enum {K : PySem.W.Frag} {a : Addr} {xs : List V} {g : TG} {tb : TS} {D : Ends} {σ : L2.St} {H : Hp} (Pv : Nat → L2.St → Hp → Prop) (h0 : Pv 0 σ H) (hl : ∀ i σ H, i ≤ xs.length → Pv i σ H → SqL K H a xs)
    (hs : ∀ i x σ H T, xs[i]? = some x → Pv i σ H → H T = none → g (.ref T) σ (upd H T (.tup [.int (i : Nat), x])) fun σ2 H2 => tb { D with nx := Pv (i + 1), ct := Pv (i + 1), bk := D.nx } σ2 H2) (hd : ∀ σ H, Pv xs.length σ H → D.nx σ H) :
    ∃ W : Nat → Nat → L2.St → Hp → Prop, (∃ m, W 0 m σ H) ∧ ∀ i m σ H, W i m σ H →
      ((Ite K a).stop i H ∧ D.nx σ H) ∨ ((Ite K a).go i H ∧ ∃ N : L2.St → Hp → Prop, (∀ σ' H', N σ' H' → ∃ m', m' < m ∧ W (i + 1) m' σ' H') ∧ ∀ x H', (Ite K a).yld i H x H' → g x σ H' fun σ2 H2 => tb { D with nx := N, ct := N, bk := D.nx } σ2 H2) := by
  refine ⟨fun i m σ H => m = xs.length - i ∧ i ≤ xs.length ∧ Pv i σ H, ⟨xs.length, by simp, Nat.zero_le _, h0⟩, ?_⟩
  rintro i m σ H ⟨rfl, hi, p⟩
  have q := hl i σ H hi p
  by_cases hlt : i < xs.length
  · refine .inr ⟨⟨xs, xs[i], q, by simp [hlt]⟩, Pv (i + 1), fun σ' H' p' => ⟨xs.length - (i + 1), by omega, rfl, hlt, p'⟩, fun x H' y => ?_⟩
    obtain ⟨T, y, rfl, hT, rfl, hy⟩ := y
    exact hs i y σ _ T (hy xs q) p hT
  · have e : i = xs.length := by omega
    subst e
    exact .inl ⟨⟨xs, q, Nat.le_refl _⟩, hd σ H p⟩
theorem lc_enum {K : PySem.W.Frag} {a : Addr} {xs : List V} {g : TG} {tt : TT} {te : TE} {vs : List Nat} {σ : L2.St} {H1 : Hp} {D : Addr} {Qd : Hp → Prop} (Pv : Nat → Hp → Prop) (h0 : Pv 0 (upd H1 D (.lst []))) (hl : ∀ i H, i ≤ xs.length → Pv i H → SqL K H a xs)
    (hs : ∀ i x H T, xs[i]? = some x → Pv i H → H T = none → g (.ref T) (wipe σ vs) (upd H T (.tup [.int (i : Nat), x])) fun σ2 H2 => wipe σ2 vs = wipe σ vs ∧ tt σ2 H2 fun b H3 =>
      if b = true then te σ2 H3 fun y H4 => ∃ acc, H4 D = some (.lst acc) ∧ acc.length < sizeLine ∧ Pv (i + 1) (upd H4 D (.lst (acc ++ [y]))) else Pv (i + 1) H3) (hd : ∀ H, Pv xs.length H → Qd H) :
    ∃ W : Nat → Nat → Hp → Prop, (∃ m, W 0 m (upd H1 D (.lst []))) ∧ ∀ i m H, W i m H →
      ((Ite K a).stop i H ∧ Qd H) ∨ ((Ite K a).go i H ∧ ∃ Nx : Hp → Prop, (∀ H', Nx H' → ∃ m', m' < m ∧ W (i + 1) m' H') ∧ ∀ x H', (Ite K a).yld i H x H' → g x (wipe σ vs) H' fun σ2 H2 => wipe σ2 vs = wipe σ vs ∧ tt σ2 H2 fun b H3 =>
        if b = true then te σ2 H3 fun y H4 => ∃ acc, H4 D = some (.lst acc) ∧ acc.length < sizeLine ∧ Nx (upd H4 D (.lst (acc ++ [y]))) else Nx H3) := by
  refine ⟨fun i m H => m = xs.length - i ∧ i ≤ xs.length ∧ Pv i H, ⟨xs.length, by simp, Nat.zero_le _, h0⟩, ?_⟩
  rintro i m H ⟨rfl, hi, p⟩
  have q := hl i H hi p
  by_cases hlt : i < xs.length
  · refine .inr ⟨⟨xs, xs[i], q, by simp [hlt]⟩, Pv (i + 1), fun H' p' => ⟨xs.length - (i + 1), by omega, rfl, hlt, p'⟩, fun x H' y => ?_⟩
    obtain ⟨T, y, rfl, hT, rfl, hy⟩ := y
    exact hs i y _ T (hy xs q) p hT
  · have e : i = xs.length := by omega
    subst e
    exact .inl ⟨⟨xs, q, Nat.le_refl _⟩, hd H p⟩
theorem for_str {x : Str} {g : TG} {tb : TS} {D : Ends} {σ : L2.St} {H : Hp} (Pv : Nat → L2.St → Hp → Prop) (h0 : Pv 0 σ H)
    (hs : ∀ i c σ H, x.cps[i]? = some c → Pv i σ H → g (.str ⟨#[c]⟩) σ H fun σ2 H2 => tb { D with nx := Pv (i + 1), ct := Pv (i + 1), bk := D.nx } σ2 H2) (hd : ∀ σ H, Pv x.cps.size σ H → D.nx σ H) :
    ∃ W : Nat → Nat → L2.St → Hp → Prop, (∃ m, W 0 m σ H) ∧ ∀ i m σ H, W i m σ H →
      ((Its x).stop i H ∧ D.nx σ H) ∨ ((Its x).go i H ∧ ∃ N : L2.St → Hp → Prop, (∀ σ' H', N σ' H' → ∃ m', m' < m ∧ W (i + 1) m' σ' H') ∧ ∀ x' H', (Its x).yld i H x' H' → g x' σ H' fun σ2 H2 => tb { D with nx := N, ct := N, bk := D.nx } σ2 H2) := by
  refine ⟨fun i m σ H => m = x.cps.size - i ∧ i ≤ x.cps.size ∧ Pv i σ H, ⟨x.cps.size, by simp, Nat.zero_le _, h0⟩, ?_⟩
  rintro i m σ H ⟨rfl, hi, p⟩
  by_cases hlt : i < x.cps.size
  · refine .inr ⟨hlt, Pv (i + 1), fun σ' H' p' => ⟨x.cps.size - (i + 1), by omega, rfl, hlt, p'⟩, fun x' H' y => ?_⟩
    obtain ⟨rfl, c, hc, rfl⟩ := y
    exact hs i c σ _ hc p
  · have e : i = x.cps.size := by omega
    subst e
    exact .inl ⟨Nat.le_refl _, hd σ H p⟩
end Up

set_option Elab.async false
set_option linter.all false
set_option maxRecDepth 100000
set_option maxHeartbeats 4000000
namespace Up
open PySem PySem.Spec PyProof.Rows L2
/-! ### calls with keywords: o.m(e, k = v), C(k = v) -/
def tMethK (C : Addr) (m : Str) (n l : Nat) (sp : Sp) (gV : List V → List V → List V) (E : XK) (ta : TE) (t tk : TA) : TE := fun σ H Q => ta σ H fun x H1 => ∃ a dx fs, x = .ref a ∧ H1 a = some (.ins C dx fs) ∧ fs.lookup m = none ∧
  t σ H1 fun vs H2 => tk σ H2 fun zs H3 => vs.length + 1 = n ∧ zs.length = l ∧ sp (gV (x :: vs) zs) H3 Q E
def MakeRK (C : Addr) (sp : Sp) (gV : List V → List V → List V) (vs zs : List V) (H : Hp) (Q : VK) (E : XK) : Prop := ∀ x dx H', H x = none → H dx = none → dx ≠ x → Same H H' → H' x = some (.ins C dx []) → (∀ b, b ≠ x → b ≠ dx → H' b = H b) →
  sp (gV (.ref x :: vs) zs) H' (fun v H2 => v = .non ∧ Q (.ref x) H2) E
def tMakeKN (C : Addr) (n l : Nat) (sp : Sp) (gV : List V → List V → List V) (E : XK) (t tk : TA) : TE := fun σ H Q => t σ H fun vs H1 => tk σ H1 fun zs H2 => vs.length = n ∧ zs.length = l ∧ MakeRK C sp gV vs zs H2 Q E
section
variable (P : Program) (w : World) (K : PySem.W.Frag) (mg : Str → Option Value) (base : Heap)
def MtK (CX : CXT) (k : Nat) (C : Addr) (m : Str) (ps : List Str) (n : Nat) (ks : List Str) (gV : List V → List V → List V) (sp : Sp) : Prop :=
  ∃ f fd g, FnOk P w K mg base CX k f fd ps sp ∧ Meth K C m f ∧ KBn K fd ps n ks g gV ∧ Cls K C
def CnK (CX : CXT) (k : Nat) (x : Str) (C : Addr) (ps : List Str) (n : Nat) (ks : List Str) (gV : List V → List V → List V) (sp : Sp) : Prop :=
  ∃ f fd g, FnOk P w K mg base CX k f fd ps sp ∧ Mk K C f ∧ mg x = some (.ref C) ∧ KBn K fd ps (n + 1) ks g gV
end
section
variable {X : Cx} {CX : CXT} {k n : Nat} {C : Addr} {x m : Str} {ps ks : List Str} {sp : Sp} {E : XK} {p pos apos : Pos} {e o : Expr} {es : List Expr} {kws : List Keyword} {ta : TE} {t tk : TA} {gV : List V → List V → List V}
theorem pe_mtK {pl : Sem Bool} (F : MtK X.prog X.w X.K X.mg X.base CX k C m ps n ks gV sp) (hr : Room k X.A) (hx : Passes CX X E) (he : PE X o ta) (ha : PA X (e :: es) t) (hkw : PK X kws tk)
    (hall : (backToKw pos (keywordEach kws X.env)).all (·.1.isSome) = true := by rfl) (hks : (backToKw pos (keywordEach kws X.env)).filterMap (·.1) = ks := by rfl)
    (hst : starEach (e :: es) X.env = (false, eval e X.env) :: starEach es X.env := by rfl) (hpl : ((backTo pos (starEach (e :: es) X.env)).any (·.1) || (backToKw pos (keywordEach kws X.env)).any (·.1.isNone)) = false := by rfl)
    (ht : eval (.Call (.Attribute o m apos) (e :: es) kws pos) X.env = (do
      let ov ← eval o X.env
      standAt apos.atName
      let (f, first) ← holding [ov] (getMethod ov m pl)
      callWith pos f first (backTo pos (starEach (e :: es) X.env)) (backToKw pos (keywordEach kws X.env))) := by rfl) :
    PE X (.Call (.Attribute o m apos) (e :: es) kws pos) (tMethK C m n ks.length sp gV E ta t tk) := by
  obtain ⟨f, fd, g, F, hm, hb, c⟩ := F
  refine ⟨fun pins s σ H Q I h => ?_⟩
  refine PySem.W.methodCall_KW (pl := pl) (thn (he.run pins s σ H _ I h) fun u s1 ⟨x, H1, I1, rx, a, dx, fs, ex, ea, l, q⟩ => ?_) ht
  subst ex
  obtain rfl : u = Value.ref a := rx
  refine getmeth_ok I1 ea c hm l ?_
  refine PySem.W.callWith_KW (first := [.ref a]) (h₀ := X.base) I.ok.mod.kin hm.kp hall (thn (ha.run pos pins s1 σ H1 _ I1 q) fun us s2 ⟨vs, H2, I2, r, q2⟩ => ?_) hpl hst
  refine thn (hkw.run pos pins s2 σ H2 _ I2 q2) fun ws s3 ⟨zs, H3, I3, rz, l1, l2, q3⟩ => ⟨I3.kIn, ?_⟩
  rw [hks]
  exact run_fnN (us := .ref a :: us) (vs := .ref a :: vs) F hr hb hx I3 (.cons rfl r) rz l1 l2 q3
theorem pe_mtK0 {pl : Sem Bool} (F : MtK X.prog X.w X.K X.mg X.base CX k C m ps n ks gV sp) (hr : Room k X.A) (hx : Passes CX X E) (he : PE X o ta) (hkw : PK X kws tk)
    (hall : (backToKw pos (keywordEach kws X.env)).all (·.1.isSome) = true := by rfl) (hks : (backToKw pos (keywordEach kws X.env)).filterMap (·.1) = ks := by rfl)
    (hpl : ((backTo pos (starEach [] X.env)).any (·.1) || (backToKw pos (keywordEach kws X.env)).any (·.1.isNone)) = false := by rfl)
    (ht : eval (.Call (.Attribute o m apos) [] kws pos) X.env = (do
      let ov ← eval o X.env
      standAt apos.atName
      let (f, first) ← holding [ov] (getMethod ov m pl)
      callWith pos f first (backTo pos (starEach [] X.env)) (backToKw pos (keywordEach kws X.env))) := by rfl) :
    PE X (.Call (.Attribute o m apos) [] kws pos) (tMethK C m n ks.length sp gV E ta tNil tk) := by
  obtain ⟨f, fd, g, F, hm, hb, c⟩ := F
  refine ⟨fun pins s σ H Q I h => ?_⟩
  refine PySem.W.methodCall_KW (pl := pl) (thn (he.run pins s σ H _ I h) fun u s1 ⟨x, H1, I1, rx, a, dx, fs, ex, ea, l, q⟩ => ?_) ht
  subst ex
  obtain rfl : u = Value.ref a := rx
  refine getmeth_ok I1 ea c hm l ?_
  refine PySem.W.callWith_KW0 (first := [.ref a]) (h₀ := X.base) I.ok.mod.kin hm.kp hall ?_ hpl
  refine thn (hkw.run pos pins s1 σ H1 _ I1 q) fun ws s3 ⟨zs, H3, I3, rz, l1, l2, q3⟩ => ⟨I3.kIn, ?_⟩
  rw [hks]
  exact run_fnN (us := [.ref a]) (vs := [.ref a]) F hr hb hx I3 (.cons rfl .nil) rz l1 l2 q3
theorem pe_cnK0 (F : CnK X.prog X.w X.K X.mg X.base CX k x C ps 0 ks gV sp) (hr : Room (k + 1) X.A) (hx : Passes CX X E) (hkw : PK X kws tk) (hg : Gl X x := by rfl)
    (hall : (backToKw pos (keywordEach kws X.env)).all (·.1.isSome) = true := by rfl) (hks : (backToKw pos (keywordEach kws X.env)).filterMap (·.1) = ks := by rfl) (hdb : (x == ("__debug__" : Str)) = false := by decide)
    (hpl : ((backTo pos (starEach [] X.env)).any (·.1) || (backToKw pos (keywordEach kws X.env)).any (·.1.isNone)) = false := by rfl) :
    PE X (.Call (.Name x p) [] kws pos) (tMakeKN C 0 ks.length sp gV E tNil tk) := by
  obtain ⟨f, fd, g, F, M, hm, hb⟩ := F
  refine ⟨fun pins s σ H Q I h => ?_⟩
  refine wpAny_Call_Name_kw (ld_glob I hg hm ?_ hdb)
  refine PySem.W.callWith_KW0 (h₀ := X.base) I.ok.mod.kin M.kp hall ?_ hpl
  refine thn (hkw.run pos pins s σ H _ I h) fun ws s2 ⟨zs, H2, I2, rz, l1, l2, q2⟩ => ⟨I2.kIn, ?_⟩
  rw [hks]
  refine run_makeK (us := []) (vs := []) M F hr hb hx I2 .nil rz rfl l2 fun y dy n1 n2 ne => q2 y dy _ n1 n2 ne (fun b u z => ?_) upd_same fun b hb1 hb2 => ?_
  · rw [upd_ne (ne_of_none z n1), upd_ne (ne_of_none z n2)]; exact z
  · rw [upd_ne hb1, upd_ne hb2]
end
/-- no defaults -/
theorem kbnN {K : PySem.W.Frag} {x qual : Str} {params : Arguments} {body : List Stmt} {scope : Scope} {f : Addr} {fd : FuncData} {ps : List Str} {n : Nat} {ks : List Str} {g : {α : Type} → List α → List α → List α} (F : FunD K x qual params body scope [] [] f fd)
    (hrel : ∀ {vs zs : List V} {us ws : List Value}, Vals vs us → Vals zs ws → Vals (g vs zs) (g us ws))
    (h : ∀ (kV doc pm : Value) (an : Option Addr) (cdv ct : Value) (us ws : List Value), us.length = n → ws.length = ks.length → bindArgs (PySem.W.fnOf x qual params body scope .none kV doc pm an cdv ct) ⟨us, ks.zip ws⟩ = pure (ps.zip (g us ws))) : KBn K fd ps n ks (fun us ws => g us ws) (fun vs zs => g vs zs) := by
  obtain ⟨oc, od, dV, kV, doc, pm, an, cdv, ct, osl, rfl, lk, hcd, hD, hK⟩ := F.ex
  rcases hD with ⟨_, rfl⟩ | ⟨e, _⟩
  · exact ⟨fun s us ws X l1 l2 => .of_eq (h kV doc pm an cdv ct us ws l1 l2), fun r1 r2 => hrel r1 r2⟩
  · exact absurd rfl e
theorem g_iRng2 {ta : TA} {σ : L2.St} {H : Hp} {R : It → Hp → Prop} (h : ta σ H fun vs H1 => ∃ i j : Int, vs = [.int i, .int j] ∧ (-(2 ^ 62) ≤ i ∧ i < 2 ^ 62 ∧ -(2 ^ 62) ≤ j ∧ j < 2 ^ 62) ∧ R (Itr i (j - i).toNat) H1) : iRng2 ta σ H R := h
section
variable {σ : L2.St} {H : Hp} {Q : VK} {C : Addr} {m : Str} {n l : Nat} {sp : Sp} {gV : List V → List V → List V} {E : XK} {ta : TE} {t tk : TA}
theorem g_methK (h : ta σ H fun x H1 => ∃ a dx fs, x = .ref a ∧ H1 a = some (.ins C dx fs) ∧ fs.lookup m = none ∧ t σ H1 fun vs H2 => tk σ H2 fun zs H3 => vs.length + 1 = n ∧ zs.length = l ∧ sp (gV (x :: vs) zs) H3 Q E) : tMethK C m n l sp gV E ta t tk σ H Q := h
theorem g_makeK (h : t σ H fun vs H1 => tk σ H1 fun zs H2 => vs.length = n ∧ zs.length = l ∧ MakeRK C sp gV vs zs H2 Q E) : tMakeKN C n l sp gV E t tk σ H Q := h
end
end Up

set_option Elab.async false
set_option linter.all false
set_option maxRecDepth 100000
set_option maxHeartbeats 4000000
namespace Up
open PySem
/-! ### numbers of bits, the lowest bit -/
def bitsN (n : Nat) : Nat := if n = 0 then 0 else n.log2 + 1
theorem intBits_nat (n : Nat) : Builtin.Int.intBits (n : Int) = bitsN n := by
  unfold Builtin.Int.intBits bitsN
  by_cases h : n = 0
  · subst h; rfl
  · rw [if_neg h, if_neg (by simpa using h)]
    simp
theorem intBits_neg (n : Int) : Builtin.Int.intBits n = bitsN n.natAbs := by
  unfold Builtin.Int.intBits bitsN
  by_cases h : n = 0
  · subst h; rfl
  · rw [if_neg (by simpa using h), if_neg (by simpa using h)]
theorem bits_lt (n : Nat) : n < 2 ^ bitsN n := by
  unfold bitsN
  by_cases h : n = 0
  · subst h; decide
  · rw [if_neg h]; exact Nat.lt_log2_self
theorem bits_ge {n : Nat} (h : n ≠ 0) : 2 ^ (bitsN n - 1) ≤ n := by
  unfold bitsN
  rw [if_neg h]
  exact Nat.log2_self_le h
theorem bits_le {n k : Nat} (h : n < 2 ^ k) : bitsN n ≤ k := by
  unfold bitsN
  by_cases h0 : n = 0
  · rw [if_pos h0]; exact Nat.zero_le _
  · rw [if_neg h0]
    exact (Nat.log2_lt h0).mpr h
theorem le_bits {n k : Nat} (h : 2 ^ k ≤ n) : k + 1 ≤ bitsN n := by
  rcases Nat.lt_or_ge k (bitsN n) with h1 | h1
  · exact h1
  · have h2 := bits_lt n
    have h3 : 2 ^ bitsN n ≤ 2 ^ k := Nat.pow_le_pow_right (by decide) h1
    omega
theorem bits_pow (k : Nat) : bitsN (2 ^ k) = k + 1 := by
  have h1 := le_bits (n := 2 ^ k) (k := k) (Nat.le_refl _)
  have h2 := bits_le (n := 2 ^ k) (k := k + 1) (Nat.pow_lt_pow_right (by decide) (Nat.lt_succ_self k))
  omega
theorem bits_pos {n : Nat} (h : n ≠ 0) : 1 ≤ bitsN n := by
  unfold bitsN; rw [if_neg h]; omega
def tz (n : Nat) : Nat := if h : n = 0 then 0 else if n % 2 = 1 then 0 else tz (n / 2) + 1
termination_by n
decreasing_by omega
theorem tz_odd {n : Nat} (h : n % 2 = 1) : tz n = 0 := by
  unfold tz
  rw [dif_neg (by omega), if_pos h]
theorem tz_even {n : Nat} (h0 : n ≠ 0) (h : n % 2 = 0) : tz n = tz (n / 2) + 1 := by
  rw [tz, dif_neg h0, if_neg (by omega)]
theorem land_two (a b : Nat) : a &&& b = 2 * ((a / 2) &&& (b / 2)) + (a % 2) * (b % 2) := by
  have h1 : (a &&& b) / 2 = (a / 2) &&& (b / 2) := Nat.and_div_two ..
  have h2 : (a &&& b) % 2 = (a % 2) * (b % 2) := by
    have e := Nat.and_mod_two_pow (a := a) (b := b) (n := 1)
    simp only [Nat.pow_one] at e
    rw [e]
    rcases Nat.mod_two_eq_zero_or_one a with ha | ha <;> rcases Nat.mod_two_eq_zero_or_one b with hb | hb <;> rw [ha, hb] <;> rfl
  omega
theorem land_pred : ∀ (n : Nat), n ≠ 0 → n &&& (n - 1) = n - 2 ^ tz n ∧ 2 ^ tz n ≤ n ∧ n / 2 ^ tz n % 2 = 1 ∧ n / 2 ^ tz n * 2 ^ tz n = n := by
  intro n
  induction n using Nat.strongRecOn with
  | _ n ih =>
    intro h0
    rcases Nat.mod_two_eq_zero_or_one n with he | ho
    · obtain ⟨i1, i2, i3, i4⟩ := ih (n / 2) (by omega) (by omega)
      rw [tz_even h0 he, Nat.pow_succ]
      have e2 : (n - 1) / 2 = n / 2 - 1 := by omega
      have ep : n / (2 ^ tz (n / 2) * 2) = n / 2 / 2 ^ tz (n / 2) := by rw [Nat.mul_comm, Nat.div_div_eq_div_mul]
      refine ⟨?_, by omega, by rw [ep]; exact i3, ?_⟩
      · rw [land_two n (n - 1), e2, i1, he, Nat.zero_mul]
        omega
      · rw [ep, ← Nat.mul_assoc, i4]
        omega
    · rw [tz_odd ho]
      refine ⟨?_, by omega, by simpa using ho, by simp⟩
      rw [land_two n (n - 1)]
      have e2 : (n - 1) / 2 = n / 2 := by omega
      have e3 : (n - 1) % 2 = 0 := by omega
      rw [e2, e3, Nat.and_self, Nat.mul_zero]
      omega
theorem low_bit {n : Nat} (h : n ≠ 0) : Builtin.bitAnd (n : Int) (0 - (n : Int)) = ((2 ^ tz n : Nat) : Int) := by
  rw [PyProof.Rows.bitAnd_pn (by omega) (by omega)]
  have e : (Builtin.bitNot (0 - (n : Int))).toNat = n - 1 := by unfold Builtin.bitNot; omega
  obtain ⟨i1, i2, _⟩ := land_pred n h
  rw [e, Int.toNat_natCast, i1]
  omega
theorem low_bits {n : Nat} (h : n ≠ 0) : ((Builtin.Int.intBits (Builtin.bitAnd (n : Int) (0 - (n : Int))) : Nat) : Int) - 1 = (tz n : Int) := by
  rw [low_bit h, intBits_nat, bits_pow]
  omega
theorem bits_shift {n : Nat} (h : n ≠ 0) : bitsN (n / 2 ^ tz n) + tz n = bitsN n := by
  obtain ⟨_, _, i3, i4⟩ := land_pred n h
  have hm : n / 2 ^ tz n ≠ 0 := by intro z; rw [z] at i3; omega
  generalize n / 2 ^ tz n = m at *
  generalize tz n = v at *
  have h1 := bits_lt m
  have h2 := bits_ge hm
  have h3 := bits_pos hm
  have a : bitsN n ≤ bitsN m + v := bits_le (by
    rw [← i4, Nat.pow_add]
    exact Nat.mul_lt_mul_of_pos_right h1 (Nat.two_pow_pos _))
  have b : bitsN m - 1 + v + 1 ≤ bitsN n := le_bits (by
    rw [← i4, Nat.pow_add]
    exact Nat.mul_le_mul_right _ h2)
  omega
end Up

set_option Elab.async false
set_option linter.all false
set_option maxRecDepth 100000
set_option maxHeartbeats 4000000
namespace Up
open PySem PySem.Spec PyProof.Rows L2
/-! ### tables, in plain Lean: what find and put come to -/
structure Tb (κ : Type) where
  arr : List V
  nds : Nds κ
  free : Nat
/-- what is asked of keys: same, the main position, the int that a key is, the key of an int -/
structure KO (κ : Type) where
  sm : κ → κ → Bool
  mp : κ → Nat → Nat
  wh : κ → Option Int
  ki : Int → κ
  lt : ∀ k n, 0 < n → mp k n < n
  wk : ∀ i, wh (ki i) = some i
section
variable {κ : Type} (O : KO κ)
inductive Fd (g : Nat → Option (Nd κ)) (k : κ) (wd : Bool) : Option Nat → Option Nat → Prop
  | non : Fd g k wd none none
  | emp {i : Nat} : g i = none → Fd g k wd (some i) none
  | hit {i : Nat} {x : Nd κ} : g i = some x → (O.sm x.key k && (wd || !x.dead)) = true → Fd g k wd (some i) (some i)
  | go {i : Nat} {x : Nd κ} {r : Option Nat} : g i = some x → (O.sm x.key k && (wd || !x.dead)) = false → Fd g k wd x.link r → Fd g k wd (some i) r
def st0 (k : κ) (n : Nat) : Option Nat := if n = 0 then none else some (O.mp k n)
theorem Fd.det {g : Nat → Option (Nd κ)} {k : κ} {wd : Bool} {a r r' : Option Nat} (h : Fd O g k wd a r) (h' : Fd O g k wd a r') : r = r' := by
  induction h with
  | non => cases h'; rfl
  | emp e =>
    cases h' with
    | emp _ => rfl
    | hit e2 _ => rw [e] at e2; cases e2
    | go e2 _ _ => rw [e] at e2; cases e2
  | hit e b =>
    cases h' with
    | emp e2 => rw [e] at e2; cases e2
    | hit e2 _ => rfl
    | go e2 b2 _ => rw [e] at e2; cases e2; rw [b] at b2; cases b2
  | go e b _ ih =>
    cases h' with
    | emp e2 => rw [e] at e2; cases e2
    | hit e2 b2 => rw [e] at e2; cases e2; rw [b] at b2; cases b2
    | go e2 b2 f => rw [e] at e2; cases e2; exact ih f
theorem Fd.at {g : Nat → Option (Nd κ)} {k : κ} {wd : Bool} {a : Option Nat} {i : Nat} (h : Fd O g k wd a (some i)) : ∃ x, g i = some x ∧ O.sm x.key k = true ∧ (wd = true ∨ x.dead = false) := by
  generalize hr : some i = r at h
  induction h with
  | non => cases hr
  | emp _ => cases hr
  | hit e b =>
    cases hr
    simp only [Bool.and_eq_true, Bool.or_eq_true, Bool.not_eq_true'] at b
    exact ⟨_, e, b.1, b.2⟩
  | go _ _ _ ih => exact ih hr
/-- the table's nodes are in order -/
def TW (t : Tb κ) : Prop := WF (fun k => O.mp k t.nds.length) (nd t.nds) t.nds.length t.free
def inside (t : Tb κ) (k : κ) : Prop := ∃ i, O.wh k = some i ∧ 1 ≤ i ∧ i ≤ t.arr.length
/-- put_new where nothing has to grow -/
inductive PutN (t : Tb κ) (k : κ) (kv u : V) : Tb κ → Prop
  | repl (a : Nat) : a = O.mp k t.nds.length → a < t.nds.length → (∀ x, nd t.nds a = some x → x.val = .non) → PutN t k kv u { t with nds := t.nds.set a (some ⟨k, kv, u, (nd t.nds a).bind (·.link), false⟩) }
  | coll (a f : Nat) (h : Nd κ) : a = O.mp k t.nds.length → FreeAt (nd t.nds) t.nds.length t.free f → nd t.nds a = some h → h.val ≠ .non → O.mp h.key t.nds.length = a →
      PutN t k kv u { t with nds := (t.nds.set f (some ⟨k, kv, u, h.link, false⟩)).set a (some { h with link := some f }), free := f }
  | move (a f p : Nat) (h q : Nd κ) : a = O.mp k t.nds.length → FreeAt (nd t.nds) t.nds.length t.free f → nd t.nds a = some h → h.val ≠ .non → O.mp h.key t.nds.length ≠ a → nd t.nds p = some q → q.link = some a →
      PutN t k kv u { t with nds := ((t.nds.set p (some { q with link := some f })).set f (some h)).set a (some ⟨k, kv, u, none, false⟩), free := f }
inductive PutS (t : Tb κ) (k : κ) (kv u : V) : Tb κ → Prop
  | ins (i : Int) : O.wh k = some i → 1 ≤ i → i ≤ t.arr.length → PutS t k kv u { t with arr := t.arr.set (i - 1).toNat u }
  | fnd (r : Nat) (x : Nd κ) : ¬ inside O t k → Fd O (nd t.nds) k false (st0 O k t.nds.length) (some r) → nd t.nds r = some x → PutS t k kv u { t with nds := t.nds.set r (some { x with val := u }) }
  | skip : ¬ inside O t k → Fd O (nd t.nds) k false (st0 O k t.nds.length) none → u = .non → PutS t k kv u t
  | new {t' : Tb κ} : ¬ inside O t k → Fd O (nd t.nds) k false (st0 O k t.nds.length) none → u ≠ .non → PutN O t k kv u t' → PutS t k kv u t'
def nn (l : Nds κ) : Nat := l.countP (·.isNone)
theorem cnt_set {p : Option (Nd κ) → Bool} : ∀ {l : Nds κ} {i : Nat} {x : Option (Nd κ)}, l.countP p ≤ (l.set i x).countP p + 1
  | [], _, _ => by simp
  | a :: l, 0, x => by simp only [List.set_cons_zero, List.countP_cons]; split <;> split <;> omega
  | a :: l, i + 1, x => by
    have := cnt_set (p := p) (l := l) (i := i) (x := x)
    simp only [List.set_cons_succ, List.countP_cons]
    omega
theorem cnt_same {p : Option (Nd κ) → Bool} : ∀ {l : Nds κ} {i : Nat} {x y : Option (Nd κ)}, l[i]? = some y → p y = p x → (l.set i x).countP p = l.countP p
  | [], _, _, _, h, _ => by simp at h
  | a :: l, 0, x, y, h, e => by
    simp only [List.getElem?_cons_zero, Option.some.injEq] at h
    subst h
    simp only [List.set_cons_zero, List.countP_cons, e]
  | a :: l, i + 1, x, y, h, e => by
    simp only [List.getElem?_cons_succ] at h
    have := cnt_same (p := p) (l := l) (i := i) h e
    simp only [List.set_cons_succ, List.countP_cons, this]
theorem nn_some {l : Nds κ} {i : Nat} {x y : Nd κ} (h : nd l i = some y) : nn (l.set i (some x)) = nn l :=
  cnt_same (y := some y) (by rw [nd_at (nd_lt h), h]) rfl
theorem nn_ex {l : Nds κ} (h : 0 < nn l) : ∃ i, i < l.length ∧ nd l i = none := by
  obtain ⟨a, ha, hp⟩ := List.countP_pos_iff.mp h
  obtain ⟨i, hi, e⟩ := List.getElem_of_mem ha
  refine ⟨i, hi, ?_⟩
  unfold nd
  rw [List.getElem?_eq_getElem hi, e]
  cases a with
  | none => rfl
  | some _ => cases hp
theorem nn_new (n : Nat) : nn (List.replicate n (none : Option (Nd κ))) = n := by
  unfold nn
  rw [List.countP_eq_length_filter, List.filter_replicate]
  simp
theorem nd_new (n : Nat) : nd (List.replicate n (none : Option (Nd κ))) = fun _ => none := by
  funext i
  unfold nd
  rw [List.getElem?_replicate]
  split <;> rfl
theorem TW.new (arr : List V) (n : Nat) : TW O (κ := κ) ⟨arr, List.replicate n none, n⟩ := by
  unfold TW
  simp only [nd_new, List.length_replicate]
  exact WF.new
theorem PutN.ok {t t' : Tb κ} {k : κ} {kv u : V} (W : TW O t) (h : PutN O t k kv u t') : TW O t' ∧ t'.nds.length = t.nds.length ∧ t'.arr = t.arr ∧ nn t.nds ≤ nn t'.nds + 1 := by
  unfold TW at *
  cases h with
  | repl a ha hlt hv =>
    refine ⟨?_, by simp, rfl, cnt_set⟩
    simp only [List.length_set]
    rw [nd_set hlt]
    exact WF.repl W hlt ha.symm rfl
  | coll a f h ha F e hv hh =>
    have hf : f < t.nds.length := Nat.lt_of_lt_of_le F.lt W.frn
    have hal := nd_lt e
    refine ⟨?_, by simp, rfl, ?_⟩
    · simp only [List.length_set]
      rw [nd_set (by rw [List.length_set]; exact hal), nd_set hf]
      exact WF.coll W F e hh ha.symm rfl
    · show nn t.nds ≤ nn ((t.nds.set f _).set a _) + 1
      have hfa : a ≠ f := fun z => by rw [z, F.none] at e; cases e
      rw [nn_some (y := h) (by rw [nd_set hf, fu_ne hfa]; exact e)]
      exact cnt_set
  | move a f p h q ha F e hv hh hp hq =>
    have hf : f < t.nds.length := Nat.lt_of_lt_of_le F.lt W.frn
    have hal := nd_lt e
    have hpl := nd_lt hp
    refine ⟨?_, by simp, rfl, ?_⟩
    · simp only [List.length_set]
      rw [nd_set (by rw [List.length_set, List.length_set]; exact hal), nd_set (by rw [List.length_set]; exact hf), nd_set hpl]
      exact WF.move W F e hh hp hq ha.symm rfl
    · show nn t.nds ≤ nn (((t.nds.set p _).set f _).set a _) + 1
      have hfa : a ≠ f := fun z => by rw [z, F.none] at e; cases e
      obtain ⟨rk, hr⟩ := W.rnk
      have hpa : a ≠ p := fun z => by have := hr _ _ ⟨q, hp, hq⟩; rw [z] at this; omega
      have e1 : nn (((t.nds.set p (some { q with link := some f })).set f (some h)).set a (some ⟨k, kv, u, none, false⟩)) = nn ((t.nds.set p (some { q with link := some f })).set f (some h)) :=
        nn_some (y := h) (by rw [nd_set (by rw [List.length_set]; exact hf), fu_ne hfa, nd_set hpl, fu_ne hpa]; exact e)
      have e2 : nn (t.nds.set p (some { q with link := some f })) = nn t.nds := nn_some hp
      rw [e1, ← e2]
      exact cnt_set
theorem PutS.ok {t t' : Tb κ} {k : κ} {kv u : V} (W : TW O t) (h : PutS O t k kv u t') : TW O t' ∧ t'.nds.length = t.nds.length ∧ t'.arr.length = t.arr.length ∧ nn t.nds ≤ nn t'.nds + 1 ∧ (inside O t k → nn t'.nds = nn t.nds) := by
  cases h with
  | ins i e h1 h2 => exact ⟨W, rfl, by simp, by simp, fun _ => rfl⟩
  | fnd r x ni f e =>
    refine ⟨?_, by simp, rfl, ?_, fun z => absurd z ni⟩
    · unfold TW at *
      simp only [List.length_set]
      refine WF.like W (fun i => ?_) (Nat.le_refl _) (fun i h1 h2 => absurd h1 (by omega))
      rw [nd_set (nd_lt e)]
      by_cases h : i = r
      · subst h; rw [fu_same, e]; rfl
      · rw [fu_ne h]
    · show nn t.nds ≤ nn (t.nds.set r _) + 1
      exact cnt_set
  | skip ni f e => exact ⟨W, rfl, rfl, by simp, fun z => absurd z ni⟩
  | new ni f e h =>
    obtain ⟨a, b, c, d⟩ := h.ok O W
    exact ⟨a, b, by rw [c], d, fun z => absurd z ni⟩
inductive PutA : Tb κ → List (κ × V × V) → Tb κ → Prop
  | nil {t : Tb κ} : PutA t [] t
  | cons {t t1 t' : Tb κ} {k : κ} {kv u : V} {l : List (κ × V × V)} : PutS O t k kv u t1 → PutA t1 l t' → PutA t ((k, kv, u) :: l) t'
theorem PutA.snoc {t t1 t2 : Tb κ} {k : κ} {kv u : V} {l : List (κ × V × V)} (h : PutA O t l t1) (h2 : PutS O t1 k kv u t2) : PutA O t (l ++ [(k, kv, u)]) t2 := by
  induction h with
  | nil => exact .cons h2 .nil
  | cons a _ ih => exact .cons a (ih h2)
/-- how many of some keys want a node where there are n places -/
def inB (n : Nat) (k : κ) : Bool := match O.wh k with
  | some i => decide (1 ≤ i) && decide (i ≤ n)
  | none => false
theorem inB_iff {t : Tb κ} {k : κ} : inside O t k ↔ inB O t.arr.length k = true := by
  unfold inside inB
  cases h : O.wh k with
  | none => simp
  | some i => simp
def outs (n : Nat) (l : List (κ × V × V)) : Nat := l.countP fun p => !inB O n p.1
theorem PutA.ok {t t' : Tb κ} {l : List (κ × V × V)} (h : PutA O t l t') (W : TW O t) : TW O t' ∧ t'.nds.length = t.nds.length ∧ t'.arr.length = t.arr.length ∧ nn t.nds ≤ nn t'.nds + outs O t.arr.length l := by
  induction h with
  | nil => exact ⟨W, rfl, rfl, by simp⟩
  | @cons t t1 t' k kv u l a _ ih =>
    obtain ⟨w1, e1, e2, e3, e4⟩ := a.ok O W
    obtain ⟨w2, f1, f2, f3⟩ := ih w1
    refine ⟨w2, f1.trans e1, f2.trans e2, ?_⟩
    rw [e2] at f3
    unfold outs at *
    rw [List.countP_cons]
    by_cases hi : inB O t.arr.length k = true
    · have := e4 ((inB_iff O).mpr hi)
      simp only [hi]
      simp only [Bool.not_true, Bool.false_eq_true, if_false]
      omega
    · simp only [Bool.not_eq_true] at hi
      simp only [hi, Bool.not_false, if_true]
      omega
/-! growing -/
def liveN (l : Nds κ) : List (κ × V × V) := l.filterMap fun o => match o with
  | some x => if x.val = .non then none else some (x.key, x.kv, x.val)
  | none => none
def liveA (a : Nat) : List V → List (κ × V × V)
  | [] => []
  | v :: l => if v = .non then liveA (a + 1) l else (O.ki (a + 1 : Nat), .int (a + 1 : Nat), v) :: liveA (a + 1) l
def padA (l : List V) (n : Nat) : List V := l ++ List.replicate (n - l.length) .non
inductive Rsz (t : Tb κ) (n m : Nat) : Tb κ → Prop
  | mk {t1 t' : Tb κ} : PutA O ⟨t.arr.take n, List.replicate m none, m⟩ (liveA O n (t.arr.drop n)) t1 → PutA O { t1 with arr := padA t1.arr n } (liveN t.nds) t' → Rsz t n m t'
theorem outs_liveA (a n : Nat) (h : n ≤ a) : ∀ l : List V, outs O n (liveA O a l) = (liveA O a l).length := by
  intro l
  induction l generalizing a with
  | nil => rfl
  | cons v l ih =>
    unfold liveA
    split
    · exact ih _ (by omega)
    · unfold outs at *
      rw [List.countP_cons, ih _ (by omega)]
      have : inB O n (O.ki ((a + 1 : Nat) : Int)) = false := by
        unfold inB
        rw [O.wk]
        simp
        omega
      simp only [this]
      rfl
/-- the keys with a value, by the array, then a key, then the nodes -/
def arrK (a : Nat) : List V → List κ
  | [] => []
  | v :: l => if v = .non then arrK (a + 1) l else O.ki (a + 1 : Nat) :: arrK (a + 1) l
theorem arrK_live (a : Nat) : ∀ l : List V, arrK O a l = (liveA O a l).map (·.1) := by
  intro l
  induction l generalizing a with
  | nil => rfl
  | cons v l ih =>
    unfold arrK liveA
    split
    · exact ih _
    · rw [ih]; rfl
def ndK (l : Nds κ) : List κ := (liveN l).map (·.1)
def keysK (t : Tb κ) (k : κ) : List κ := arrK O 0 t.arr ++ [k] ++ ndK t.nds
def cntIn (n : Nat) (l : List κ) : Nat := l.countP (inB O n)
/-- the best size by powers below p, and how many are inside -/
def bestK (l : List κ) : Nat → Nat × Nat
  | 0 => (0, 0)
  | p + 1 => if 2 ^ p < 2 * cntIn O (2 ^ p) l then (2 ^ p, cntIn O (2 ^ p) l) else bestK l p
theorem bestK_in (l : List κ) (p : Nat) : (bestK O l p).2 = cntIn O (bestK O l p).1 l := by
  induction p with
  | zero =>
    show 0 = cntIn O 0 l
    unfold cntIn
    symm
    rw [List.countP_eq_zero]
    intro k _
    unfold inB
    cases O.wh k with
    | none => simp
    | some i => simp; omega
  | succ p ih =>
    unfold bestK
    split
    · rfl
    · exact ih
def p2 (n : Nat) : Nat := if n = 0 then 0 else 2 ^ bitsN (n - 1)
end
end Up

set_option Elab.async false
set_option linter.all false
set_option maxRecDepth 100000
set_option maxHeartbeats 4000000
namespace Up
open PySem PySem.Spec PyProof.Rows L2
/-! ### the source of draws: a list of three ints that each draw changes -/
def Well (H : Hp) (w : Addr) : Prop := ∃ a b c : Int, H w = some (.lst [.int a, .int b, .int c]) ∧ 0 ≤ a ∧ 0 ≤ b ∧ b < 2147483647 ∧ 0 ≤ c
/-- all but the list at w stands -/
def Stp (w : Addr) (H H' : Hp) : Prop := ∀ b o, b ≠ w → H b = some o → H' b = some o
theorem Stp.refl (w : Addr) (H : Hp) : Stp w H H := fun _ _ _ h => h
theorem Stp.trans {w : Addr} {H H1 H2 : Hp} (a : Stp w H H1) (b : Stp w H1 H2) : Stp w H H2 := fun c o n h => b c o n (a c o n h)
theorem Stp.of {w : Addr} {H H' : Hp} (s : Same H H') : Stp w H H' := fun b o _ h => s b o h
theorem Well.same {w : Addr} {H H' : Hp} (h : Well H w) (s : Same H H') : Well H' w := by
  obtain ⟨a, b, c, h, r⟩ := h
  exact ⟨a, b, c, s _ _ h, r⟩
theorem Well.ne_none {w p : Addr} {H : Hp} (h : Well H w) (n : H p = none) : p ≠ w := by
  obtain ⟨a, b, c, h, _⟩ := h
  exact fun z => by rw [z, h] at n; cases n
/-- a place that holds no list -/
theorem Well.ne {w p : Addr} {H : Hp} {o : HO} (h : Well H w) (e : H p = some o) (n : ∀ xs, o ≠ .lst xs) : p ≠ w := by
  obtain ⟨a, b, c, h, _⟩ := h
  exact fun z => by
    rw [z, h] at e
    exact n _ (Option.some.inj e).symm
theorem Stp.ins {w p C dx : Addr} {H H' : Hp} {fs : List (Str × V)} (s : Stp w H H') (h : Well H w) (e : H p = some (.ins C dx fs)) : H' p = some (.ins C dx fs) := s _ _ (h.ne e fun _ z => by cases z) e
theorem Stp.free {w p : Addr} {H H' : Hp} (s : Stp w H H') (h : Well H' w) (e : H' p = none) : H p = none := by
  cases q : H p with
  | none => rfl
  | some o =>
    have n : p ≠ w := h.ne_none e
    rw [s p o n q] at e
    cases e
end Up

set_option Elab.async false
set_option linter.all false
set_option maxRecDepth 100000
set_option maxHeartbeats 4000000
namespace Up
open PySem PySem.Spec PyProof.Rows L2
/-! ### what the head's one Bool says of a class -/
def ownB (K : PySem.W.Frag) (C : Addr) : Bool :=
  PySem.W.plainGet K C Str.empty && (PySem.W.hasDictIn K C && (PySem.W.plainOver K C && (decide (PySem.W.findIn K (.ref C) "__setattr__" = some (some (.builtin "object.__setattr__"))) &&
  (decide (PySem.W.findIn K (.ref C) "__class__" = some (some (.builtin "object.__class__"))) && (decide (PySem.W.specialIn K (.builtin "object.__class__") "__get__" = some (some (.builtin "getset_descriptor.__get__"))) &&
  (decide (PySem.W.takesIn K (.builtin "object.__class__") = some true) && (decide (PySem.W.mroIn K C (.type "object") = some true) && (decide (PySem.W.kitOne K (.ref C) (.type "int") = some false) &&
  (decide (PySem.W.kitOne K (.ref C) (.type "bool") = some false) && decide (PySem.W.kitOne K (.ref C) (.type "str") = some false))))))))))
theorem ownB_ok {K : PySem.W.Frag} {C : Addr} (h : ownB K C = true) : OwnC K C := by
  unfold ownB at h
  simp only [Bool.and_eq_true, decide_eq_true_eq] at h
  obtain ⟨h1, h2, h3, h4, h5, h6, h7, h8, h9, h10, h11⟩ := h
  exact ⟨⟨h1, h2, h3, h4⟩, h5, h6, h7, h8, h9, h10, h11⟩
def idB (K : PySem.W.Frag) (C : Addr) : Bool := decide (PySem.W.mroIn K C (.type "object") = some true) && (decide (PySem.W.findIn K (.ref C) "__eq__" = some (some (.builtin "object.__eq__"))) && decide (PySem.W.subIn K (.ref C) (.type "NoneType") = some false))
theorem idB_ok {K : PySem.W.Frag} {C : Addr} (h : idB K C = true) : IdC K C := by
  unfold idB at h
  simp only [Bool.and_eq_true, decide_eq_true_eq] at h
  exact ⟨h.1, h.2.1, h.2.2⟩
def noB (K : PySem.W.Frag) (C : Addr) (xs : List Str) : Bool := xs.all fun f => decide (PySem.W.findIn K (.ref C) f = some none)
theorem noB_ok {K : PySem.W.Frag} {C : Addr} {xs : List Str} (h : noB K C xs = true) {f : Str} (hf : f ∈ xs) : NoAttr K C f := by
  have e := List.all_eq_true.mp h f hf
  exact of_decide_eq_true (p := PySem.W.findIn K (.ref C) f = some none) e
/-- isinstance(a value of the kind T, the class at C) is b -/
def kitB' (K : PySem.W.Frag) (C : Addr) (b : Bool) (xs : List Value) : Bool := xs.all fun t => decide (PySem.W.kitOne K t (.ref C) = some b)
theorem kitB'_ok {K : PySem.W.Frag} {C : Addr} {b : Bool} {xs : List Value} (h : kitB' K C b xs = true) {t : Value} (ht : t ∈ xs) : PySem.W.kitOne K t (.ref C) = some b := of_decide_eq_true (List.all_eq_true.mp h t ht)
section
variable {P : Program} {w : World} {K : PySem.W.Frag} {mg : Str → Option Value} {base : Heap}
/-- a def by its promise, from the head's facts -/
theorem fn_mk {CX : CXT} {k : Nat} {x y qual : Str} {params : Arguments} {body : List Stmt} {scope : Scope} {f : Addr} {fd : FuncData} {ps : List Str} {sp : Sp} (F : FunD K y qual params body scope [] [] f fd) (hm : mg x = some (.ref f)) (ok : FnOk P w K mg base CX k f fd ps sp)
    (h : ∀ (kV doc pm : Value) (an : Option Addr) (cdv ct : Value) (us : List Value), us.length = ps.length → bindArgs (PySem.W.fnOf y qual params body scope .none kV doc pm an cdv ct) ⟨us, []⟩ = pure (ps.zip us)) : Fn P w K mg base CX k x ps [] sp :=
  ⟨f, fd, [], ok, hm, F.kp, F.bindsN h, .nil⟩
theorem mt_mk {CX : CXT} {k : Nat} {m qual : Str} {params : Arguments} {body : List Stmt} {scope : Scope} {f C : Addr} {fd : FuncData} {ps : List Str} {sp : Sp} (F : FunD K m qual params body scope [] [] f fd) (hm : Meth K C m f) (cl : Cls K C) (ok : FnOk P w K mg base CX k f fd ps sp)
    (h : ∀ (kV doc pm : Value) (an : Option Addr) (cdv ct : Value) (us : List Value), us.length = ps.length → bindArgs (PySem.W.fnOf m qual params body scope .none kV doc pm an cdv ct) ⟨us, []⟩ = pure (ps.zip us)) : Mt P w K mg base CX k C m ps sp :=
  ⟨f, fd, ok, hm, F.bindsN h, cl⟩
theorem cn_mk {CX : CXT} {k : Nat} {x qual : Str} {params : Arguments} {body : List Stmt} {scope : Scope} {f C : Addr} {fd : FuncData} {ps : List Str} {sp : Sp} (F : FunD K "__init__" qual params body scope [] [] f fd) (hM : Mk K C f) (hm : mg x = some (.ref C)) (ok : FnOk P w K mg base CX k f fd ps sp)
    (h : ∀ (kV doc pm : Value) (an : Option Addr) (cdv ct : Value) (us : List Value), us.length = ps.length → bindArgs (PySem.W.fnOf "__init__" qual params body scope .none kV doc pm an cdv ct) ⟨us, []⟩ = pure (ps.zip us)) : Cn P w K mg base CX k x C ps [] sp :=
  ⟨f, fd, [], ok, hM, hm, F.bindsN h, .nil⟩
end
end Up

set_option Elab.async false
set_option linter.all false
set_option maxRecDepth 100000
set_option maxHeartbeats 4000000
namespace Up
open PySem
/-! ### the nearest float to a fraction: power, scaled parts, rounding -/
def nrP (t b : Nat) : Int := if (-1074 : Int) > (bitsN t : Int) - (bitsN b : Int) - 53 then -1074 else (bitsN t : Int) - (bitsN b : Int) - 53
def nrT (t : Nat) (p : Int) : Nat := if p < 0 then t * 2 ^ (0 - p).toNat else t
def nrB (b : Nat) (p : Int) : Nat := if p < 0 then b else b * 2 ^ p.toNat
def nrBig (t b : Nat) : Bool := decide (9007199254740992 ≤ nrT t (nrP t b) / nrB b (nrP t b))
def nrB2 (t b : Nat) : Nat := if nrBig t b then nrB b (nrP t b) * 2 else nrB b (nrP t b)
def nrP2 (t b : Nat) : Int := if nrBig t b then nrP t b + 1 else nrP t b
def nrQ (t b : Nat) : Nat := nrT t (nrP t b) / nrB2 t b
def nrR (t b : Nat) : Nat := nrT t (nrP t b) % nrB2 t b
def nrUp (t b : Nat) : Bool := decide (nrB2 t b < 2 * nrR t b) || (decide (2 * nrR t b = nrB2 t b) && decide (nrQ t b % 2 = 1))
def nrW (t b : Nat) : Nat := if nrUp t b then nrQ t b + 1 else nrQ t b
theorem nrP_lo (t b : Nat) : -1074 ≤ nrP t b := by unfold nrP; split <;> omega
theorem nrP_ge (t b : Nat) : (bitsN t : Int) - (bitsN b : Int) - 53 ≤ nrP t b := by unfold nrP; split <;> omega
theorem nrP_hi {t b : Nat} : nrP t b ≤ bitsN t := by unfold nrP; split <;> omega
theorem nrB_pos {b : Nat} (hb : 0 < b) (p : Int) : 0 < nrB b p := by
  unfold nrB; split
  · exact hb
  · exact Nat.mul_pos hb (Nat.two_pow_pos _)
theorem nrB2_pos {t b : Nat} (hb : 0 < b) : 0 < nrB2 t b := by
  unfold nrB2; split
  · exact Nat.mul_pos (nrB_pos hb _) (by decide)
  · exact nrB_pos hb _
/-- the scaled quotient is below 2 ^ 54 -/
theorem nr_lt54 {t b : Nat} (hb : 0 < b) : nrT t (nrP t b) / nrB b (nrP t b) < 2 ^ 54 := by
  rw [Nat.div_lt_iff_lt_mul (nrB_pos hb _)]
  have h1 := bits_lt t
  have h2 := bits_ge (n := b) (by omega)
  have h3 := bits_pos (n := b) (by omega)
  have h4 := nrP_ge t b
  unfold nrT nrB
  by_cases hp : nrP t b < 0
  · rw [if_pos hp, if_pos hp]
    have e1 : t * 2 ^ (0 - nrP t b).toNat < 2 ^ (bitsN t) * 2 ^ (0 - nrP t b).toNat := Nat.mul_lt_mul_of_pos_right h1 (Nat.two_pow_pos _)
    rw [← Nat.pow_add] at e1
    have e2 : 2 ^ (bitsN t + (0 - nrP t b).toNat) ≤ 2 ^ (54 + (bitsN b - 1)) := Nat.pow_le_pow_right (by decide) (by omega)
    rw [Nat.pow_add 2 54] at e2
    have e3 : 2 ^ 54 * 2 ^ (bitsN b - 1) ≤ 2 ^ 54 * b := Nat.mul_le_mul_left _ h2
    omega
  · rw [if_neg hp, if_neg hp]
    have e2 : 2 ^ bitsN t ≤ 2 ^ (54 + ((bitsN b - 1) + (nrP t b).toNat)) := Nat.pow_le_pow_right (by decide) (by omega)
    rw [Nat.pow_add 2 54, Nat.pow_add 2 (bitsN b - 1)] at e2
    have e3 : 2 ^ (bitsN b - 1) * 2 ^ (nrP t b).toNat ≤ b * 2 ^ (nrP t b).toNat := Nat.mul_le_mul_right _ h2
    have e4 : 2 ^ 54 * (2 ^ (bitsN b - 1) * 2 ^ (nrP t b).toNat) ≤ 2 ^ 54 * (b * 2 ^ (nrP t b).toNat) := Nat.mul_le_mul_left _ e3
    omega
theorem nrQ_lt {t b : Nat} (hb : 0 < b) : nrQ t b < 2 ^ 53 := by
  have h := nr_lt54 (t := t) hb
  unfold nrQ nrB2
  by_cases hg : nrBig t b = true
  · rw [if_pos hg, ← Nat.div_div_eq_div_mul]
    omega
  · rw [if_neg hg]
    have h2 : ¬ 9007199254740992 ≤ nrT t (nrP t b) / nrB b (nrP t b) := fun z => hg (decide_eq_true z)
    omega
theorem nrW_le {t b : Nat} (hb : 0 < b) : nrW t b ≤ 2 ^ 53 := by
  have h := nrQ_lt (t := t) hb
  unfold nrW; split <;> omega
theorem nrP2_lo (t b : Nat) : -1074 ≤ nrP2 t b := by
  have := nrP_lo t b
  unfold nrP2; split <;> omega
theorem nrB2_bits {t b m : Nat} (h1 : bitsN t ≤ m) (h2 : bitsN b ≤ m) (hb : 0 < b) : nrB2 t b < 2 ^ (m + 1) := by
  have h3 := bits_lt b
  have h4 := bits_pos (n := b) (by omega)
  have hB : nrB b (nrP t b) < 2 ^ m := by
    unfold nrB
    by_cases hp : nrP t b < 0
    · rw [if_pos hp]
      exact Nat.lt_of_lt_of_le h3 (Nat.pow_le_pow_right (by decide) h2)
    · rw [if_neg hp]
      have hx : nrP t b = (bitsN t : Int) - (bitsN b : Int) - 53 := by
        have hp' := hp
        unfold nrP at hp' ⊢
        split at hp' <;> rename_i hc
        · omega
        · rw [if_neg hc]
      have e1 : b * 2 ^ (nrP t b).toNat < 2 ^ bitsN b * 2 ^ (nrP t b).toNat := Nat.mul_lt_mul_of_pos_right h3 (Nat.two_pow_pos _)
      rw [← Nat.pow_add] at e1
      exact Nat.lt_of_lt_of_le e1 (Nat.pow_le_pow_right (by decide) (by omega))
  unfold nrB2
  rw [Nat.pow_succ]
  split <;> omega
end Up

set_option Elab.async false
set_option linter.all false
set_option maxRecDepth 100000
set_option maxHeartbeats 4000000
namespace Up
open PySem PySem.Spec PyProof.Rows L2
local macro_rules | `(tactic| walk_at "u") => `(tactic| first
  | with_reducible refine g_seq ?_
  | with_reducible refine g_asg ?_
  | with_reducible refine g_op ?_
  | ((with_reducible show tVar _ _ _ _); apply g_var; exact rfl)
  | with_reducible refine g_c ?_
  | with_reducible refine g_name ?_
  | with_reducible refine g_ifs ?_
  | with_reducible refine g_tt ?_
  | with_reducible refine g_tB ?_
  | with_reducible refine g_bl ?_
  | with_reducible refine g_ret ?_
  | with_reducible refine g_cb ?_
  | with_reducible refine g_cons ?_
  | with_reducible refine g_nil ?_
  | with_reducible refine g_call ?_
  | with_reducible refine g_and ?_
  | with_reducible refine g_or ?_
  | with_reducible refine g_not ?_
  | with_reducible refine g_andV ?_
  | with_reducible refine g_orV ?_
  | with_reducible refine g_notV ?_
  | with_reducible refine g_if ?_
  | with_reducible refine g_un ?_
  | with_reducible refine g_neg ?_
  | with_reducible refine g_addI ?_
  | with_reducible refine g_subI ?_
  | with_reducible refine g_subB ?_
  | with_reducible refine g_I0 ?_
  | with_reducible refine g_cmpI ?_
  | with_reducible refine g_eqI ?_
  | with_reducible refine g_neI ?_
  | with_reducible refine g_eqS ?_
  | with_reducible refine g_neS ?_
  | with_reducible refine g_eqB ?_
  | with_reducible refine g_neB ?_
  | with_reducible refine g_bits ?_
  | with_reducible refine g_bitsI ?_
  | with_reducible refine g_fld ?_
  | with_reducible refine g_tup ?_
  | with_reducible refine g_lst ?_
  | with_reducible refine g_gtup ?_
  | with_reducible refine g_make ?_
  | with_reducible refine g_lc ?_
  | with_reducible refine g_yesT ?_
  | with_reducible refine g_intI ?_
  | with_reducible refine g_intB ?_
  | with_reducible refine g_max2 ?_
  | with_reducible refine g_abs1 ?_
  | with_reducible refine g_for ?_
  | with_reducible refine g_iList ?_
  | with_reducible refine g_iTup ?_
  | with_reducible refine g_iRng1 ?_
  | with_reducible refine g_iEnum ?_
  | with_reducible refine g_slice ?_
  | with_reducible refine g_po0 ?_
  | with_reducible refine g_po1 ?_
  | with_reducible refine g_gsub ?_
  | with_reducible refine g_par ?_
  | with_reducible refine g_par2 ?_
  | with_reducible refine g_rfl ?_
  | with_reducible refine g_meth ?_
  | with_reducible refine g_gcons ?_
  | with_reducible refine g_gnil ?_
  | with_reducible refine g_gfld ?_
  | with_reducible refine g_sfld ?_
  | with_reducible refine g_drop ?_
  | with_reducible refine g_next ?_
  | with_reducible refine iteT ?_
  | with_reducible refine iteF ?_)
local macro_rules | `(tactic| walk_at "go") => `(tactic| (repeat walk_at "u"))

def top (i : Nat) : Stmt := PySem.Challenge.pw_upvalues_k12_whole_borders_of_tables.main.body.getD i (.Pass ⟨0, 0, 0, 0⟩)
section
variable {P : Program} {w : World} {K : PySem.W.Frag} {mg : Str → Option Value} {base : Heap}
/-! is_plain -/
abbrev s_isplain : Stmt := top 14
theorem sc_isplain : FnScope ["number"] ["number"] (defScope s_isplain) := ⟨rfl, rfl, rfl, by decide +kernel, rfl, by decide +kernel, by decide +kernel⟩
def sp_isplain (K : PySem.W.Frag) : Sp := fun vs H Q _ => ∃ x t, vs = [x] ∧ Kn K H x t ∧ Q (.bl (isI x)) H
theorem ok_isplain {f : Addr} {fd : FuncData} (F : FunD K "is_plain" "is_plain" (defArgs s_isplain) (defBody s_isplain) (defScope s_isplain) [] [] f fd) (B : Blt mg) : FnOk P w K mg base CX0 1 f fd ["number"] (sp_isplain K) := by
  refine F.ok sc_isplain (fun vs H Q E h => ?_) (fun cdv A outer s H vs Q E hr h => ?_)
  · obtain ⟨x, t, rfl, _⟩ := h; rfl
  · obtain ⟨x, t, rfl, hk, q⟩ := h
    refine ⟨_, PSs.nox (pss_one (ps_ret (pe_and (pe_callB call_isi (by rfl) B.isinstance (by decide +kernel) (pa_cons (pv 0) (pa_cons (pe_tyInt B) pa_nil))) (pe_one (pe_not (pe_callB call_isi (by rfl) B.isinstance (by decide +kernel) (pa_cons (pv 0) (pa_cons (pe_tyBool B) pa_nil)))))))), ?_⟩
    walk_at "go"
    refine g_isiInt hk ?_
    walk_at "go"
    cases x <;> first | exact iteF q | (refine iteT ?_; walk_at "go"; refine g_isiBool hk ?_; walk_at "go"; exact q)
/-! reduced -/
abbrev s_reduced : Stmt := top 15
theorem sc_reduced : FnScope ["top", "power", "less"] ["top", "power"] (defScope s_reduced) := ⟨rfl, rfl, rfl, by decide +kernel, rfl, by decide +kernel, by decide +kernel⟩
/-- the lowest bit's place -/
def lowB (n : Int) : Int := ((Builtin.Int.intBits (Builtin.bitAnd n (0 - n)) : Nat) : Int) - 1
def redV : V → Int → V × Int
  | .int n, p => if n = 0 then (.int 0, 0) else (.int (n / 2 ^ (lowB n).toNat), p + lowB n)
  | v, _ => (v, 0)
def isIN (x : V) : Prop := x = .str "inf" ∨ x = .str "nan"
theorem inf_nan : ¬ (("inf" : Str) = "nan") := by decide +kernel
def sp_reduced : Sp := fun vs H Q _ => ∃ x p, vs = [x, .int p] ∧ (isIN x ∨ ∃ n, x = .int n ∧ (n ≠ 0 → 0 ≤ lowB n)) ∧ RetT H [(redV x p).1, .int (redV x p).2] Q
theorem ok_reduced {f : Addr} {fd : FuncData} (F : FunD K "reduced" "reduced" (defArgs s_reduced) (defBody s_reduced) (defScope s_reduced) [] [] f fd) (B : Blt mg) : FnOk P w K mg base CX0 1 f fd ["top", "power"] sp_reduced := by
  refine F.ok sc_reduced (fun vs H Q E h => ?_) (fun cdv A outer s H vs Q E hr h => ?_)
  · obtain ⟨x, t, rfl, _⟩ := h; rfl
  · obtain ⟨x, p, rfl, hx, q⟩ := h
    refine ⟨_, PSs.nox (pss_cons (ps_if (PW.pt (pw_or (pt_cmpR op_in_seq (pv 0) (pe_tupN (pa_cons pe_str (pa_cons pe_str pa_nil))) (by rfl)) (pw_or1 (pt_cmpR (op_oEq hr.units) (pv 0) pe_int (nomark _))))) (pss_one (ps_ret (pe_tupN (pa_cons (pv 0) (pa_cons pe_int pa_nil))))) pss_nil)
  (pss_cons (ps_set (i := 2) sc_reduced.nd rfl (Or.inl rfl) (pe_op op_oSub (pe_bits (pe_op op_oAnd (pv 0) (pe_op op_oSub pe_int (pv 0)))) pe_int))
  (pss_one (ps_ret (pe_tupN (pa_cons (pe_op op_oShr (pv 0) (pv 2)) (pa_cons (pe_op op_oAdd (pv 1) (pv 2)) pa_nil))))))), ?_⟩
    walk_at "go"
    refine g_new (sz rfl) fun a H1 na s1 ha _ => ?_
    rcases hx with (rfl | rfl) | ⟨n, rfl, hn⟩
    · refine ⟨a, _, rfl, .inr (SqT.of ha), rfl, rfl, ?_⟩
      walk_at "go"
      refine iteT ?_
      walk_at "go"
      refine g_new (sz rfl) fun b H2 nb s2 hb _ => ?_
      exact q _ _ (s1.free nb) (s1.trans s2) hb
    · refine ⟨a, _, rfl, .inr (SqT.of ha), rfl, rfl, ?_⟩
      walk_at "go"
      refine iteT ?_
      walk_at "go"
      refine g_new (sz rfl) fun b H2 nb s2 hb _ => ?_
      exact q _ _ (s1.free nb) (s1.trans s2) hb
    · refine ⟨a, _, rfl, .inr (SqT.of ha), rfl, rfl, ?_⟩
      walk_at "go"
      refine iteF ?_
      walk_at "go"
      refine g_ite (fun h0 => ?_) fun h0 => ?_
      · walk_at "go"
        refine g_new (sz rfl) fun b H2 nb s2 hb _ => ?_
        subst h0
        exact q _ _ (s1.free nb) (s1.trans s2) hb
      · walk_at "go"
        refine g_II (hn h0) ?_
        walk_at "go"
        refine g_new (sz rfl) fun b H2 nb s2 hb _ => ?_
        have e : redV (.int n) p = (.int (n / 2 ^ (lowB n).toNat), p + lowB n) := if_neg h0
        rw [e] at q
        exact q _ _ (s1.free nb) (s1.trans s2) hb
/-! fits -/
abbrev s_fits : Stmt := top 16
theorem sc_fits : FnScope ["top", "power"] ["top", "power"] (defScope s_fits) := ⟨rfl, rfl, rfl, by decide +kernel, rfl, by decide +kernel, by decide +kernel⟩
def fitsB (n p : Int) : Bool := (decide (n < 9007199254740992) && (decide (-1074 ≤ p) && decide (((Builtin.Int.intBits n : Nat) : Int) + p ≤ 1024))) || decide (n = 0)
def sp_fits : Sp := fun vs H Q _ => ∃ n p, vs = [.int n, .int p] ∧ Q (.bl (fitsB n p)) H
theorem ok_fits {f : Addr} {fd : FuncData} (F : FunD K "fits" "fits" (defArgs s_fits) (defBody s_fits) (defScope s_fits) [] [] f fd) (B : Blt mg) (i_ROOM : ∃ t, mg "ROOM" = some (.int 9007199254740992 t)) (i_LOWEST : ∃ t, mg "LOWEST" = some (.int (-1074) t)) (i_TOO_GREAT : ∃ t, mg "TOO_GREAT" = some (.int 1024 t)) :
    FnOk P w K mg base CX0 1 f fd ["top", "power"] sp_fits := by
  refine F.ok sc_fits (fun vs H Q E h => ?_) (fun cdv A outer s H vs Q E hr h => ?_)
  · obtain ⟨x, t, rfl, _⟩ := h; rfl
  · obtain ⟨n, p, rfl, q⟩ := h
    refine ⟨_, PSs.nox (pss_one (ps_ret (pe_or (pe_and (pe_cmpR op_oLt (pv 0) (pe_gint i_ROOM) (nomark _)) (pe_and (pe_cmpR op_oGe (pv 1) (pe_gint i_LOWEST) (nomark _)) (pe_one (pe_cmpR op_oLe (pe_op op_oAdd (pe_bits (pv 0)) (pv 1)) (pe_gint i_TOO_GREAT) (nomark _))))) (pe_one (pe_cmpR (op_oEq hr.units) (pv 0) pe_int (nomark _)))))), ?_⟩
    walk_at "go"
    unfold fitsB at q
    refine g_ite (fun h1 => ?_) fun h1 => ?_
    · walk_at "go"
      refine g_ite (fun h2 => ?_) fun h2 => ?_
      · walk_at "go"
        refine g_ite (fun h3 => ?_) fun h3 => ?_
        · simp only [h1, h2, h3, decide_true, Bool.and_self, Bool.true_or] at q
          exact q
        · walk_at "go"
          simp only [h1, h2, h3, decide_true, decide_false, Bool.and_false, Bool.and_self, Bool.false_or] at q
          exact q
      · walk_at "go"
        simp only [h1, h2, decide_true, decide_false, Bool.and_false, Bool.false_and, Bool.false_or] at q
        exact q
    · walk_at "go"
      simp only [h1, decide_false, Bool.false_and, Bool.false_or] at q
      exact q
/-! sign_of -/
def sgnB (b : Bool) : Int := if b then -1 else 1
def sp_signof : Sp := fun vs H Q _ => ∃ b, vs = [.bl b] ∧ Q (.int (sgnB b)) H
end
end Up

set_option Elab.async false
set_option linter.all false
set_option maxRecDepth 100000
set_option maxHeartbeats 4000000
namespace Up
open PySem PySem.Spec PyProof.Rows L2
local macro_rules | `(tactic| walk_at "u") => `(tactic| first
  | with_reducible refine g_seq ?_
  | with_reducible refine g_asg ?_
  | with_reducible refine g_op ?_
  | ((with_reducible show tVar _ _ _ _); apply g_var; exact rfl)
  | with_reducible refine g_c ?_
  | with_reducible refine g_name ?_
  | with_reducible refine g_ifs ?_
  | with_reducible refine g_tt ?_
  | with_reducible refine g_tB ?_
  | with_reducible refine g_bl ?_
  | with_reducible refine g_ret ?_
  | with_reducible refine g_cb ?_
  | with_reducible refine g_cons ?_
  | with_reducible refine g_nil ?_
  | with_reducible refine g_call ?_
  | with_reducible refine g_and ?_
  | with_reducible refine g_or ?_
  | with_reducible refine g_not ?_
  | with_reducible refine g_andV ?_
  | with_reducible refine g_orV ?_
  | with_reducible refine g_notV ?_
  | with_reducible refine g_if ?_
  | with_reducible refine g_un ?_
  | with_reducible refine g_neg ?_
  | with_reducible refine g_addI ?_
  | with_reducible refine g_subI ?_
  | with_reducible refine g_subB ?_
  | with_reducible refine g_I0 ?_
  | with_reducible refine g_cmpI ?_
  | with_reducible refine g_eqI ?_
  | with_reducible refine g_neI ?_
  | with_reducible refine g_eqS ?_
  | with_reducible refine g_neS ?_
  | with_reducible refine g_eqB ?_
  | with_reducible refine g_neB ?_
  | with_reducible refine g_bits ?_
  | with_reducible refine g_bitsI ?_
  | with_reducible refine g_fld ?_
  | with_reducible refine g_tup ?_
  | with_reducible refine g_lst ?_
  | with_reducible refine g_gtup ?_
  | with_reducible refine g_make ?_
  | with_reducible refine g_lc ?_
  | with_reducible refine g_yesT ?_
  | with_reducible refine g_intI ?_
  | with_reducible refine g_intB ?_
  | with_reducible refine g_max2 ?_
  | with_reducible refine g_abs1 ?_
  | with_reducible refine g_for ?_
  | with_reducible refine g_iList ?_
  | with_reducible refine g_iTup ?_
  | with_reducible refine g_iRng1 ?_
  | with_reducible refine g_iEnum ?_
  | with_reducible refine g_slice ?_
  | with_reducible refine g_po0 ?_
  | with_reducible refine g_po1 ?_
  | with_reducible refine g_gsub ?_
  | with_reducible refine g_par ?_
  | with_reducible refine g_par2 ?_
  | with_reducible refine g_rfl ?_
  | with_reducible refine g_meth ?_
  | with_reducible refine g_gcons ?_
  | with_reducible refine g_gnil ?_
  | with_reducible refine g_gfld ?_
  | with_reducible refine g_sfld ?_
  | with_reducible refine g_drop ?_
  | with_reducible refine g_next ?_
  | with_reducible refine iteT ?_
  | with_reducible refine iteF ?_)
local macro_rules | `(tactic| walk_at "go") => `(tactic| (repeat walk_at "u"))

/-! ### Float: what its instances are -/
def flF (s : Int) (t : V) (p : Int) : List (Str × V) := [("sign", .int s), ("top", t), ("power", .int p)]
theorem fl_put (s : Int) (t : V) (p : Int) : putF "power" (.int p) (putF "top" t (putF "sign" (.int s) [])) = flF s t p := rfl
theorem fl_sign (s : Int) (t : V) (p : Int) : (flF s t p).lookup ("sign" : Str) = some (.int s) := rfl
theorem fl_top (s : Int) (t : V) (p : Int) : (flF s t p).lookup ("top" : Str) = some t := rfl
theorem fl_power (s : Int) (t : V) (p : Int) : (flF s t p).lookup ("power" : Str) = some (.int p) := rfl
def FlAt (C : Addr) (H : Hp) (a : Addr) (s : Int) (t : V) (p : Int) : Prop := ∃ dx, H a = some (.ins C dx (flF s t p))
theorem FlAt.same {C : Addr} {H H' : Hp} {a : Addr} {s : Int} {t : V} {p : Int} (h : FlAt C H a s t p) (e : Same H H') : FlAt C H' a s t p := by
  obtain ⟨dx, h⟩ := h
  exact ⟨dx, e _ _ h⟩
/-- a right float's parts -/
def FinOk (n p : Int) : Prop := 0 ≤ n ∧ n < 2 ^ 53 ∧ -1074 ≤ p ∧ ((Builtin.Int.intBits n : Nat) : Int) + p ≤ 1024 ∧ (n = 0 → p = 0) ∧ (n ≠ 0 → n % 2 = 1)
def FlOk (s : Int) (t : V) (p : Int) : Prop := (s = 1 ∨ s = -1) ∧ ((t = .str "nan" ∧ s = 1 ∧ p = 0) ∨ (t = .str "inf" ∧ p = 0) ∨ ∃ n, t = .int n ∧ FinOk n p)
/-- what the text says of the class Float, at C -/
structure FlC (K : PySem.W.Frag) (mg : Str → Option Value) (C : Addr) : Prop where
  own : OwnC K C
  nS : NoAttr K C "sign"
  nT : NoAttr K C "top"
  nP : NoAttr K C "power"
  mg : mg "Float" = some (.ref C)
  yes : PySem.W.kitOne K (.ref C) (.ref C) = some true
  fi : PySem.W.kitOne K (.type "int") (.ref C) = some false
  fb : PySem.W.kitOne K (.type "bool") (.ref C) = some false
  fs : PySem.W.kitOne K (.type "str") (.ref C) = some false
  fn : PySem.W.kitOne K (.type "NoneType") (.ref C) = some false
  fl : PySem.W.kitOne K (.type "list") (.ref C) = some false
  ft : PySem.W.kitOne K (.type "tuple") (.ref C) = some false
  fd : PySem.W.kitOne K (.type "dict") (.ref C) = some false
section
variable {P : Program} {w : World} {K : PySem.W.Frag} {mg : Str → Option Value} {base : Heap} {C : Addr}
/-- what Float(s, top, p) asks, and the parts that it gets -/
def MkOk (s : Int) (top : V) (p : Int) : Prop := (s = 1 ∨ s = -1) ∧ ((top = .str "nan" ∧ s = 1 ∧ p = 0) ∨ (top = .str "inf" ∧ p = 0) ∨ ∃ n : Nat, top = .int n ∧ ∃ m, (redV top p).1 = .int m ∧ fitsB m (redV top p).2 = true)
abbrev s_Float_init : Stmt := inClass (top 13) 0
theorem sc_Float_init : FnScope ["self", "sign", "top", "power"] ["self", "sign", "top", "power"] (defScope s_Float_init) := ⟨rfl, rfl, rfl, by decide +kernel, rfl, by decide +kernel, by decide +kernel⟩
def sp_Finit (C : Addr) : Sp := fun vs H Q _ => ∃ a dx s top p, vs = [.ref a, .int s, top, .int p] ∧ H a = some (.ins C dx []) ∧ MkOk s top p ∧
  ∀ H', (∀ b o, b ≠ a → H b = some o → H' b = some o) → H' a = some (.ins C dx (flF s (redV top p).1 (redV top p).2)) → Q .non H'
theorem lowB_nat {n : Nat} (h : n ≠ 0) : lowB (n : Int) = (tz n : Int) := low_bits h
theorem ok_Finit {f : Addr} {fd : FuncData} (F : FunD K "__init__" "Float.__init__" (defArgs s_Float_init) (defBody s_Float_init) (defScope s_Float_init) [] [] f fd) (B : Blt mg) (T : FlC K mg C) (c_isplain : Fn P w K mg base CX0 1 "is_plain" ["number"] [] (sp_isplain K)) (c_reduced : Fn P w K mg base CX0 1 "reduced" ["top", "power"] [] sp_reduced)
    (c_fits : Fn P w K mg base CX0 1 "fits" ["top", "power"] [] sp_fits) : FnOk P w K mg base CX0 2 f fd ["self", "sign", "top", "power"] (sp_Finit C) := by
  refine F.ok sc_Float_init (fun vs H Q E h => ?_) (fun cdv A outer s H vs Q E hr h => ?_)
  · obtain ⟨a, dx, s, top, p, rfl, _⟩ := h; rfl
  · obtain ⟨a, dx, sg, top, p, rfl, ha, ⟨hs, hk⟩, q⟩ := h
    refine ⟨_, PSs.nox (pss_cons (ps_if (PW.pt (pw_or (pt_not (pt_val (pe_fn c_isplain (hr.mono (by decide)) pass0 (pa_cons (pv 1) pa_nil)))) (pw_or1 (pt_cmpR op_notIn_seq (pv 1) (pe_tupN (pa_cons pe_int (pa_cons (pe_un un_neg pe_int) pa_nil))) (by rfl))))) (pss_one ps_never) pss_nil)
  (C8.pss_cut (ps_if (PW.pt (pw_and (pt_val (pe_callB call_isi (by rfl) B.isinstance (by decide +kernel) (pa_cons (pv 2) (pa_cons (pe_tyStr B) pa_nil)))) (pw_and1 (pt_cmpR op_in_seq (pv 2) (pe_tupN (pa_cons pe_str (pa_cons pe_str pa_nil))) (by rfl))))) (pss_cons (ps_if (PW.pt (pw_and (pt_cmpR (op_oEq hr.units) (pv 2) pe_str (nomark _)) (pw_and1 (pt_cmpR (op_oEq hr.units) (pv 1) (pe_un un_neg pe_int) (nomark _))))) (pss_one ps_never) pss_nil)
  (pss_one (ps_if (PW.pt (pw_or (pt_not (pt_val (pe_fn c_isplain (hr.mono (by decide)) pass0 (pa_cons (pv 3) pa_nil)))) (pw_or1 (pt_cmpR (op_oNe hr.units) (pv 3) pe_int (nomark _))))) (pss_one ps_never) pss_nil))) (pss_one (ps_if (PW.pt (pw_or (pt_not (pt_val (pe_fn c_isplain (hr.mono (by decide)) pass0 (pa_cons (pv 2) pa_nil)))) (pw_or1 (pt_cmpR op_oLt (pv 2) pe_int (nomark _))))) (pss_one ps_never) (pss_one (ps_if (pt_not (pt_val (pe_fn c_isplain (hr.mono (by decide)) pass0 (pa_cons (pv 3) pa_nil)))) (pss_one ps_never) pss_nil)))))
  (pss_cons (ps_fld (pv 0) (pv 1) rfl)
  (pss_cons (ps_asg (pe_fn c_reduced (hr.mono (by decide)) pass0 (pa_cons (pv 2) (pa_cons (pv 3) pa_nil))) (pg_tup rfl (pgs_cons (pg_fld (pv 0)) (pgs_cons (pg_fld (pv 0)) pgs_nil))))
  (pss_one (ps_if (PW.pt (pw_and (pt_cmpR op_notIn_seq (pe_fld (pv 0) rfl) (pe_tupN (pa_cons pe_str (pa_cons pe_str pa_nil))) (by rfl)) (pw_and1 (pt_not (pt_val (pe_fn c_fits (hr.mono (by decide)) pass0 (pa_cons (pe_fld (pv 0) rfl) (pa_cons (pe_fld (pv 0) rfl) pa_nil)))))))) (pss_one ps_never) pss_nil)))))), ?_⟩
    walk_at "go"
    refine ⟨_, _, rfl, kn_int, ?_⟩
    walk_at "go"
    refine iteF ?_
    walk_at "go"
    refine g_new (sz rfl) fun a1 H1 na1 s1 ha1 _ => ?_
    refine ⟨a1, _, rfl, .inr (SqT.of ha1), rfl, rfl, ?_⟩
    walk_at "go"
    have hin : (if true = true then !inV (V.int sg) [V.int 1, V.int (-1)] else inV (V.int sg) [V.int 1, V.int (-1)]) = false := by
      rcases hs with rfl | rfl <;> rfl
    rw [hin]
    walk_at "go"
    refine g_cut (fun σ' H2 => σ' = [some (.ref a), some (.int sg), some top, some (.int p)] ∧ Same H1 H2 ∧ (isIN top ∨ ∃ n : Int, top = .int n ∧ (n ≠ 0 → 0 ≤ lowB n)) ∧ (isIN top ∧ (redV top p).1 = top ∨ ∃ m, (redV top p).1 = .int m ∧ fitsB m (redV top p).2 = true)) ?_ ?_
    · walk_at "go"
      rcases hk with ⟨rfl, rfl, rfl⟩ | ⟨rfl, rfl⟩ | ⟨n, rfl, m, hm, hf⟩
      · refine g_isiStr kn_str ?_
        walk_at "go"
        refine iteT ?_
        walk_at "go"
        refine g_new (sz rfl) fun a2 H2 na2 s2 ha2 _ => ?_
        refine ⟨a2, _, rfl, .inr (SqT.of ha2), rfl, rfl, ?_⟩
        walk_at "go"
        refine iteT ?_
        walk_at "go"
        refine g_yes rfl ?_
        walk_at "go"
        refine g_no (by decide) ?_
        walk_at "go"
        refine ⟨_, _, rfl, kn_int, ?_⟩
        walk_at "go"
        refine iteF ?_
        walk_at "go"
        refine iteF ?_
        walk_at "go"
        exact ⟨rfl, s2, .inl (.inr rfl), .inl ⟨.inr rfl, rfl⟩⟩
      · refine g_isiStr kn_str ?_
        walk_at "go"
        refine iteT ?_
        walk_at "go"
        refine g_new (sz rfl) fun a2 H2 na2 s2 ha2 _ => ?_
        refine ⟨a2, _, rfl, .inr (SqT.of ha2), rfl, rfl, ?_⟩
        walk_at "go"
        refine iteT ?_
        walk_at "go"
        refine g_no (by decide +kernel) ?_
        walk_at "go"
        refine ⟨_, _, rfl, kn_int, ?_⟩
        walk_at "go"
        refine iteF ?_
        walk_at "go"
        refine iteF ?_
        walk_at "go"
        exact ⟨rfl, s2, .inl (.inl rfl), .inl ⟨.inl rfl, rfl⟩⟩
      · refine g_isiStr kn_int ?_
        walk_at "go"
        refine iteF ?_
        walk_at "go"
        refine ⟨_, _, rfl, kn_int, ?_⟩
        walk_at "go"
        refine iteF ?_
        walk_at "go"
        refine g_no (by omega) ?_
        walk_at "go"
        refine ⟨_, _, rfl, kn_int, ?_⟩
        walk_at "go"
        refine iteF ?_
        walk_at "go"
        refine ⟨rfl, Same.refl _, .inr ⟨_, rfl, fun h => ?_⟩, .inr ⟨m, hm, hf⟩⟩
        rw [lowB_nat (by omega)]
        omega
    · rintro σ' H2 ⟨rfl, s2, hx, hy⟩
      have h2 := s2 _ _ (s1 _ _ ha)
      walk_at "go"
      refine ⟨a, C, dx, _, rfl, h2, T.own.cl, T.nS, Nat.le_of_ble_eq_true rfl, ?_⟩
      walk_at "go"
      refine ⟨_, _, rfl, hx, fun H3 a3 na3 s3 ha3 => ?_⟩
      have h3 : H3 a = some (.ins C dx (putF "sign" (.int sg) [])) := s3 _ _ upd_same
      have n3 : a3 ≠ a := fun z => by rw [z, upd_same] at na3; cases na3
      walk_at "go"
      refine ⟨a3, _, rfl, SqT.of ha3, rfl, ?_⟩
      walk_at "go"
      refine ⟨a, C, dx, _, rfl, h3, T.own.cl, T.nT, Nat.le_of_ble_eq_true rfl, ?_⟩
      walk_at "go"
      refine ⟨a, C, dx, _, rfl, upd_same, T.own.cl, T.nP, Nat.le_of_ble_eq_true rfl, ?_⟩
      walk_at "go"
      generalize e4 : upd (upd H3 a (.ins C dx (putF "top" (redV top p).1 (putF "sign" (.int sg) [])))) a (.ins C dx (putF "power" (.int (redV top p).2) (putF "top" (redV top p).1 (putF "sign" (.int sg) [])))) = H4
      have h4 : H4 a = some (.ins C dx (flF sg (redV top p).1 (redV top p).2)) := by rw [← e4]; exact upd_same
      have k4 : ∀ b o, b ≠ a → H b = some o → H4 b = some o := fun b o hb e => by
        rw [← e4, upd_ne hb, upd_ne hb]
        exact s3 _ _ (by rw [upd_ne hb]; exact s2 _ _ (s1 _ _ e))
      refine ⟨a, C, dx, _, _, rfl, h4, T.own.cl, T.nT, fl_top _ _ _, ?_⟩
      walk_at "go"
      refine g_new (sz rfl) fun a5 H5 na5 s5 ha5 _ => ?_
      have fin : ∀ H6, Same H5 H6 → Q .non H6 := fun H6 s6 => q H6 (fun b o hb e => s6 _ _ (s5 _ _ (k4 b o hb e))) (s6 _ _ (s5 _ _ h4))
      rcases hy with ⟨hn, hr⟩ | ⟨m, hm, hf⟩
      · rw [hr]
        refine ⟨a5, _, rfl, .inr (SqT.of ha5), by rcases hn with rfl | rfl <;> rfl, rfl, ?_⟩
        walk_at "go"
        have e : (if true = true then !inV top [V.str "inf", V.str "nan"] else inV top [V.str "inf", V.str "nan"]) = false := by
          rcases hn with rfl | rfl <;> decide +kernel
        rw [e]
        walk_at "go"
        exact fin _ (Same.refl _)
      · rw [hm]
        refine ⟨a5, _, rfl, .inr (SqT.of ha5), rfl, rfl, ?_⟩
        walk_at "go"
        have e : (if true = true then !inV (.int m) [V.str "inf", V.str "nan"] else inV (.int m) [V.str "inf", V.str "nan"]) = true := rfl
        rw [e]
        walk_at "go"
        refine ⟨a, C, dx, _, _, rfl, s5 _ _ h4, T.own.cl, T.nT, fl_top _ _ _, ?_⟩
        walk_at "go"
        refine ⟨a, C, dx, _, _, rfl, s5 _ _ h4, T.own.cl, T.nP, fl_power _ _ _, ?_⟩
        walk_at "go"
        refine ⟨m, _, by rw [hm]; rfl, ?_⟩
        walk_at "go"
        rw [hf]
        walk_at "go"
        exact fin _ (Same.refl _)
end
end Up

set_option Elab.async false
set_option linter.all false
set_option maxRecDepth 100000
set_option maxHeartbeats 4000000
set_option exponentiation.threshold 200000
namespace Up
open PySem PySem.Spec PyProof.Rows L2
local macro_rules | `(tactic| walk_at "u") => `(tactic| first
  | with_reducible refine g_seq ?_
  | with_reducible refine g_asg ?_
  | with_reducible refine g_op ?_
  | ((with_reducible show tVar _ _ _ _); apply g_var; exact rfl)
  | with_reducible refine g_c ?_
  | with_reducible refine g_name ?_
  | with_reducible refine g_ifs ?_
  | with_reducible refine g_tt ?_
  | with_reducible refine g_tB ?_
  | with_reducible refine g_bl ?_
  | with_reducible refine g_ret ?_
  | with_reducible refine g_cb ?_
  | with_reducible refine g_cons ?_
  | with_reducible refine g_nil ?_
  | with_reducible refine g_call ?_
  | with_reducible refine g_and ?_
  | with_reducible refine g_or ?_
  | with_reducible refine g_not ?_
  | with_reducible refine g_andV ?_
  | with_reducible refine g_orV ?_
  | with_reducible refine g_notV ?_
  | with_reducible refine g_if ?_
  | with_reducible refine g_un ?_
  | with_reducible refine g_neg ?_
  | with_reducible refine g_addI ?_
  | with_reducible refine g_subI ?_
  | with_reducible refine g_subB ?_
  | with_reducible refine g_I0 ?_
  | with_reducible refine g_cmpI ?_
  | with_reducible refine g_eqI ?_
  | with_reducible refine g_neI ?_
  | with_reducible refine g_eqS ?_
  | with_reducible refine g_neS ?_
  | with_reducible refine g_eqB ?_
  | with_reducible refine g_neB ?_
  | with_reducible refine g_bits ?_
  | with_reducible refine g_bitsI ?_
  | with_reducible refine g_fld ?_
  | with_reducible refine g_tup ?_
  | with_reducible refine g_lst ?_
  | with_reducible refine g_gtup ?_
  | with_reducible refine g_make ?_
  | with_reducible refine g_lc ?_
  | with_reducible refine g_yesT ?_
  | with_reducible refine g_intI ?_
  | with_reducible refine g_intB ?_
  | with_reducible refine g_max2 ?_
  | with_reducible refine g_abs1 ?_
  | with_reducible refine g_for ?_
  | with_reducible refine g_iList ?_
  | with_reducible refine g_iTup ?_
  | with_reducible refine g_iRng1 ?_
  | with_reducible refine g_iEnum ?_
  | with_reducible refine g_slice ?_
  | with_reducible refine g_po0 ?_
  | with_reducible refine g_po1 ?_
  | with_reducible refine g_gsub ?_
  | with_reducible refine g_par ?_
  | with_reducible refine g_par2 ?_
  | with_reducible refine g_rfl ?_
  | with_reducible refine g_meth ?_
  | with_reducible refine g_gcons ?_
  | with_reducible refine g_gnil ?_
  | with_reducible refine g_gfld ?_
  | with_reducible refine g_sfld ?_
  | with_reducible refine g_drop ?_
  | with_reducible refine g_next ?_
  | with_reducible refine iteT ?_
  | with_reducible refine iteF ?_)
local macro_rules | `(tactic| walk_at "go") => `(tactic| (repeat walk_at "u"))

/-! ### parts of a float that was made -/
theorem red_nat {n : Nat} (h : n ≠ 0) (p : Int) : redV (.int n) p = (.int ((n / 2 ^ tz n : Nat) : Int), p + (tz n : Int)) := by
  have e : redV (.int n) p = (.int ((n : Int) / 2 ^ (lowB n).toNat), p + lowB n) := if_neg (by omega)
  rw [e, lowB_nat h]
  simp
theorem red_zero (p : Int) : redV (.int 0) p = (.int 0, 0) := rfl
theorem fits_of {n : Nat} {p : Int} (h1 : n ≤ 2 ^ 53) (h2 : -1074 ≤ p) (h3 : (bitsN n : Int) + p ≤ 1024) : ∃ m, (redV (.int n) p).1 = .int m ∧ fitsB m (redV (.int n) p).2 = true := by
  by_cases h0 : n = 0
  · subst h0
    exact ⟨0, rfl, by show fitsB 0 0 = true; decide⟩
  · rw [red_nat h0]
    refine ⟨_, rfl, ?_⟩
    obtain ⟨_, i2, i3, i4⟩ := land_pred n h0
    have hb := bits_shift h0
    have hle : n / 2 ^ tz n ≤ n := Nat.div_le_self _ _
    unfold fitsB
    rw [intBits_nat]
    have a1 : ((n / 2 ^ tz n : Nat) : Int) < 9007199254740992 := by
      have : n / 2 ^ tz n ≠ 2 ^ 53 := by intro z; rw [z] at i3; exact absurd i3 (by decide)
      omega
    have a2 : -1074 ≤ p + (tz n : Int) := by omega
    have a3 : ((bitsN (n / 2 ^ tz n) : Nat) : Int) + (p + (tz n : Int)) ≤ 1024 := by omega
    rw [decide_eq_true a1, decide_eq_true a2, decide_eq_true a3]
    rfl
theorem mk_flok {s : Int} {top : V} {p : Int} (h : MkOk s top p) : FlOk s (redV top p).1 (redV top p).2 := by
  obtain ⟨hs, h⟩ := h
  refine ⟨hs, ?_⟩
  rcases h with ⟨rfl, h1, rfl⟩ | ⟨rfl, rfl⟩ | ⟨n, rfl, m, hm, hf⟩
  · exact .inl ⟨rfl, h1, rfl⟩
  · exact .inr (.inl ⟨rfl, rfl⟩)
  · refine .inr (.inr ⟨m, hm, ?_⟩)
    by_cases h0 : n = 0
    · subst h0
      have e : m = 0 := by
        have : (V.int 0) = V.int m := hm
        injection this with z
        exact z.symm
      subst e
      show FinOk 0 0
      exact ⟨by decide, by decide, by decide, by decide, fun _ => rfl, fun z => absurd rfl z⟩
    · rw [red_nat h0] at hm hf ⊢
      obtain ⟨_, i2, i3, i4⟩ := land_pred n h0
      have e : ((n / 2 ^ tz n : Nat) : Int) = m := by injection hm
      have hne : m ≠ 0 := by
        intro z
        rw [z] at e
        have : n / 2 ^ tz n = 0 := by exact_mod_cast e
        rw [this] at i3
        exact absurd i3 (by decide)
      unfold fitsB at hf
      simp only [decide_eq_false hne, Bool.or_false, Bool.and_eq_true, decide_eq_true_eq] at hf
      exact ⟨e ▸ Int.natCast_nonneg _, hf.1, hf.2.1, hf.2.2, fun z => absurd z hne, fun _ => by rw [← e]; omega⟩
theorem mk_of_flok {s : Int} {n : Nat} {p : Int} (hs : s = 1 ∨ s = -1) (h1 : n ≤ 2 ^ 53) (h2 : -1074 ≤ p) (h3 : (bitsN n : Int) + p ≤ 1024) : MkOk s (.int n) p := ⟨hs, .inr (.inr ⟨n, rfl, fits_of h1 h2 h3⟩)⟩
/-! ### numbers as values -/
inductive Nm where
  | i (n : Int)
  | f (s : Int) (t : V) (p : Int)
def NumAt (C : Addr) (H : Hp) (v : V) : Nm → Prop
  | .i n => v = .int n
  | .f s t p => ∃ a, v = .ref a ∧ FlAt C H a s t p ∧ FlOk s t p
theorem NumAt.same {C : Addr} {H H' : Hp} {v : V} : ∀ {n : Nm}, NumAt C H v n → Same H H' → NumAt C H' v n
  | .i _, h, _ => h
  | .f _ _ _, ⟨a, e, h, k⟩, s => ⟨a, e, h.same s, k⟩
abbrev RetF (C : Addr) (H : Hp) (s : Int) (t : V) (p : Int) (Q : VK) : Prop := ∀ H' a, H a = none → Same H H' → FlAt C H' a s t p → Q (.ref a) H'
section
variable {P : Program} {w : World} {K : PySem.W.Frag} {mg : Str → Option Value} {base : Heap} {C : Addr}
/-- Float(s, top, p) -/
theorem mkF {H : Hp} {Q : VK} {E : XK} {s : Int} {top : V} {p : Int} (hk : MkOk s top p) (q : RetF C H s (redV top p).1 (redV top p).2 Q) :
    MakeR C (sp_Finit C) ([.int s, top, .int p] ++ []) H Q E := by
  intro x dx H' nx ndx ne s1 hx _
  exact ⟨x, dx, s, top, p, rfl, hx, hk, fun H2 k h2 => ⟨rfl, q H2 x nx (fun b o e => k b o (ne_of_none e nx) (s1 _ _ e)) ⟨dx, h2⟩⟩⟩
abbrev CnF (P : Program) (w : World) (K : PySem.W.Frag) (mg : Str → Option Value) (base : Heap) (C : Addr) : Prop := Cn P w K mg base CX0 2 "Float" C ["self", "sign", "top", "power"] [] (sp_Finit C)
/-! is_finite -/
abbrev s_Float_isfinite : Stmt := inClass (top 13) 4
theorem sc_Float_isfinite : FnScope ["self"] ["self"] (defScope s_Float_isfinite) := ⟨rfl, rfl, rfl, by decide +kernel, rfl, by decide +kernel, by decide +kernel⟩
def sp_isfinite (C : Addr) : Sp := fun vs H Q _ => ∃ a s t p, vs = [.ref a] ∧ FlAt C H a s t p ∧ FlOk s t p ∧ Q (.bl (isI t)) H
theorem FlOk.kn {s : Int} {t : V} {p : Int} {H : Hp} (h : FlOk s t p) : ∃ u, Kn K H t u ∧ isB t = false := by
  rcases h.2 with ⟨rfl, _⟩ | ⟨rfl, _⟩ | ⟨n, rfl, _⟩
  · exact ⟨_, kn_str, rfl⟩
  · exact ⟨_, kn_str, rfl⟩
  · exact ⟨_, kn_int, rfl⟩
theorem ok_isfinite {f : Addr} {fd : FuncData} (F : FunD K "is_finite" "Float.is_finite" (defArgs s_Float_isfinite) (defBody s_Float_isfinite) (defScope s_Float_isfinite) [] [] f fd) (B : Blt mg) (T : FlC K mg C) : FnOk P w K mg base CX0 1 f fd ["self"] (sp_isfinite C) := by
  refine F.ok sc_Float_isfinite (fun vs H Q E h => ?_) (fun cdv A outer s H vs Q E hr h => ?_)
  · obtain ⟨a, s, t, p, rfl, _⟩ := h; rfl
  · obtain ⟨a, sg, t, p, rfl, ⟨dx, ha⟩, ho, q⟩ := h
    refine ⟨_, PSs.nox (pss_one (ps_ret (pe_callB call_isi (by rfl) B.isinstance (by decide +kernel) (pa_cons (pe_fld (pv 0) rfl) (pa_cons (pe_tyInt B) pa_nil))))), ?_⟩
    walk_at "go"
    refine ⟨a, C, dx, _, _, rfl, ha, T.own.cl, T.nT, fl_top _ _ _, ?_⟩
    walk_at "go"
    obtain ⟨u, kn, hb⟩ := ho.kn (K := K) (H := H)
    refine g_isiInt kn ?_
    rw [hb, Bool.or_false]
    exact q
/-! ratio -/
abbrev s_Float_ratio : Stmt := inClass (top 13) 5
theorem sc_Float_ratio : FnScope ["self"] ["self"] (defScope s_Float_ratio) := ⟨rfl, rfl, rfl, by decide +kernel, rfl, by decide +kernel, by decide +kernel⟩
def ratN (s n p : Int) : Int := if p < 0 then s * n else s * (n * 2 ^ p.toNat)
def ratD (p : Int) : Int := if p < 0 then 2 ^ (0 - p).toNat else 1
def sp_ratio (C : Addr) : Sp := fun vs H Q _ => ∃ a s n p, vs = [.ref a] ∧ FlAt C H a s (.int n) p ∧ FlOk s (.int n) p ∧ RetT H [.int (ratN s n p), .int (ratD p)] Q
theorem fin_of {s n p : Int} (h : FlOk s (.int n) p) : FinOk n p := by
  rcases h.2 with ⟨z, _⟩ | ⟨z, _⟩ | ⟨m, e, h⟩
  · cases z
  · cases z
  · injection e with e; subst e; exact h
theorem FinOk.hi {n p : Int} (h : FinOk n p) : p ≤ 1024 := by
  obtain ⟨h1, _, _, h4, h5⟩ := h
  by_cases h0 : n = 0
  · rw [h5.1 h0]; decide
  · have := bits_pos (n := n.natAbs) (by omega)
    rw [intBits_neg] at h4
    omega
theorem sgn_mul {s x : Int} (hs : s = 1 ∨ s = -1) : IntMulOk s x := .of_left (by rcases hs with rfl | rfl <;> decide)
theorem shl_small {i j : Int} (h0 : 0 ≤ j) (h : j ≤ 100000) (hi : i.natAbs < 2 ^ 100000) : CShl i j := by
  refine ⟨h0, ?_⟩
  rw [intBits_neg]
  have := bits_le hi
  omega
theorem lt_pow_mono {n a b : Nat} (h : n < 2 ^ a) (hab : a ≤ b) : n < 2 ^ b := Nat.lt_of_lt_of_le h (Nat.pow_le_pow_right (by decide) hab)
theorem ok_ratio {f : Addr} {fd : FuncData} (F : FunD K "ratio" "Float.ratio" (defArgs s_Float_ratio) (defBody s_Float_ratio) (defScope s_Float_ratio) [] [] f fd) (B : Blt mg) (T : FlC K mg C) : FnOk P w K mg base CX0 1 f fd ["self"] (sp_ratio C) := by
  refine F.ok sc_Float_ratio (fun vs H Q E h => ?_) (fun cdv A outer s H vs Q E hr h => ?_)
  · obtain ⟨a, s, t, p, rfl, _⟩ := h; rfl
  · obtain ⟨a, sg, n, p, rfl, ⟨dx, ha⟩, ho, q⟩ := h
    have hf := fin_of ho
    have hhi := hf.hi
    obtain ⟨f1, f2, f3, f4, f5⟩ := hf
    unfold ratN ratD at q
    refine ⟨_, PSs.nox (pss_cons (ps_if (pt_cmpR op_oLt (pe_fld (pv 0) rfl) pe_int (nomark _)) (pss_one (ps_ret (pe_tupN (pa_cons (pe_op op_oMul (pe_fld (pv 0) rfl) (pe_fld (pv 0) rfl)) (pa_cons (pe_op op_oShl pe_int (pe_op op_oSub pe_int (pe_fld (pv 0) rfl))) pa_nil))))) pss_nil)
  (pss_one (ps_ret (pe_tupN (pa_cons (pe_op op_oMul (pe_fld (pv 0) rfl) (pe_op op_oShl (pe_fld (pv 0) rfl) (pe_fld (pv 0) rfl))) (pa_cons pe_int pa_nil)))))), ?_⟩
    walk_at "go"
    refine ⟨a, C, dx, _, _, rfl, ha, T.own.cl, T.nP, fl_power _ _ _, ?_⟩
    walk_at "go"
    refine g_ite (fun hp => ?_) fun hp => ?_
    · walk_at "go"
      refine ⟨a, C, dx, _, _, rfl, ha, T.own.cl, T.nS, fl_sign _ _ _, ?_⟩
      walk_at "go"
      refine ⟨a, C, dx, _, _, rfl, ha, T.own.cl, T.nT, fl_top _ _ _, ?_⟩
      refine g_mulI (sgn_mul ho.1) ?_
      walk_at "go"
      refine ⟨a, C, dx, _, _, rfl, ha, T.own.cl, T.nP, fl_power _ _ _, ?_⟩
      walk_at "go"
      refine g_II (shl_small (by omega) (by omega) (lt_pow_mono (a := 1) (by decide) (by decide))) ?_
      walk_at "go"
      refine g_new (sz rfl) fun b H2 nb s2 hb _ => ?_
      rw [if_pos hp, if_pos hp] at q
      rw [Int.one_mul] at hb
      exact q _ _ nb s2 hb
    · walk_at "go"
      refine ⟨a, C, dx, _, _, rfl, ha, T.own.cl, T.nS, fl_sign _ _ _, ?_⟩
      walk_at "go"
      refine ⟨a, C, dx, _, _, rfl, ha, T.own.cl, T.nT, fl_top _ _ _, ?_⟩
      walk_at "go"
      refine ⟨a, C, dx, _, _, rfl, ha, T.own.cl, T.nP, fl_power _ _ _, ?_⟩
      walk_at "go"
      refine g_II (shl_small (by omega) (by omega) (lt_pow_mono (a := 53) (by omega) (by decide))) ?_
      refine g_mulI (sgn_mul ho.1) ?_
      walk_at "go"
      refine g_new (sz rfl) fun b H2 nb s2 hb _ => ?_
      rw [if_neg hp, if_neg hp] at q
      exact q _ _ nb s2 hb
theorem mk_inf {s : Int} (hs : s = 1 ∨ s = -1) : MkOk s (.str "inf") 0 := ⟨hs, .inr (.inl ⟨rfl, rfl⟩)⟩
/-! nearest -/
/-- what is handed to Float -/
def nearV (t b : Nat) : V × Int := if t = 0 then (.int 0, 0) else if (bitsN (nrW t b) : Int) + nrP2 t b > 1024 then (.str "inf", 0) else (.int (nrW t b : Int), nrP2 t b)
theorem near_mk {s : Int} {t b : Nat} (hs : s = 1 ∨ s = -1) (hb : 0 < b) : MkOk s (nearV t b).1 (nearV t b).2 := by
  unfold nearV
  by_cases h0 : t = 0
  · rw [if_pos h0]
    exact mk_of_flok (n := 0) hs (by decide) (by decide) (by decide)
  · rw [if_neg h0]
    by_cases h1 : (bitsN (nrW t b) : Int) + nrP2 t b > 1024
    · rw [if_pos h1]
      exact mk_inf hs
    · rw [if_neg h1]
      exact mk_of_flok hs (nrW_le hb) (nrP2_lo t b) (by omega)
theorem fdiv_nat (a b : Nat) : (a : Int).fdiv (b : Int) = ((a / b : Nat) : Int) := by
  rw [Int.fdiv_eq_ediv_of_nonneg _ (by omega)]; rfl
theorem log2_lt {b k : Nat} (h : b < 2 ^ k) (hk : 0 < k) : b.log2 < k := by
  by_cases h0 : b = 0
  · subst h0; simpa using hk
  · exact (Nat.log2_lt h0).mpr h
theorem land_one (n : Nat) : Builtin.bitAnd (n : Int) 1 = ((n % 2 : Nat) : Int) := by
  rw [PyProof.Rows.bitAnd_pp (by omega) (by decide)]
  show ((n &&& 1 : Nat) : Int) = _
  rw [Nat.and_one_is_mod]
end
end Up

set_option Elab.async false
set_option linter.all false
set_option maxRecDepth 100000
set_option maxHeartbeats 4000000
set_option exponentiation.threshold 200000
namespace Up
open PySem PySem.Spec PyProof.Rows L2
local macro_rules | `(tactic| walk_at "u") => `(tactic| first
  | with_reducible refine g_seq ?_
  | with_reducible refine g_asg ?_
  | with_reducible refine g_op ?_
  | ((with_reducible show tVar _ _ _ _); apply g_var; exact rfl)
  | with_reducible refine g_c ?_
  | with_reducible refine g_name ?_
  | with_reducible refine g_ifs ?_
  | with_reducible refine g_tt ?_
  | with_reducible refine g_tB ?_
  | with_reducible refine g_bl ?_
  | with_reducible refine g_ret ?_
  | with_reducible refine g_cb ?_
  | with_reducible refine g_cons ?_
  | with_reducible refine g_nil ?_
  | with_reducible refine g_call ?_
  | with_reducible refine g_and ?_
  | with_reducible refine g_or ?_
  | with_reducible refine g_not ?_
  | with_reducible refine g_andV ?_
  | with_reducible refine g_orV ?_
  | with_reducible refine g_notV ?_
  | with_reducible refine g_if ?_
  | with_reducible refine g_un ?_
  | with_reducible refine g_neg ?_
  | with_reducible refine g_addI ?_
  | with_reducible refine g_subI ?_
  | with_reducible refine g_subB ?_
  | with_reducible refine g_I0 ?_
  | with_reducible refine g_cmpI ?_
  | with_reducible refine g_eqI ?_
  | with_reducible refine g_neI ?_
  | with_reducible refine g_eqS ?_
  | with_reducible refine g_neS ?_
  | with_reducible refine g_eqB ?_
  | with_reducible refine g_neB ?_
  | with_reducible refine g_bits ?_
  | with_reducible refine g_bitsI ?_
  | with_reducible refine g_fld ?_
  | with_reducible refine g_tup ?_
  | with_reducible refine g_lst ?_
  | with_reducible refine g_gtup ?_
  | with_reducible refine g_make ?_
  | with_reducible refine g_lc ?_
  | with_reducible refine g_yesT ?_
  | with_reducible refine g_intI ?_
  | with_reducible refine g_intB ?_
  | with_reducible refine g_max2 ?_
  | with_reducible refine g_abs1 ?_
  | with_reducible refine g_for ?_
  | with_reducible refine g_iList ?_
  | with_reducible refine g_iTup ?_
  | with_reducible refine g_iRng1 ?_
  | with_reducible refine g_iEnum ?_
  | with_reducible refine g_slice ?_
  | with_reducible refine g_po0 ?_
  | with_reducible refine g_po1 ?_
  | with_reducible refine g_gsub ?_
  | with_reducible refine g_par ?_
  | with_reducible refine g_par2 ?_
  | with_reducible refine g_rfl ?_
  | with_reducible refine g_meth ?_
  | with_reducible refine g_gcons ?_
  | with_reducible refine g_gnil ?_
  | with_reducible refine g_gfld ?_
  | with_reducible refine g_sfld ?_
  | with_reducible refine g_drop ?_
  | with_reducible refine g_next ?_
  | with_reducible refine iteT ?_
  | with_reducible refine iteF ?_)
local macro_rules | `(tactic| walk_at "go") => `(tactic| (repeat walk_at "u"))

section
variable {P : Program} {w : World} {K : PySem.W.Frag} {mg : Str → Option Value} {base : Heap} {C : Addr}
/-! ### kinds, Float asked too -/
structure KnF (K : PySem.W.Frag) (C : Addr) (H : Hp) (x : V) (t : Value) (b : Bool) : Prop where
  kn : Kn K H x t
  fl : PySem.W.kitOne K t (.ref C) = some b
theorem KnF.same {H H' : Hp} {x : V} {t : Value} {b : Bool} (h : KnF K C H x t b) (s : Same H H') : KnF K C H' x t b := ⟨h.kn.same s, h.fl⟩
theorem g_isiF {H : Hp} {Q : VK} {x : V} {t : Value} {b : Bool} (h : KnF K C H x t b) (q : Q (.bl b) H) : rIsi K [x, .ref C] H Q := g_isi h.kn.ty (.own _) h.fl q
theorem kf_int (T : FlC K mg C) {H : Hp} {i : Int} : KnF K C H (.int i) (.type "int") false := ⟨kn_int, T.fi⟩
theorem kf_bl (T : FlC K mg C) {H : Hp} {i : Bool} : KnF K C H (.bl i) (.type "bool") false := ⟨kn_bl, T.fb⟩
theorem kf_str (T : FlC K mg C) {H : Hp} {i : Str} : KnF K C H (.str i) (.type "str") false := ⟨kn_str, T.fs⟩
theorem kf_non (T : FlC K mg C) {H : Hp} : KnF K C H .non (.type "NoneType") false := ⟨kn_non, T.fn⟩
theorem kf_fl (T : FlC K mg C) {H : Hp} {a : Addr} {s : Int} {t : V} {p : Int} (h : FlAt C H a s t p) : KnF K C H (.ref a) (.ref C) true := by
  obtain ⟨dx, h⟩ := h
  exact ⟨kn_ins T.own h, T.yes⟩
def isF : Nm → Bool
  | .i _ => false
  | .f _ _ _ => true
theorem NumAt.kf (T : FlC K mg C) {H : Hp} {v : V} : ∀ {n : Nm}, NumAt C H v n → ∃ t, KnF K C H v t (isF n) ∧ isI v = !isF n ∧ isB v = false
  | .i n, h => by
    have h : v = .int n := h
    subst h
    exact ⟨_, kf_int T, rfl, rfl⟩
  | .f s t p, ⟨a, e, h, _⟩ => by
    subst e
    exact ⟨_, kf_fl T h, rfl, rfl⟩
def bigOk (k : Int) : Prop := k.natAbs < 2 ^ 5000
/-- the float of an int: sign, top, power -/
def tfS (k : Int) : Int := if k < 0 then -1 else 1
def tfR (k : Int) : V × Int := redV (nearV k.natAbs 1).1 (nearV k.natAbs 1).2
def sp_tofloat (C : Addr) : Sp := fun vs H Q _ => ∃ v n, vs = [v] ∧ NumAt C H v n ∧ match n with
  | .f _ _ _ => Q v H
  | .i k => bigOk k ∧ RetF C H (tfS k) (tfR k).1 (tfR k).2 Q
theorem mul_small {i j : Int} (hi : i.natAbs < 2 ^ 100000) (hj : j.natAbs < 2 ^ 100000) : IntMulOk i j := (mulx_ok hi hj (by decide)).ok
theorem natAbs_mul_lt {x y : Int} {a b : Nat} (hx : x.natAbs < 2 ^ a) (hy : y.natAbs < 2 ^ b) : (x * y).natAbs < 2 ^ (a + b) := by
  rw [Int.natAbs_mul, Nat.pow_add]
  exact Nat.mul_lt_mul'' hx hy
theorem sgn_abs {s : Int} (hs : s = 1 ∨ s = -1) (x : Int) : (s * x).natAbs = x.natAbs := by
  rw [Int.natAbs_mul]; rcases hs with rfl | rfl <;> simp
theorem tf_mk (k : Int) : MkOk (tfS k) (nearV k.natAbs 1).1 (nearV k.natAbs 1).2 := near_mk (by unfold tfS; split <;> simp) (by decide)
/-- a float made again of its own parts -/
theorem mk_again {s : Int} {t : V} {p : Int} (h : FlOk s t p) : MkOk s t p := by
  obtain ⟨hs, h⟩ := h
  rcases h with ⟨rfl, h1, rfl⟩ | ⟨rfl, rfl⟩ | ⟨n, rfl, f1, f2, f3, f4, f5⟩
  · exact ⟨hs, .inl ⟨rfl, h1, rfl⟩⟩
  · exact ⟨hs, .inr (.inl ⟨rfl, rfl⟩)⟩
  · obtain ⟨k, rfl⟩ := Int.eq_ofNat_of_zero_le f1
    rw [intBits_nat] at f4
    exact mk_of_flok hs (by omega) f3 f4
theorem small64 {k : Int} (h1 : -(2 ^ 65) ≤ k) (h2 : k ≤ 2 ^ 65) : k.natAbs < 2 ^ 1000 := lt_pow_mono (a := 66) (by omega) (by decide)
theorem big64 {k : Int} (h1 : -(2 ^ 65) ≤ k) (h2 : k ≤ 2 ^ 65) : bigOk k := lt_pow_mono (a := 66) (by omega) (by decide)
end
end Up

set_option Elab.async false
set_option linter.all false
set_option maxRecDepth 100000
set_option maxHeartbeats 4000000
set_option exponentiation.threshold 200000
namespace Up
open PySem PySem.Spec PyProof.Rows L2
local macro_rules | `(tactic| walk_at "u") => `(tactic| first
  | with_reducible refine g_seq ?_
  | with_reducible refine g_asg ?_
  | with_reducible refine g_op ?_
  | ((with_reducible show tVar _ _ _ _); apply g_var; exact rfl)
  | with_reducible refine g_c ?_
  | with_reducible refine g_name ?_
  | with_reducible refine g_ifs ?_
  | with_reducible refine g_tt ?_
  | with_reducible refine g_tB ?_
  | with_reducible refine g_bl ?_
  | with_reducible refine g_ret ?_
  | with_reducible refine g_cb ?_
  | with_reducible refine g_cons ?_
  | with_reducible refine g_nil ?_
  | with_reducible refine g_call ?_
  | with_reducible refine g_and ?_
  | with_reducible refine g_or ?_
  | with_reducible refine g_not ?_
  | with_reducible refine g_andV ?_
  | with_reducible refine g_orV ?_
  | with_reducible refine g_notV ?_
  | with_reducible refine g_if ?_
  | with_reducible refine g_un ?_
  | with_reducible refine g_neg ?_
  | with_reducible refine g_addI ?_
  | with_reducible refine g_subI ?_
  | with_reducible refine g_subB ?_
  | with_reducible refine g_I0 ?_
  | with_reducible refine g_cmpI ?_
  | with_reducible refine g_eqI ?_
  | with_reducible refine g_neI ?_
  | with_reducible refine g_eqS ?_
  | with_reducible refine g_neS ?_
  | with_reducible refine g_eqB ?_
  | with_reducible refine g_neB ?_
  | with_reducible refine g_bits ?_
  | with_reducible refine g_bitsI ?_
  | with_reducible refine g_fld ?_
  | with_reducible refine g_tup ?_
  | with_reducible refine g_lst ?_
  | with_reducible refine g_gtup ?_
  | with_reducible refine g_make ?_
  | with_reducible refine g_lc ?_
  | with_reducible refine g_yesT ?_
  | with_reducible refine g_intI ?_
  | with_reducible refine g_intB ?_
  | with_reducible refine g_max2 ?_
  | with_reducible refine g_abs1 ?_
  | with_reducible refine g_for ?_
  | with_reducible refine g_iList ?_
  | with_reducible refine g_iTup ?_
  | with_reducible refine g_iRng1 ?_
  | with_reducible refine g_iEnum ?_
  | with_reducible refine g_slice ?_
  | with_reducible refine g_po0 ?_
  | with_reducible refine g_po1 ?_
  | with_reducible refine g_gsub ?_
  | with_reducible refine g_par ?_
  | with_reducible refine g_par2 ?_
  | with_reducible refine g_rfl ?_
  | with_reducible refine g_meth ?_
  | with_reducible refine g_gcons ?_
  | with_reducible refine g_gnil ?_
  | with_reducible refine g_gfld ?_
  | with_reducible refine g_sfld ?_
  | with_reducible refine g_drop ?_
  | with_reducible refine g_next ?_
  | with_reducible refine iteT ?_
  | with_reducible refine iteF ?_)
local macro_rules | `(tactic| walk_at "go") => `(tactic| (repeat walk_at "u"))

section
variable {P : Program} {w : World} {K : PySem.W.Frag} {mg : Str → Option Value} {base : Heap} {C : Addr}
/-! is_number -/
abbrev s_isnumber : Stmt := top 17
theorem sc_isnumber : FnScope ["thing"] ["thing"] (defScope s_isnumber) := ⟨rfl, rfl, rfl, by decide +kernel, rfl, by decide +kernel, by decide +kernel⟩
def sp_isnumber (K : PySem.W.Frag) (C : Addr) : Sp := fun vs H Q _ => ∃ x t b, vs = [x] ∧ KnF K C H x t b ∧ Q (.bl (b || isI x)) H
theorem ok_isnumber {f : Addr} {fd : FuncData} (F : FunD K "is_number" "is_number" (defArgs s_isnumber) (defBody s_isnumber) (defScope s_isnumber) [] [] f fd) (B : Blt mg) (T : FlC K mg C) (c_isplain : Fn P w K mg base CX0 1 "is_plain" ["number"] [] (sp_isplain K)) : FnOk P w K mg base CX0 2 f fd ["thing"] (sp_isnumber K C) := by
  have g_Float : mg "Float" = some (.ref C) := T.mg
  refine F.ok sc_isnumber (fun vs H Q E h => ?_) (fun cdv A outer s H vs Q E hr h => ?_)
  · obtain ⟨x, t, b, rfl, _⟩ := h; rfl
  · obtain ⟨x, t, b, rfl, hk, q⟩ := h
    refine ⟨_, PSs.nox (pss_one (ps_ret (pe_or (pe_callB call_isi (by rfl) B.isinstance (by decide +kernel) (pa_cons (pv 0) (pa_cons (pe_gref g_Float) pa_nil))) (pe_one (pe_fn c_isplain (hr.mono (by decide)) pass0 (pa_cons (pv 0) pa_nil)))))), ?_⟩
    walk_at "go"
    refine g_isiF hk ?_
    walk_at "go"
    cases b
    · refine iteF ?_
      walk_at "go"
      exact ⟨x, t, rfl, hk.kn, q⟩
    · refine iteT ?_
      exact q
/-! place_of -/
abbrev s_placeof0 : Stmt := top 20
theorem sc_placeof0 : FnScope ["number"] ["number"] (defScope s_placeof0) := ⟨rfl, rfl, rfl, by decide +kernel, rfl, by decide +kernel, by decide +kernel⟩
def plc : Nm → Option (Int × Int)
  | .i k => some (k, 1)
  | .f s (.int m) p => some (ratN s m p, ratD p)
  | .f s (.str x) _ => if x = "nan" then none else some (s * 2 ^ 1025, 1)
  | .f _ _ _ => none
def RetO (H : Hp) (o : Option (Int × Int)) (Q : VK) : Prop := match o with
  | none => ∀ H', Same H H' → Q .non H'
  | some (x, y) => RetT H [.int x, .int y] Q
def sp_placeof (C : Addr) : Sp := fun vs H Q _ => ∃ v n, vs = [v] ∧ NumAt C H v n ∧ RetO H (plc n) Q
theorem ok_placeof {f : Addr} {fd : FuncData} (F : FunD K "place_of" "place_of" (defArgs s_placeof0) (defBody s_placeof0) (defScope s_placeof0) [] [] f fd) (B : Blt mg) (T : FlC K mg C) (i_TOO_GREAT : ∃ t, mg "TOO_GREAT" = some (.int 1024 t)) (c_isfinite : Mt P w K mg base CX0 1 C "is_finite" ["self"] (sp_isfinite C)) (c_ratio : Mt P w K mg base CX0 1 C "ratio" ["self"] (sp_ratio C)) :
    FnOk P w K mg base CX0 2 f fd ["number"] (sp_placeof C) := by
  have g_Float : mg "Float" = some (.ref C) := T.mg
  refine F.ok sc_placeof0 (fun vs H Q E h => ?_) (fun cdv A outer s H vs Q E hr h => ?_)
  · obtain ⟨x, n, rfl, _⟩ := h; rfl
  · obtain ⟨x, n, rfl, hn, q⟩ := h
    refine ⟨_, PSs.nox (pss_cons (ps_if (pt_not (pt_val (pe_callB call_isi (by rfl) B.isinstance (by decide +kernel) (pa_cons (pv 0) (pa_cons (pe_gref g_Float) pa_nil))))) (pss_one (ps_ret (pe_tupN (pa_cons (pv 0) (pa_cons pe_int pa_nil))))) pss_nil)
  (pss_cons (ps_if (pt_val (pe_mt0 c_isfinite (hr.mono (by decide)) pass0 (pv 0))) (pss_one (ps_ret (pe_mt0 c_ratio (hr.mono (by decide)) pass0 (pv 0)))) pss_nil)
  (pss_one (ps_ret (pe_ifExp (pt_cmpR (op_oEq hr.units) (pe_fld (pv 0) rfl) pe_str (nomark _)) pe_non (pe_tupN (pa_cons (pe_op op_oShl (pe_fld (pv 0) rfl) (pe_op op_oAdd (pe_gint i_TOO_GREAT) pe_int)) (pa_cons pe_int pa_nil)))))))), ?_⟩
    obtain ⟨t, hk, _, _⟩ := hn.kf T
    walk_at "go"
    refine g_isiF hk ?_
    walk_at "go"
    cases n with
    | i k =>
      have hn : x = .int k := hn
      subst hn
      refine iteT ?_
      walk_at "go"
      exact g_new (sz rfl) fun a H1 na s1 ha _ => q _ _ na s1 ha
    | f sg tp p =>
      obtain ⟨a, rfl, hf, ho⟩ := hn
      refine iteF ?_
      walk_at "go"
      obtain ⟨dx, hd⟩ := id hf
      refine ⟨a, dx, _, rfl, hd, rfl, ?_⟩
      walk_at "go"
      refine ⟨a, sg, tp, p, rfl, hf, ho, ?_⟩
      walk_at "go"
      rcases id ho.2 with ⟨rfl, _, _⟩ | ⟨rfl, _⟩ | ⟨m, rfl, hfin⟩
      · refine iteF ?_
        walk_at "go"
        refine ⟨a, C, dx, _, _, rfl, hd, T.own.cl, T.nT, fl_top _ _ _, ?_⟩
        walk_at "go"
        refine g_yes rfl ?_
        walk_at "go"
        exact q H (Same.refl _)
      · refine iteF ?_
        walk_at "go"
        refine ⟨a, C, dx, _, _, rfl, hd, T.own.cl, T.nT, fl_top _ _ _, ?_⟩
        walk_at "go"
        refine g_no (by decide +kernel) ?_
        walk_at "go"
        refine ⟨a, C, dx, _, _, rfl, hd, T.own.cl, T.nS, fl_sign _ _ _, ?_⟩
        walk_at "go"
        refine g_II (shl_small (by decide) (by decide) (by rcases ho.1 with rfl | rfl <;> exact lt_pow_mono (a := 1) (by decide) (by decide))) ?_
        walk_at "go"
        have e : plc (.f sg (.str "inf") p) = some (sg * 2 ^ 1025, 1) := by
          show (if ("inf" : Str) = "nan" then none else some (sg * 2 ^ 1025, (1 : Int))) = _
          rw [if_neg (by decide +kernel)]
        rw [e] at q
        exact g_new (sz rfl) fun b H1 nb s1 hb _ => q _ _ nb s1 hb
      · refine iteT ?_
        walk_at "go"
        refine ⟨a, dx, _, rfl, hd, rfl, ?_⟩
        walk_at "go"
        exact ⟨a, sg, m, p, rfl, hf, ho, q⟩
/-! order_of -/
abbrev s_orderof : Stmt := top 19
theorem sc_orderof : FnScope ["one", "other", "first", "second", "gap"] ["one", "other"] (defScope s_orderof) := ⟨rfl, rfl, rfl, by decide +kernel, rfl, by decide +kernel, by decide +kernel⟩
def gapO : Option (Int × Int) → Option (Int × Int) → Option Int
  | some (a, b), some (c, d) => some (a * d - c * b)
  | _, _ => none
def ordN (n m : Nm) : Option Int := (gapO (plc n) (plc m)).map fun g => b2i (decide (0 < g)) - b2i (decide (g < 0))
def oV : Option Int → V
  | none => .non
  | some i => .int i
def nOk : Nm → Prop
  | .i k => bigOk k
  | .f s t p => FlOk s t p
theorem plc_small {n : Nm} (h : nOk n) : ∀ x y, plc n = some (x, y) → x.natAbs < 2 ^ 5000 ∧ y.natAbs < 2 ^ 5000 ∧ 0 < y := by
  intro x y e
  cases n with
  | i k =>
    have e : some (k, (1 : Int)) = some (x, y) := e
    injection e with e
    injection e with e1 e2
    subst e1 e2
    exact ⟨h, lt_pow_mono (a := 1) (by decide) (by decide), by decide⟩
  | f s t p =>
    obtain ⟨hs, h2⟩ := id h
    rcases h2 with ⟨rfl, _, _⟩ | ⟨rfl, _⟩ | ⟨m, rfl, hf⟩
    · have e : (if ("nan" : Str) = "nan" then none else some (s * 2 ^ 1025, (1 : Int))) = some (x, y) := e
      rw [if_pos rfl] at e
      cases e
    · have e : (if ("inf" : Str) = "nan" then none else some (s * 2 ^ 1025, (1 : Int))) = some (x, y) := e
      rw [if_neg (by decide +kernel)] at e
      injection e with e
      injection e with e1 e2
      subst e1 e2
      refine ⟨?_, lt_pow_mono (a := 1) (by decide) (by decide), by decide⟩
      rw [sgn_abs hs, Int.natAbs_pow]
      exact Nat.pow_lt_pow_right (by decide) (by decide)
    · have e : some (ratN s m p, ratD p) = some (x, y) := e
      injection e with e
      injection e with e1 e2
      subst e1 e2
      have hhi := hf.hi
      obtain ⟨f1, f2, f3, f4, f5⟩ := hf
      have hm : m.natAbs < 2 ^ 53 := by omega
      unfold ratN ratD
      by_cases hp : p < 0
      · rw [if_pos hp, if_pos hp, sgn_abs hs]
        refine ⟨lt_pow_mono hm (by decide), ?_, Int.pow_pos (by decide)⟩
        rw [Int.natAbs_pow]
        exact Nat.pow_lt_pow_right (by decide) (by omega)
      · rw [if_neg hp, if_neg hp, sgn_abs hs]
        refine ⟨?_, lt_pow_mono (a := 1) (by decide) (by decide), by decide⟩
        rw [Int.natAbs_mul, Int.natAbs_pow]
        have h1 : m.natAbs * Int.natAbs 2 ^ p.toNat < 2 ^ 53 * 2 ^ p.toNat := Nat.mul_lt_mul_of_pos_right hm (Nat.two_pow_pos _)
        rw [← Nat.pow_add] at h1
        exact lt_pow_mono h1 (by omega)
def sp_orderof (C : Addr) : Sp := fun vs H Q _ => ∃ v u n m, vs = [v, u] ∧ NumAt C H v n ∧ NumAt C H u m ∧ nOk n ∧ nOk m ∧ ∀ H', Same H H' → Q (oV (ordN n m)) H'
theorem ok_orderof {f : Addr} {fd : FuncData} (F : FunD K "order_of" "order_of" (defArgs s_orderof) (defBody s_orderof) (defScope s_orderof) [] [] f fd) (B : Blt mg) (c_placeofnumbers : Fn P w K mg base CX0 2 "place_of_numbers" ["number"] [] (sp_placeof C)) : FnOk P w K mg base CX0 3 f fd ["one", "other"] (sp_orderof C) := by
  refine F.ok sc_orderof (fun vs H Q E h => ?_) (fun cdv A outer s H vs Q E hr h => ?_)
  · obtain ⟨_, _, _, _, rfl, _⟩ := h; rfl
  · obtain ⟨v, u, n, m, rfl, hn, hm, on, om, q⟩ := h
    refine ⟨_, PSs.nox (pss_cons (ps_par (i := 2) (j := 3) rfl sc_orderof.nd rfl rfl (by decide) rfl rfl (pa_cons (pe_fn c_placeofnumbers (hr.mono (by decide)) pass0 (pa_cons (pv 0) pa_nil)) (pa_cons (pe_fn c_placeofnumbers (hr.mono (by decide)) pass0 (pa_cons (pv 1) pa_nil)) pa_nil)) (by rfl))
  (pss_cons (ps_if (PW.pt (pw_or (pt_cmpR op_isN (pv 2) pe_non (nomark _)) (pw_or1 (pt_cmpR op_isN (pv 3) pe_non (nomark _))))) (pss_one (ps_ret pe_non)) pss_nil)
  (pss_cons (ps_set (i := 4) sc_orderof.nd rfl (Or.inl rfl) (pe_op op_oSub (pe_op op_oMul (pe_ix ix_seq (pv 2) pe_int (fun _ _ => rfl)) (pe_ix ix_seq (pv 3) pe_int (fun _ _ => rfl))) (pe_op op_oMul (pe_ix ix_seq (pv 3) pe_int (fun _ _ => rfl)) (pe_ix ix_seq (pv 2) pe_int (fun _ _ => rfl)))))
  (pss_one (ps_ret (pe_op op_oSub (pe_cmpR op_oGt (pv 4) pe_int (nomark _)) (pe_cmpR op_oLt (pv 4) pe_int (nomark _)))))))), ?_⟩
    walk_at "go"
    refine ⟨v, n, rfl, hn, ?_⟩
    unfold ordN at q
    have sn := plc_small on
    have sm := plc_small om
    cases en : plc n with
    | none =>
      rw [en] at q
      intro H1 s1
      walk_at "go"
      refine ⟨u, m, rfl, hm.same s1, ?_⟩
      cases em : plc m with
      | none =>
        intro H2 s2
        walk_at "go"
        refine g_yes rfl ?_
        walk_at "go"
        exact q _ (s1.trans s2)
      | some xy =>
        intro H2 a2 na2 s2 ha2
        walk_at "go"
        refine g_yes rfl ?_
        walk_at "go"
        exact q _ (s1.trans s2)
    | some xy =>
      rw [en] at q
      intro H1 a1 na1 s1 ha1
      walk_at "go"
      refine ⟨u, m, rfl, hm.same s1, ?_⟩
      cases em : plc m with
      | none =>
        rw [em] at q
        intro H2 s2
        walk_at "go"
        refine g_no (fun z => nomatch z) ?_
        walk_at "go"
        refine g_yes rfl ?_
        walk_at "go"
        exact q _ (s1.trans s2)
      | some zw =>
        rw [em] at q
        intro H2 a2 na2 s2 ha2
        obtain ⟨p1, p2, p3⟩ := sn _ _ en
        obtain ⟨r1, r2, r3⟩ := sm _ _ em
        have hb := s2 _ _ ha1
        walk_at "go"
        refine g_no (fun z => nomatch z) ?_
        walk_at "go"
        refine g_no (fun z => nomatch z) ?_
        walk_at "go"
        refine g_ixT hb rfl ?_
        walk_at "go"
        refine g_ixT ha2 rfl ?_
        refine g_mulI (mul_small (lt_pow_mono p1 (by decide)) (lt_pow_mono r2 (by decide))) ?_
        walk_at "go"
        refine g_ixT ha2 rfl ?_
        walk_at "go"
        refine g_ixT hb rfl ?_
        refine g_mulI (mul_small (lt_pow_mono r1 (by decide)) (lt_pow_mono p2 (by decide))) ?_
        walk_at "go"
        exact q _ (s1.trans s2)
end
end Up

set_option Elab.async false
set_option linter.all false
set_option maxRecDepth 100000
set_option maxHeartbeats 4000000
set_option exponentiation.threshold 200000
namespace Up
open PySem PySem.Spec PyProof.Rows L2
local macro_rules | `(tactic| walk_at "u") => `(tactic| first
  | with_reducible refine g_seq ?_
  | with_reducible refine g_asg ?_
  | with_reducible refine g_op ?_
  | ((with_reducible show tVar _ _ _ _); apply g_var; exact rfl)
  | with_reducible refine g_c ?_
  | with_reducible refine g_name ?_
  | with_reducible refine g_ifs ?_
  | with_reducible refine g_tt ?_
  | with_reducible refine g_tB ?_
  | with_reducible refine g_bl ?_
  | with_reducible refine g_ret ?_
  | with_reducible refine g_cb ?_
  | with_reducible refine g_cons ?_
  | with_reducible refine g_nil ?_
  | with_reducible refine g_call ?_
  | with_reducible refine g_and ?_
  | with_reducible refine g_or ?_
  | with_reducible refine g_not ?_
  | with_reducible refine g_andV ?_
  | with_reducible refine g_orV ?_
  | with_reducible refine g_notV ?_
  | with_reducible refine g_if ?_
  | with_reducible refine g_un ?_
  | with_reducible refine g_neg ?_
  | with_reducible refine g_addI ?_
  | with_reducible refine g_subI ?_
  | with_reducible refine g_subB ?_
  | with_reducible refine g_I0 ?_
  | with_reducible refine g_cmpI ?_
  | with_reducible refine g_eqI ?_
  | with_reducible refine g_neI ?_
  | with_reducible refine g_eqS ?_
  | with_reducible refine g_neS ?_
  | with_reducible refine g_eqB ?_
  | with_reducible refine g_neB ?_
  | with_reducible refine g_bits ?_
  | with_reducible refine g_bitsI ?_
  | with_reducible refine g_fld ?_
  | with_reducible refine g_tup ?_
  | with_reducible refine g_lst ?_
  | with_reducible refine g_gtup ?_
  | with_reducible refine g_make ?_
  | with_reducible refine g_lc ?_
  | with_reducible refine g_yesT ?_
  | with_reducible refine g_intI ?_
  | with_reducible refine g_intB ?_
  | with_reducible refine g_max2 ?_
  | with_reducible refine g_abs1 ?_
  | with_reducible refine g_for ?_
  | with_reducible refine g_iList ?_
  | with_reducible refine g_iTup ?_
  | with_reducible refine g_iRng1 ?_
  | with_reducible refine g_iEnum ?_
  | with_reducible refine g_slice ?_
  | with_reducible refine g_po0 ?_
  | with_reducible refine g_po1 ?_
  | with_reducible refine g_gsub ?_
  | with_reducible refine g_par ?_
  | with_reducible refine g_par2 ?_
  | with_reducible refine g_rfl ?_
  | with_reducible refine g_meth ?_
  | with_reducible refine g_gcons ?_
  | with_reducible refine g_gnil ?_
  | with_reducible refine g_gfld ?_
  | with_reducible refine g_sfld ?_
  | with_reducible refine g_drop ?_
  | with_reducible refine g_next ?_
  | with_reducible refine iteT ?_
  | with_reducible refine iteF ?_)
local macro_rules | `(tactic| walk_at "go") => `(tactic| (repeat walk_at "u"))

section
variable {P : Program} {w : World} {K : PySem.W.Frag} {mg : Str → Option Value} {base : Heap} {C : Addr}
/-! same -/
abbrev s_same : Stmt := top 22
theorem sc_same : FnScope ["one", "other"] ["one", "other"] (defScope s_same) := ⟨rfl, rfl, rfl, by decide +kernel, rfl, by decide +kernel, by decide +kernel⟩
/-- the values that same is asked of: a number, or another one of a known kind -/
inductive Any where
  | num (n : Nm)
  | non
  | bl (b : Bool)
  | str (x : Str)
  | obj (a : Addr)
def AnyAt (C D : Addr) (H : Hp) (v : V) : Any → Prop
  | .num n => NumAt C H v n ∧ nOk n
  | .non => v = .non
  | .bl b => v = .bl b
  | .str x => v = .str x
  | .obj a => v = .ref a ∧ ∃ dx fs, H a = some (.ins D dx fs)
theorem AnyAt.same {D : Addr} {H H' : Hp} {v : V} (s : Same H H') : ∀ {x : Any}, AnyAt C D H v x → AnyAt C D H' v x
  | .num _, ⟨h, o⟩ => ⟨h.same s, o⟩
  | .non, h => h
  | .bl _, h => h
  | .str _, h => h
  | .obj _, ⟨e, dx, fs, h⟩ => ⟨e, dx, fs, s _ _ h⟩
def sameA : Any → Any → Bool
  | .num n, .num m => decide (ordN n m = some 0)
  | .non, .non => true
  | .bl a, .bl b => decide (a = b)
  | .str a, .str b => decide (a = b)
  | .obj a, .obj b => decide (a = b)
  | _, _ => false
/-- the other class (tables), at D: no Float -/
structure ObC (K : PySem.W.Frag) (C D : Addr) : Prop where
  own : OwnC K D
  nf : PySem.W.kitOne K (.ref D) (.ref C) = some false
def isNumA : Any → Bool
  | .num _ => true
  | _ => false
theorem AnyAt.kf {D : Addr} (T : FlC K mg C) (O : ObC K C D) {H : Hp} {v : V} : ∀ {x : Any}, AnyAt C D H v x → ∃ t b, KnF K C H v t b ∧ (b || isI v) = isNumA x
  | .num n, ⟨h, _⟩ => by
    obtain ⟨t, hk, hi, _⟩ := h.kf T
    exact ⟨t, _, hk, by rw [hi]; cases n <;> rfl⟩
  | .non, h => by
    have h : v = .non := h
    subst h
    exact ⟨_, _, kf_non T, rfl⟩
  | .bl _, h => by
    have h : v = .bl _ := h
    subst h
    exact ⟨_, _, kf_bl T, rfl⟩
  | .str _, h => by
    have h : v = .str _ := h
    subst h
    exact ⟨_, _, kf_str T, rfl⟩
  | .obj _, ⟨e, dx, fs, h⟩ => by
    subst e
    exact ⟨_, _, ⟨kn_ins O.own h, O.nf⟩, rfl⟩
theorem same_no {D : Addr} {H : Hp} {v u : V} : ∀ {x y : Any}, AnyAt C D H v x → AnyAt C D H u y → isNumA x = false → isNumA y = false → (isB v ≠ isB u ∨ isS v ≠ isS u) → sameA x y = false := by
  intro x y hx hy nx ny h
  cases x with
  | num _ => cases nx
  | non => cases y <;> first | rfl | exact Bool.noConfusion ny | (cases (show v = _ from hx); cases (show u = _ from hy); rcases h with h | h <;> exact absurd rfl h)
  | bl _ => cases y <;> first | rfl | exact Bool.noConfusion ny | (cases (show v = _ from hx); cases (show u = _ from hy); rcases h with h | h <;> exact absurd rfl h)
  | str _ => cases y <;> first | rfl | exact Bool.noConfusion ny | (cases (show v = _ from hx); cases (show u = _ from hy); rcases h with h | h <;> exact absurd rfl h)
  | obj _ => cases y <;> first | rfl | exact Bool.noConfusion ny | (cases hx.1; cases hy.1; rcases h with h | h <;> exact absurd rfl h)
theorem same_eq {D : Addr} {H : Hp} {Q : VK} {v u : V} {x y : Any} (hx : AnyAt C D H v x) (hy : AnyAt C D H u y) (nx : isNumA x = false) (ny : isNumA y = false) (hb : isB v = isB u) (hs : isS v = isS u) (q : Q (.bl (sameA x y)) H) : oEqI K D v u H Q := by
  cases x with
  | num _ => cases nx
  | non =>
    cases (show v = _ from hx)
    cases y with
    | num _ => cases ny
    | non => cases (show u = _ from hy); exact .inr ⟨.inl rfl, .inl rfl, q⟩
    | bl _ => cases (show u = _ from hy); cases hb
    | str _ => cases (show u = _ from hy); cases hs
    | obj _ => obtain ⟨rfl, dx, fs, h⟩ := hy; exact .inr ⟨.inl rfl, .inr ⟨_, dx, fs, rfl, h⟩, q⟩
  | bl _ =>
    cases (show v = _ from hx)
    cases y with
    | num _ => cases ny
    | non => cases (show u = _ from hy); cases hb
    | bl _ => cases (show u = _ from hy); exact .inl (g_eqB q)
    | str _ => cases (show u = _ from hy); cases hs
    | obj _ => obtain ⟨rfl, dx, fs, h⟩ := hy; cases hb
  | str _ =>
    cases (show v = _ from hx)
    cases y with
    | num _ => cases ny
    | non => cases (show u = _ from hy); cases hs
    | bl _ => cases (show u = _ from hy); cases hb
    | str _ => cases (show u = _ from hy); exact .inl (g_eqS q)
    | obj _ => obtain ⟨rfl, dx, fs, h⟩ := hy; cases hs
  | obj a =>
    obtain ⟨rfl, dx, fs, h⟩ := hx
    cases y with
    | num _ => cases ny
    | non => cases (show u = _ from hy); exact .inr ⟨.inr ⟨_, dx, fs, rfl, h⟩, .inl rfl, q⟩
    | bl _ => cases (show u = _ from hy); cases hb
    | str _ => cases (show u = _ from hy); cases hs
    | obj b =>
      obtain ⟨rfl, dy, gs, h2⟩ := hy
      refine .inr ⟨.inr ⟨_, dx, fs, rfl, h⟩, .inr ⟨_, dy, gs, rfl, h2⟩, ?_⟩
      have e : decide (V.ref a = V.ref b) = decide (a = b) := by simp
      rw [e]; exact q
theorem same_mix {x y : Any} (h : isNumA x ≠ isNumA y) : sameA x y = false := by
  cases x <;> cases y <;> first | rfl | exact absurd rfl h
def sp_same (C D : Addr) : Sp := fun vs H Q _ => ∃ v u x y, vs = [v, u] ∧ AnyAt C D H v x ∧ AnyAt C D H u y ∧ ∀ H', Same H H' → Q (.bl (sameA x y)) H'
theorem ok_same {f D : Addr} {fd : FuncData} (F : FunD K "same" "same" (defArgs s_same) (defBody s_same) (defScope s_same) [] [] f fd) (B : Blt mg) (T : FlC K mg C) (O : ObC K C D) (TI : IdC K D) (c_isnumber : Fn P w K mg base CX0 2 "is_number" ["thing"] [] (sp_isnumber K C)) (c_orderof : Fn P w K mg base CX0 3 "order_of" ["one", "other"] [] (sp_orderof C)) :
    FnOk P w K mg base CX0 4 f fd ["one", "other"] (sp_same C D) := by
  refine F.ok sc_same (fun vs H Q E h => ?_) (fun cdv A outer s H vs Q E hr h => ?_)
  · obtain ⟨_, _, _, _, rfl, _⟩ := h; rfl
  · obtain ⟨v, u, x, y, rfl, hx, hy, q⟩ := h
    refine ⟨_, PSs.nox (pss_cons (ps_if (PW.pt (pw_and (pt_val (pe_fn c_isnumber (hr.mono (by decide)) pass0 (pa_cons (pv 0) pa_nil))) (pw_and1 (pt_val (pe_fn c_isnumber (hr.mono (by decide)) pass0 (pa_cons (pv 1) pa_nil)))))) (pss_one (ps_ret (pe_cmpR (op_oEq hr.units) (pe_fn c_orderof (hr.mono (by decide)) pass0 (pa_cons (pv 0) (pa_cons (pv 1) pa_nil))) pe_int (nomark _)))) pss_nil)
  (pss_cons (ps_if (PW.pt (pw_or (pt_val (pe_fn c_isnumber (hr.mono (by decide)) pass0 (pa_cons (pv 0) pa_nil))) (pw_or1 (pt_val (pe_fn c_isnumber (hr.mono (by decide)) pass0 (pa_cons (pv 1) pa_nil)))))) (pss_one (ps_ret pe_bl)) pss_nil)
  (pss_cons (ps_if (PW.pt (pw_or (pt_cmpR (op_oNe hr.units) (pe_callB call_isi (by rfl) B.isinstance (by decide +kernel) (pa_cons (pv 0) (pa_cons (pe_tyBool B) pa_nil))) (pe_callB call_isi (by rfl) B.isinstance (by decide +kernel) (pa_cons (pv 1) (pa_cons (pe_tyBool B) pa_nil))) (nomark _)) (pw_or1 (pt_cmpR (op_oNe hr.units) (pe_callB call_isi (by rfl) B.isinstance (by decide +kernel) (pa_cons (pv 0) (pa_cons (pe_tyStr B) pa_nil))) (pe_callB call_isi (by rfl) B.isinstance (by decide +kernel) (pa_cons (pv 1) (pa_cons (pe_tyStr B) pa_nil))) (nomark _))))) (pss_one (ps_ret pe_bl)) pss_nil)
  (pss_one (ps_ret (pe_cmpR (op_oEqI TI hr.units) (pv 0) (pv 1) (nomark _))))))), ?_⟩
    obtain ⟨tx, bx, kx, ex⟩ := hx.kf T O
    obtain ⟨ty, bY, ky, ey⟩ := hy.kf T O
    have q0 := q H (Same.refl _)
    walk_at "go"
    refine ⟨v, tx, bx, rfl, kx, ?_⟩
    rw [ex]
    walk_at "go"
    by_cases nx : isNumA x = true
    · rw [nx] at ex ⊢
      walk_at "go"
      refine ⟨u, ty, bY, rfl, ky, ?_⟩
      rw [ey]
      walk_at "go"
      by_cases ny : isNumA y = true
      · rw [ny]
        walk_at "go"
        cases x with
        | num n =>
          cases y with
          | num m =>
            refine ⟨v, u, n, m, rfl, hx.1, hy.1, hx.2, hy.2, fun H1 s1 => ?_⟩
            have q1 := q H1 s1
            walk_at "go"
            have e : sameA (.num n) (.num m) = decide (ordN n m = some 0) := rfl
            rw [e] at q1
            cases eo : ordN n m with
            | none =>
              rw [eo] at q1
              exact g_eqx rfl (fun z => nomatch z) q1
            | some o =>
              rw [eo] at q1
              refine g_eqI ?_
              have e2 : decide (some o = some (0 : Int)) = decide (o = 0) := by simp
              rw [e2] at q1
              exact q1
          | _ => cases ny
        | _ => cases nx
      · have ny : isNumA y = false := by simpa using ny
        rw [same_mix (by rw [nx, ny]; decide)] at q0
        rw [ny]
        walk_at "go"
        refine ⟨v, tx, bx, rfl, kx, ?_⟩
        rw [ex]
        walk_at "go"
        exact q0
    · have nx : isNumA x = false := by simpa using nx
      rw [nx] at ex ⊢
      walk_at "go"
      refine ⟨v, tx, bx, rfl, kx, ?_⟩
      rw [ex]
      walk_at "go"
      refine ⟨u, ty, bY, rfl, ky, ?_⟩
      rw [ey]
      walk_at "go"
      by_cases ny : isNumA y = true
      · rw [same_mix (by rw [nx, ny]; decide)] at q0
        rw [ny]
        walk_at "go"
        exact q0
      · have ny : isNumA y = false := by simpa using ny
        rw [ny]
        walk_at "go"
        refine g_isiBool kx.kn ?_
        walk_at "go"
        refine g_isiBool ky.kn ?_
        walk_at "go"
        refine g_iten (fun hb => ?_) fun hb => ?_
        · rw [same_no hx hy nx ny (.inl hb)] at q0
          walk_at "go"
          exact q0
        · walk_at "go"
          refine g_isiStr kx.kn ?_
          walk_at "go"
          refine g_isiStr ky.kn ?_
          walk_at "go"
          refine g_iten (fun hs => ?_) fun hs => ?_
          · rw [same_no hx hy nx ny (.inr hs)] at q0
            walk_at "go"
            exact q0
          · walk_at "go"
            exact same_eq hx hy nx ny hb hs q0
end
end Up

set_option Elab.async false
set_option linter.all false
set_option pp.maxSteps 600
set_option maxRecDepth 100000
set_option maxHeartbeats 4000000
set_option exponentiation.threshold 200000
namespace Up
open PySem PySem.Spec PyProof.Rows L2
/-! ### objects of the module of tables -/
def tbF (n m : V) (la ln : Addr) (k : Nat) : List (Str × V) := [("number", n), ("meta", m), ("array", .ref la), ("nodes", .ref ln), ("free", .int k)]
structure TbC (K : PySem.W.Frag) (mg : Str → Option Value) (D : Addr) : Prop where
  own : OwnC K D
  n1 : NoAttr K D "number"
  n2 : NoAttr K D "meta"
  n3 : NoAttr K D "array"
  n4 : NoAttr K D "nodes"
  n5 : NoAttr K D "free"
  mg : mg "Table" = some (.ref D)
def ndV (kv v l : V) (d : Bool) : List (Str × V) := [("key", kv), ("value", v), ("link", l), ("is_dead", .bl d)]
structure NdC (K : PySem.W.Frag) (mg : Str → Option Value) (N : Addr) : Prop where
  cl : Cls K N
  n1 : NoAttr K N "key"
  n2 : NoAttr K N "value"
  n3 : NoAttr K N "link"
  n4 : NoAttr K N "is_dead"
  mg : mg "Node" = some (.ref N)
theorem show_exT {p : Addr → Prop} (h : ∃ a, p a) : ∃ a, p a := h
section
variable {K : PySem.W.Frag} {mg : Str → Option Value} {H : Hp} {D N a dx la ln : Addr} {n m kv v l : V} {k : Nat} {d : Bool} {T : V → Prop}
theorem rdT1 (O : TbC K mg D) (h : H a = some (.ins D dx (tbF n m la ln k))) (q : T n) : ∃ a' C' dx fs v, V.ref a = .ref a' ∧ H a' = some (.ins C' dx fs) ∧ Cls K C' ∧ NoAttr K C' "number" ∧ fs.lookup ("number" : Str) = some v ∧ T v := ⟨a, D, dx, _, _, rfl, h, O.own.cl, O.n1, rfl, q⟩
theorem rdT2 (O : TbC K mg D) (h : H a = some (.ins D dx (tbF n m la ln k))) (q : T m) : ∃ a' C' dx fs v, V.ref a = .ref a' ∧ H a' = some (.ins C' dx fs) ∧ Cls K C' ∧ NoAttr K C' "meta" ∧ fs.lookup ("meta" : Str) = some v ∧ T v := ⟨a, D, dx, _, _, rfl, h, O.own.cl, O.n2, rfl, q⟩
theorem rdT3 (O : TbC K mg D) (h : H a = some (.ins D dx (tbF n m la ln k))) (q : T (.ref la)) : ∃ a' C' dx fs v, V.ref a = .ref a' ∧ H a' = some (.ins C' dx fs) ∧ Cls K C' ∧ NoAttr K C' "array" ∧ fs.lookup ("array" : Str) = some v ∧ T v := ⟨a, D, dx, _, _, rfl, h, O.own.cl, O.n3, rfl, q⟩
theorem rdT4 (O : TbC K mg D) (h : H a = some (.ins D dx (tbF n m la ln k))) (q : T (.ref ln)) : ∃ a' C' dx fs v, V.ref a = .ref a' ∧ H a' = some (.ins C' dx fs) ∧ Cls K C' ∧ NoAttr K C' "nodes" ∧ fs.lookup ("nodes" : Str) = some v ∧ T v := ⟨a, D, dx, _, _, rfl, h, O.own.cl, O.n4, rfl, q⟩
theorem rdT5 (O : TbC K mg D) (h : H a = some (.ins D dx (tbF n m la ln k))) (q : T (.int k)) : ∃ a' C' dx fs v, V.ref a = .ref a' ∧ H a' = some (.ins C' dx fs) ∧ Cls K C' ∧ NoAttr K C' "free" ∧ fs.lookup ("free" : Str) = some v ∧ T v := ⟨a, D, dx, _, _, rfl, h, O.own.cl, O.n5, rfl, q⟩
theorem rdN1 (O : NdC K mg N) (h : H a = some (.ins N dx (ndV kv v l d))) (q : T kv) : ∃ a' C' dx fs v, V.ref a = .ref a' ∧ H a' = some (.ins C' dx fs) ∧ Cls K C' ∧ NoAttr K C' "key" ∧ fs.lookup ("key" : Str) = some v ∧ T v := ⟨a, N, dx, _, _, rfl, h, O.cl, O.n1, rfl, q⟩
theorem rdN2 (O : NdC K mg N) (h : H a = some (.ins N dx (ndV kv v l d))) (q : T v) : ∃ a' C' dx fs v, V.ref a = .ref a' ∧ H a' = some (.ins C' dx fs) ∧ Cls K C' ∧ NoAttr K C' "value" ∧ fs.lookup ("value" : Str) = some v ∧ T v := ⟨a, N, dx, _, _, rfl, h, O.cl, O.n2, rfl, q⟩
theorem rdN3 (O : NdC K mg N) (h : H a = some (.ins N dx (ndV kv v l d))) (q : T l) : ∃ a' C' dx fs v, V.ref a = .ref a' ∧ H a' = some (.ins C' dx fs) ∧ Cls K C' ∧ NoAttr K C' "link" ∧ fs.lookup ("link" : Str) = some v ∧ T v := ⟨a, N, dx, _, _, rfl, h, O.cl, O.n3, rfl, q⟩
theorem rdN4 (O : NdC K mg N) (h : H a = some (.ins N dx (ndV kv v l d))) (q : T (.bl d)) : ∃ a' C' dx fs v, V.ref a = .ref a' ∧ H a' = some (.ins C' dx fs) ∧ Cls K C' ∧ NoAttr K C' "is_dead" ∧ fs.lookup ("is_dead" : Str) = some v ∧ T v := ⟨a, N, dx, _, _, rfl, h, O.cl, O.n4, rfl, q⟩
end
/-! ### keys -/
structure Ky where
  x : Any
  no : Int
def isFA : Any → Bool
  | .num n => isF n
  | _ => false
def isNanA : Any → Bool
  | .num (.f _ t _) => decide (t = .str "nan")
  | _ => false
def KyAt (C D : Addr) (H : Hp) (v : V) (k : Ky) : Prop := AnyAt C D H v k.x ∧ ∀ a, k.x = .obj a → ∃ dx fs, H a = some (.ins D dx fs) ∧ fs.lookup ("number" : Str) = some (V.int k.no)
theorem KyAt.same {C D : Addr} {H H' : Hp} {v : V} {k : Ky} (h : KyAt C D H v k) (s : Same H H') : KyAt C D H' v k := ⟨h.1.same s, fun a e => by
  obtain ⟨dx, fs, h1, h2⟩ := h.2 a e
  exact ⟨dx, fs, s _ _ h1, h2⟩⟩
def sumS (x : Str) : Int := x.cps.toList.foldl (fun a c => (31 * a + ((c : Nat) : Int)).fmod 4294967296) 0
def fsumN (s : Int) : V → Int → Int
  | .int m, p => let u := (p + ((Builtin.Int.intBits m : Nat) : Int) + s * (m * 2 ^ 31 / 2 ^ Builtin.Int.intBits m)).fmod 4294967296; if u ≤ 2147483647 then u else 4294967295 - u
  | _, _ => 0
def oddI (n : Nat) : Int := Builtin.bitOr ((n : Int) - 1) 1
def posI (k : Ky) (n : Nat) : Int := match k.x with
  | .bl b => Builtin.bitAnd (b2i b) ((n : Int) - 1)
  | .str s => Builtin.bitAnd (sumS s) ((n : Int) - 1)
  | .num (.i i) => (i.fmod 18446744073709551616).fmod (oddI n)
  | .num (.f s t p) => (fsumN s t p).fmod (oddI n)
  | .obj _ => k.no.fmod (oddI n)
  | .non => 0
theorem sumS_nn (x : Str) : 0 ≤ sumS x ∧ sumS x < 4294967296 := by
  unfold sumS
  suffices ∀ (l : List Nat) (a : Int), 0 ≤ a ∧ a < 4294967296 → 0 ≤ l.foldl (fun a c => (31 * a + ((c : Nat) : Int)).fmod 4294967296) a ∧ l.foldl (fun a c => (31 * a + ((c : Nat) : Int)).fmod 4294967296) a < 4294967296 from this _ 0 (by decide)
  intro l
  induction l with
  | nil => exact fun a h => h
  | cons c l ih =>
    intro a h
    refine ih _ ?_
    show 0 ≤ (31 * a + (c : Int)).fmod 4294967296 ∧ (31 * a + (c : Int)).fmod 4294967296 < 4294967296
    rw [Int.fmod_eq_emod_of_nonneg _ (by decide)]
    exact ⟨Int.emod_nonneg _ (by decide), Int.emod_lt_of_pos _ (by decide)⟩
theorem or_one (m : Nat) : m ||| 1 = 2 * (m / 2) + 1 := by
  apply Nat.eq_of_testBit_eq
  intro i
  cases i with
  | zero => simp [Nat.testBit_zero, Nat.or_mod_two_eq_one]
  | succ i =>
    rw [Nat.testBit_or, Nat.testBit_succ, Nat.testBit_succ, Nat.testBit_succ]
    have e1 : (1 : Nat) / 2 = 0 := by decide
    have e2 : (2 * (m / 2) + 1) / 2 = m / 2 := by omega
    rw [e1, e2, Nat.zero_testBit, Bool.or_false]
theorem oddI_eq {n : Nat} (h : 0 < n) : oddI n = ((2 * ((n - 1) / 2) + 1 : Nat) : Int) := by
  unfold oddI
  have e : ((n : Int) - 1) = ((n - 1 : Nat) : Int) := by omega
  rw [e, L2.bitOr_nn (by omega) (by decide), Int.toNat_natCast]
  show ((n - 1 ||| 1 : Nat) : Int) = _
  rw [or_one]
theorem fmod_in {x m : Int} (h : 0 < m) : 0 ≤ x.fmod m ∧ x.fmod m < m := by
  rw [Int.fmod_eq_emod_of_nonneg _ (by omega)]
  exact ⟨Int.emod_nonneg _ (by omega), Int.emod_lt_of_pos _ h⟩
theorem posI_lt (k : Ky) {n : Nat} (h : 0 < n) : 0 ≤ posI k n ∧ posI k n < n := by
  have ho : 0 < oddI n ∧ oddI n ≤ n := by rw [oddI_eq h]; omega
  have hm : ∀ x : Int, 0 ≤ x.fmod (oddI n) ∧ x.fmod (oddI n) < n := fun x => by
    have := fmod_in (x := x) ho.1
    omega
  have ha : ∀ x : Int, 0 ≤ x → 0 ≤ Builtin.bitAnd x ((n : Int) - 1) ∧ Builtin.bitAnd x ((n : Int) - 1) < n := fun x hx => by
    rw [PyProof.Rows.bitAnd_pp hx (by omega)]
    have h1 : x.toNat &&& ((n : Int) - 1).toNat ≤ ((n : Int) - 1).toNat := Nat.and_le_right
    omega
  unfold posI
  split
  · rename_i b _
    exact ha _ (by cases b <;> decide)
  · exact ha _ (sumS_nn _).1
  · exact hm _
  · exact hm _
  · exact hm _
  · omega
def whA : Any → Option Int
  | .num (.i n) => some n
  | _ => none
def KK : KO Ky where
  sm := fun k k' => sameA k.x k'.x
  mp := fun k n => (posI k n).toNat
  wh := fun k => whA k.x
  ki := fun i => ⟨.num (.i i), 0⟩
  lt := fun k n h => by have := posI_lt k h; omega
  wk := fun _ => rfl
theorem mp_int (k : Ky) {n : Nat} (h : 0 < n) : ((KK.mp k n : Nat) : Int) = posI k n := by
  have := posI_lt k h
  show (((posI k n).toNat : Nat) : Int) = _
  omega
section
variable {P : Program} {w : World} {K : PySem.W.Frag} {mg : Str → Option Value} {base : Heap} {C D : Addr}
theorem AnyAt.kf2 (T : FlC K mg C) (O : ObC K C D) {H : Hp} {v : V} : ∀ {x : Any}, AnyAt C D H v x → ∃ t, KnF K C H v t (isFA x)
  | .num n, ⟨h, _⟩ => by
    obtain ⟨t, hk, _, _⟩ := h.kf T
    exact ⟨t, hk⟩
  | .non, h => by
    have h : v = .non := h
    subst h
    exact ⟨_, kf_non T⟩
  | .bl _, h => by
    have h : v = .bl _ := h
    subst h
    exact ⟨_, kf_bl T⟩
  | .str _, h => by
    have h : v = .str _ := h
    subst h
    exact ⟨_, kf_str T⟩
  | .obj _, ⟨e, dx, fs, h⟩ => by
    subst e
    exact ⟨_, ⟨kn_ins O.own h, O.nf⟩⟩
theorem AnyAt.isI {H : Hp} {v : V} : ∀ {x : Any}, AnyAt C D H v x → isI v = (whA x).isSome
  | .num (.i _), ⟨h, _⟩ => by have h : v = .int _ := h; subst h; rfl
  | .num (.f _ _ _), ⟨h, _⟩ => by obtain ⟨a, e, _⟩ := h; subst e; rfl
  | .non, h => by have h : v = .non := h; subst h; rfl
  | .bl _, h => by have h : v = .bl _ := h; subst h; rfl
  | .str _, h => by have h : v = .str _ := h; subst h; rfl
  | .obj _, ⟨e, _⟩ => by subst e; rfl
end
end Up

set_option Elab.async false
set_option linter.all false
set_option pp.maxSteps 600
set_option maxRecDepth 100000
set_option maxHeartbeats 4000000
set_option exponentiation.threshold 200000
namespace Up
open PySem PySem.Spec PyProof.Rows L2
local macro_rules | `(tactic| walk_at "u") => `(tactic| first
  | with_reducible refine g_seq ?_
  | with_reducible refine g_asg ?_
  | with_reducible refine g_op ?_
  | ((with_reducible show tVar _ _ _ _); apply g_var; exact rfl)
  | with_reducible refine g_c ?_
  | with_reducible refine g_name ?_
  | with_reducible refine g_ifs ?_
  | with_reducible refine g_tt ?_
  | with_reducible refine g_tB ?_
  | with_reducible refine g_bl ?_
  | with_reducible refine g_ret ?_
  | with_reducible refine g_cb ?_
  | with_reducible refine g_cons ?_
  | with_reducible refine g_nil ?_
  | with_reducible refine g_call ?_
  | with_reducible refine g_and ?_
  | with_reducible refine g_or ?_
  | with_reducible refine g_not ?_
  | with_reducible refine g_andV ?_
  | with_reducible refine g_orV ?_
  | with_reducible refine g_notV ?_
  | with_reducible refine g_if ?_
  | with_reducible refine g_un ?_
  | with_reducible refine g_neg ?_
  | with_reducible refine g_addI ?_
  | with_reducible refine g_subI ?_
  | with_reducible refine g_subB ?_
  | with_reducible refine g_I0 ?_
  | with_reducible refine g_cmpI ?_
  | with_reducible refine g_eqI ?_
  | with_reducible refine g_neI ?_
  | with_reducible refine g_eqS ?_
  | with_reducible refine g_neS ?_
  | with_reducible refine g_eqB ?_
  | with_reducible refine g_neB ?_
  | with_reducible refine g_bits ?_
  | with_reducible refine g_bitsI ?_
  | with_reducible refine g_fld ?_
  | with_reducible refine g_tup ?_
  | with_reducible refine g_lst ?_
  | with_reducible refine g_gtup ?_
  | with_reducible refine g_make ?_
  | with_reducible refine g_lc ?_
  | with_reducible refine g_yesT ?_
  | with_reducible refine g_intI ?_
  | with_reducible refine g_intB ?_
  | with_reducible refine g_max2 ?_
  | with_reducible refine g_abs1 ?_
  | with_reducible refine g_for ?_
  | with_reducible refine g_iList ?_
  | with_reducible refine g_iTup ?_
  | with_reducible refine g_iRng1 ?_
  | with_reducible refine g_iEnum ?_
  | with_reducible refine g_slice ?_
  | with_reducible refine g_po0 ?_
  | with_reducible refine g_po1 ?_
  | with_reducible refine g_gsub ?_
  | with_reducible refine g_par ?_
  | with_reducible refine g_par2 ?_
  | with_reducible refine g_rfl ?_
  | with_reducible refine g_meth ?_
  | with_reducible refine g_gcons ?_
  | with_reducible refine g_gnil ?_
  | with_reducible refine g_gfld ?_
  | with_reducible refine g_sfld ?_
  | with_reducible refine g_drop ?_
  | with_reducible refine g_next ?_
  | with_reducible refine iteT ?_
  | with_reducible refine iteF ?_)
local macro_rules | `(tactic| walk_at "go") => `(tactic| (repeat walk_at "u"))
local macro_rules | `(tactic| walk_at "t") => `(tactic| (repeat (first
  | walk_at "u"
  | with_reducible refine g_chain ?_
  | with_reducible refine g_par3 ?_
  | with_reducible refine g_par3' ?_
  | with_reducible refine g_augS ?_
  | with_reducible refine g_nt ?_
  | with_reducible refine g_nf ?_
  | with_reducible refine g_methK ?_
  | with_reducible refine g_makeK ?_
  | with_reducible refine g_iRng2 ?_
  | with_reducible refine g_bm ?_
  | with_reducible refine g_fldaug ?_
  | with_reducible refine g_iStr ?_
  | with_reducible refine g_ipI ?_
  | ((with_reducible show tAug _ _ _ _ _ _); refine ⟨_, rfl, ?_⟩)
  | ((with_reducible refine show_exT ?_); first
    | refine rdT3 (by assumption) (by assumption) ?_
    | refine rdT4 (by assumption) (by assumption) ?_
    | refine rdT5 (by assumption) (by assumption) ?_
    | refine rdT1 (by assumption) (by assumption) ?_
    | refine rdT2 (by assumption) (by assumption) ?_
    | refine rdN1 (by assumption) (by assumption) ?_
    | refine rdN2 (by assumption) (by assumption) ?_
    | refine rdN3 (by assumption) (by assumption) ?_
    | refine rdN4 (by assumption) (by assumption) ?_))))

section
variable {P : Program} {w : World} {K : PySem.W.Frag} {mg : Str → Option Value} {base : Heap} {C D N : Addr}
/-! is_whole -/
abbrev s_iswhole : Stmt := top 33
theorem sc_iswhole : FnScope ["key"] ["key"] (defScope s_iswhole) := ⟨rfl, rfl, rfl, by decide +kernel, rfl, by decide +kernel, by decide +kernel⟩
def sp_iswhole (K : PySem.W.Frag) : Sp := fun vs H Q _ => ∃ x t, vs = [x] ∧ Kn K H x t ∧ Q (.bl (isI x)) H
theorem ok_iswhole {f : Addr} {fd : FuncData} (F : FunD K "is_whole" "is_whole" (defArgs s_iswhole) (defBody s_iswhole) (defScope s_iswhole) [] [] f fd) (B : Blt mg) : FnOk P w K mg base CX0 1 f fd ["key"] (sp_iswhole K) := by
  refine F.ok sc_iswhole (fun vs H Q E h => ?_) (fun cdv A outer s H vs Q E hr h => ?_)
  · obtain ⟨x, t, rfl, _⟩ := h; rfl
  · obtain ⟨x, t, rfl, hk, q⟩ := h
    refine ⟨_, PSs.nox (pss_one (ps_ret (pe_and (pe_callB call_isi (by rfl) B.isinstance (by decide +kernel) (pa_cons (pv 0) (pa_cons (pe_tyInt B) pa_nil))) (pe_one (pe_not (pe_callB call_isi (by rfl) B.isinstance (by decide +kernel) (pa_cons (pv 0) (pa_cons (pe_tyBool B) pa_nil)))))))), ?_⟩
    walk_at "t"
    refine g_isiInt hk ?_
    walk_at "t"
    cases x <;> first | (refine iteF ?_; exact q) | skip
    · refine iteT ?_; walk_at "t"; refine g_isiBool hk ?_; walk_at "t"; exact q
    · refine iteT ?_; walk_at "t"; refine g_isiBool hk ?_; walk_at "t"; exact q
/-! is_nan -/
abbrev s_isnan : Stmt := top 32
theorem sc_isnan : FnScope ["key"] ["key"] (defScope s_isnan) := ⟨rfl, rfl, rfl, by decide +kernel, rfl, by decide +kernel, by decide +kernel⟩
def sp_isnan (C D : Addr) : Sp := fun vs H Q _ => ∃ v x, vs = [v] ∧ AnyAt C D H v x ∧ Q (.bl (isNanA x)) H
theorem ok_isnan {f : Addr} {fd : FuncData} (F : FunD K "is_nan" "is_nan" (defArgs s_isnan) (defBody s_isnan) (defScope s_isnan) [] [] f fd) (B : Blt mg) (T : FlC K mg C) (O : ObC K C D) : FnOk P w K mg base CX0 1 f fd ["key"] (sp_isnan C D) := by
  have g_Float : mg "Float" = some (.ref C) := T.mg
  refine F.ok sc_isnan (fun vs H Q E h => ?_) (fun cdv A outer s H vs Q E hr h => ?_)
  · obtain ⟨x, t, rfl, _⟩ := h; rfl
  · obtain ⟨v, x, rfl, hx, q⟩ := h
    obtain ⟨t, hk⟩ := hx.kf2 T O
    refine ⟨_, PSs.nox (pss_one (ps_ret (pe_and (pe_callB call_isi (by rfl) B.isinstance (by decide +kernel) (pa_cons (pv 0) (pa_cons (pe_gref g_Float) pa_nil))) (pe_one (pe_cmpR (op_oEq hr.units) (pe_fld (pv 0) rfl) pe_str (nomark _)))))), ?_⟩
    walk_at "t"
    refine g_isiF hk ?_
    walk_at "t"
    cases x with
    | num n =>
      cases n with
      | i k => refine iteF ?_; exact q
      | f sg tp p =>
        obtain ⟨⟨a, rfl, hf, ho⟩, _⟩ := hx
        obtain ⟨dx, hd⟩ := id hf
        refine iteT ?_
        walk_at "t"
        refine ⟨a, C, dx, _, _, rfl, hd, T.own.cl, T.nT, fl_top _ _ _, ?_⟩
        walk_at "t"
        have hs : scal tp (.str "nan") = true := by
          rcases ho.2 with ⟨rfl, _, _⟩ | ⟨rfl, _⟩ | ⟨m, rfl, _⟩ <;> rfl
        exact g_eqV hs q
    | non => refine iteF ?_; exact q
    | bl _ => refine iteF ?_; exact q
    | str _ => refine iteF ?_; exact q
    | obj _ => refine iteF ?_; exact q
/-! whole_of -/
def wholeF (s : Int) : V → Int → Option Int
  | .int m, p => if p < 0 ∨ 64 < ((Builtin.Int.intBits m : Nat) : Int) + p then none else if -9223372036854775808 ≤ s * (m * 2 ^ p.toNat) ∧ s * (m * 2 ^ p.toNat) ≤ 9223372036854775807 then some (s * (m * 2 ^ p.toNat)) else none
  | _, _ => none
def wholeN : Nm → Option Int
  | .i n => some n
  | .f s t p => wholeF s t p
abbrev s_wholeof : Stmt := top 18
theorem sc_wholeof : FnScope ["number", "whole"] ["number"] (defScope s_wholeof) := ⟨rfl, rfl, rfl, by decide +kernel, rfl, by decide +kernel, by decide +kernel⟩
def sp_wholeof (C : Addr) : Sp := fun vs H Q _ => ∃ v n, vs = [v] ∧ NumAt C H v n ∧ ∀ H', Same H H' → Q (oV (wholeN n)) H'
theorem ok_wholeof {f : Addr} {fd : FuncData} (F : FunD K "whole_of" "whole_of" (defArgs s_wholeof) (defBody s_wholeof) (defScope s_wholeof) [] [] f fd) (B : Blt mg) (T : FlC K mg C) (i_LEAST : ∃ t, mg "LEAST" = some (.int (-9223372036854775808) t)) (i_MOST : ∃ t, mg "MOST" = some (.int 9223372036854775807 t))
    (c_isfinite : Mt P w K mg base CX0 1 C "is_finite" ["self"] (sp_isfinite C)) (c_ratio : Mt P w K mg base CX0 1 C "ratio" ["self"] (sp_ratio C)) : FnOk P w K mg base CX0 2 f fd ["number"] (sp_wholeof C) := by
  have g_Float : mg "Float" = some (.ref C) := T.mg
  refine F.ok sc_wholeof (fun vs H Q E h => ?_) (fun cdv A outer s H vs Q E hr h => ?_)
  · obtain ⟨x, t, rfl, _⟩ := h; rfl
  · obtain ⟨v, n, rfl, hn, q⟩ := h
    obtain ⟨t, hk, _, _⟩ := hn.kf T
    refine ⟨_, PSs.nox (pss_cons (ps_if (pt_not (pt_val (pe_callB call_isi (by rfl) B.isinstance (by decide +kernel) (pa_cons (pv 0) (pa_cons (pe_gref g_Float) pa_nil))))) (pss_one (ps_ret (pv 0))) pss_nil)
  (pss_cons (ps_if (PW.pt (pw_or (pt_not (pt_val (pe_mt0 c_isfinite (hr.mono (by first | decide | omega)) pass0 (pv 0)))) (pw_or (pt_cmpR op_oLt (pe_fld (pv 0) rfl) pe_int (nomark _)) (pw_or1 (pt_cmpR op_oGt (pe_op op_oAdd (pe_bits (pe_fld (pv 0) rfl)) (pe_fld (pv 0) rfl)) pe_int (nomark _)))))) (pss_one (ps_ret pe_non)) pss_nil)
  (pss_cons (ps_set (i := 1) sc_wholeof.nd rfl (Or.inl rfl) (pe_ix ix_seq (pe_mt0 c_ratio (hr.mono (by first | decide | omega)) pass0 (pv 0)) pe_int (fun _ _ => rfl)))
  (pss_one (ps_ret (pe_ifExp (pt_chain op_oLe op_oLe (pe_gint i_LEAST) (pv 1) (pe_gint i_MOST)) (pv 1) pe_non)))))), ?_⟩
    walk_at "t"
    refine g_isiF hk ?_
    walk_at "t"
    cases n with
    | i k =>
      have hn : v = .int k := hn
      subst hn
      refine iteT ?_
      walk_at "t"
      exact q H (Same.refl _)
    | f sg tp p =>
      obtain ⟨a, rfl, hf, ho⟩ := hn
      obtain ⟨dx, hd⟩ := id hf
      refine iteF ?_
      walk_at "t"
      refine ⟨a, dx, _, rfl, hd, rfl, ?_⟩
      walk_at "t"
      refine ⟨a, sg, tp, p, rfl, hf, ho, ?_⟩
      walk_at "t"
      rcases id ho.2 with ⟨rfl, _, _⟩ | ⟨rfl, _⟩ | ⟨m, rfl, hfin⟩
      · refine iteT ?_
        refine iteT ?_
        walk_at "t"
        exact q H (Same.refl _)
      · refine iteT ?_
        refine iteT ?_
        walk_at "t"
        exact q H (Same.refl _)
      · refine iteF ?_
        walk_at "t"
        refine ⟨a, C, dx, _, _, rfl, hd, T.own.cl, T.nP, fl_power _ _ _, ?_⟩
        walk_at "t"
        refine g_ite (fun h1 => ?_) fun h1 => ?_
        · refine iteT ?_
          walk_at "t"
          have e : wholeN (.f sg (.int m) p) = none := if_pos (.inl h1)
          rw [e] at q
          exact q H (Same.refl _)
        · walk_at "t"
          refine ⟨a, C, dx, _, _, rfl, hd, T.own.cl, T.nT, fl_top _ _ _, ?_⟩
          walk_at "t"
          refine ⟨a, C, dx, _, _, rfl, hd, T.own.cl, T.nP, fl_power _ _ _, ?_⟩
          walk_at "t"
          refine g_ite (fun h2 => ?_) fun h2 => ?_
          · have e : wholeN (.f sg (.int m) p) = none := if_pos (.inr h2)
            rw [e] at q
            walk_at "t"
            exact q H (Same.refl _)
          · walk_at "t"
            refine ⟨a, dx, _, rfl, hd, rfl, ?_⟩
            walk_at "t"
            refine ⟨a, sg, m, p, rfl, hf, ho, fun H1 b nb s1 hb => ?_⟩
            walk_at "t"
            refine g_ixT hb rfl ?_
            have er : ratN sg m p = sg * (m * 2 ^ p.toNat) := if_neg h1
            rw [er]
            have e : wholeN (.f sg (.int m) p) = if -9223372036854775808 ≤ sg * (m * 2 ^ p.toNat) ∧ sg * (m * 2 ^ p.toNat) ≤ 9223372036854775807 then some (sg * (m * 2 ^ p.toNat)) else none := if_neg (fun z => z.elim h1 h2)
            rw [e] at q
            generalize sg * (m * 2 ^ p.toNat) = y at q ⊢
            walk_at "t"
            refine g_ite (fun h3 => ?_) fun h3 => ?_
            · walk_at "t"
              refine g_ite (fun h4 => ?_) fun h4 => ?_
              · rw [if_pos ⟨h3, h4⟩] at q
                walk_at "t"
                exact q _ s1
              · rw [if_neg (fun z => h4 z.2)] at q
                walk_at "t"
                exact q _ s1
            · rw [if_neg (fun z => h3 z.1)] at q
              walk_at "t"
              exact q _ s1
/-! plain_key -/
def plNm (n : Nm) : Option Int → Any
  | some i => .num (.i i)
  | none => .num n
def plNv (v : V) : Option Int → V
  | some i => .int i
  | none => v
def plA : Any → Any
  | .num n => plNm n (wholeN n)
  | x => x
def plV (v : V) : Any → V
  | .num n => plNv v (wholeN n)
  | _ => v
theorem wholeF_small {s : Int} {t : V} {p i : Int} (h : wholeF s t p = some i) : -9223372036854775808 ≤ i ∧ i ≤ 9223372036854775807 := by
  unfold wholeF at h
  split at h
  · split at h
    · cases h
    · split at h
      · rename_i h2
        cases h
        exact h2
      · cases h
  · cases h
theorem AnyAt.pl {H : Hp} {v : V} : ∀ {x : Any}, AnyAt C D H v x → AnyAt C D H (plV v x) (plA x)
  | .num (.i i), h => by
    obtain ⟨h1, h2⟩ := h
    have h1 : v = .int i := h1
    subst h1
    exact ⟨rfl, h2⟩
  | .num (.f s t p), h => by
    show AnyAt C D H (plNv v (wholeN (.f s t p))) (plNm (.f s t p) (wholeN (.f s t p)))
    cases e : wholeN (.f s t p) with
    | none => exact h
    | some i =>
      have := wholeF_small e
      exact ⟨rfl, big64 (by omega) (by omega)⟩
  | .non, h => h
  | .bl _, h => h
  | .str _, h => h
  | .obj _, h => h
def plK (k : Ky) : Ky := ⟨plA k.x, k.no⟩
theorem plA_obj {x : Any} {a : Addr} (h : plA x = .obj a) : x = .obj a := by
  cases x with
  | num n =>
    have h : plNm n (wholeN n) = .obj a := h
    cases e : wholeN n with
    | none => rw [e] at h; cases h
    | some i => rw [e] at h; cases h
  | _ => exact h
theorem KyAt.pl {H : Hp} {v : V} {k : Ky} (h : KyAt C D H v k) : KyAt C D H (plV v k.x) (plK k) := ⟨h.1.pl, fun a e => h.2 a (plA_obj e)⟩
abbrev s_plainkey : Stmt := top 31
theorem sc_plainkey : FnScope ["key", "whole"] ["key"] (defScope s_plainkey) := ⟨rfl, rfl, rfl, by decide +kernel, rfl, by decide +kernel, by decide +kernel⟩
def sp_plainkey (C D : Addr) : Sp := fun vs H Q _ => ∃ v x, vs = [v] ∧ AnyAt C D H v x ∧ ∀ H', Same H H' → Q (plV v x) H'
theorem ok_plainkey {f : Addr} {fd : FuncData} (F : FunD K "plain_key" "plain_key" (defArgs s_plainkey) (defBody s_plainkey) (defScope s_plainkey) [] [] f fd) (B : Blt mg) (T : FlC K mg C) (O : ObC K C D) (c_wholeof : Fn P w K mg base CX0 2 "whole_of" ["number"] [] (sp_wholeof C)) : FnOk P w K mg base CX0 3 f fd ["key"] (sp_plainkey C D) := by
  have g_Float : mg "Float" = some (.ref C) := T.mg
  refine F.ok sc_plainkey (fun vs H Q E h => ?_) (fun cdv A outer s H vs Q E hr h => ?_)
  · obtain ⟨x, t, rfl, _⟩ := h; rfl
  · obtain ⟨v, x, rfl, hx, q⟩ := h
    obtain ⟨t, hk⟩ := hx.kf2 T O
    refine ⟨_, PSs.nox (pss_cons (ps_if (pt_val (pe_callB call_isi (by rfl) B.isinstance (by decide +kernel) (pa_cons (pv 0) (pa_cons (pe_gref g_Float) pa_nil)))) (pss_cons (ps_set (i := 1) sc_plainkey.nd rfl (Or.inl rfl) (pe_fn c_wholeof (hr.mono (by first | decide | omega)) pass0 (pa_cons (pv 0) pa_nil)))
  (pss_one (ps_ret (pe_ifExp (pt_cmpR op_isN (pv 1) pe_non (nomark _)) (pv 0) (pv 1))))) pss_nil)
  (pss_one (ps_ret (pv 0)))), ?_⟩
    walk_at "t"
    refine g_isiF hk ?_
    walk_at "t"
    cases x with
    | num n =>
      cases n with
      | i k =>
        have h : v = .int k := hx.1
        subst h
        refine iteF ?_
        walk_at "t"
        exact q H (Same.refl _)
      | f sg tp p =>
        refine iteT ?_
        walk_at "t"
        refine ⟨v, _, rfl, hx.1, fun H1 s1 => ?_⟩
        walk_at "t"
        have q : Q (plNv v (wholeN (.f sg tp p))) H1 := q _ s1
        cases e : wholeN (.f sg tp p) with
        | none =>
          rw [e] at q
          refine iteT ?_
          walk_at "t"
          exact q
        | some i =>
          rw [e] at q
          refine iteF ?_
          walk_at "t"
          exact q
    | non => refine iteF ?_; walk_at "t"; exact q H (Same.refl _)
    | bl _ => refine iteF ?_; walk_at "t"; exact q H (Same.refl _)
    | str _ => refine iteF ?_; walk_at "t"; exact q H (Same.refl _)
    | obj _ => refine iteF ?_; walk_at "t"; exact q H (Same.refl _)
/-! sum_of -/
abbrev s_sumof : Stmt := top 27
theorem sc_sumof : FnScope ["text", "found", "sign"] ["text"] (defScope s_sumof) := ⟨rfl, rfl, rfl, by decide +kernel, rfl, by decide +kernel, by decide +kernel⟩
def sp_sumof : Sp := fun vs H Q _ => ∃ x, vs = [.str x] ∧ Q (.int (sumS x)) H
theorem ok_sumof {f : Addr} {fd : FuncData} (F : FunD K "sum_of" "sum_of" (defArgs s_sumof) (defBody s_sumof) (defScope s_sumof) [] [] f fd) (B : Blt mg) : FnOk P w K mg base CX0 1 f fd ["text"] sp_sumof := by
  refine F.ok sc_sumof (fun vs H Q E h => ?_) (fun cdv A outer s H vs Q E hr h => ?_)
  · obtain ⟨x, rfl, _⟩ := h; rfl
  · obtain ⟨x, rfl, q⟩ := h
    refine ⟨_, PSs.nox (pss_cons (ps_set (i := 1) sc_sumof.nd rfl (Or.inl rfl) pe_int)
  (pss_cons (ps_for PassesOwn.never rfl (pi_str (pv 0)) (pg_name (i := 2) sc_sumof.nd rfl (Or.inl rfl))
    (pss_one (ps_set (i := 1) sc_sumof.nd rfl (Or.inl rfl) (pe_op op_oMod (pe_op op_oAdd (pe_op op_oMul pe_int (pv 1)) (pe_callB call_ord (by rfl) B.ord (by decide +kernel) (pa_cons (pv 2) pa_nil))) (pe_op op_oPow pe_int pe_int)))))
  (pss_one (ps_ret (pv 1))))), ?_⟩
    walk_at "t"
    refine ⟨x, rfl, ?_⟩
    have pre : ∀ i, i ≤ x.cps.size → 0 ≤ (x.cps.toList.take i).foldl (fun a c => (31 * a + ((c : Nat) : Int)).fmod 4294967296) (0 : Int) ∧ (x.cps.toList.take i).foldl (fun a c => (31 * a + ((c : Nat) : Int)).fmod 4294967296) (0 : Int) < 4294967296 := fun i _ => sumS_nn ⟨(x.cps.toList.take i).toArray⟩
    refine for_str (fun i σ' H' => H' = H ∧ i ≤ x.cps.size ∧ ∃ e, σ' = [some (.str x), some (.int ((x.cps.toList.take i).foldl (fun a c => (31 * a + ((c : Nat) : Int)).fmod 4294967296) (0 : Int))), e]) ⟨rfl, Nat.zero_le _, _, rfl⟩ ?_ ?_
    · rintro i c _ _ hc ⟨rfl, hi, e, rfl⟩
      have hlt : i < x.cps.size := by
        by_cases z : i < x.cps.size
        · exact z
        · rw [Array.getElem?_eq_none (by omega)] at hc; cases hc
      have b := pre i hi
      have e2 : (x.cps.toList.take (i + 1)) = x.cps.toList.take i ++ [c] := by
        rw [List.take_add_one, Array.getElem?_toList, hc]; rfl
      walk_at "t"
      refine g_mulI (.of_left (by decide)) ?_
      walk_at "t"
      refine ⟨_, rfl, rfl, ?_⟩
      walk_at "t"
      refine g_II ⟨by decide, by decide, by decide⟩ ?_
      walk_at "t"
      refine g_modI (by decide) ?_
      walk_at "t"
      refine ⟨rfl, hlt, some (.str ⟨#[c]⟩), ?_⟩
      rw [e2, List.foldl_append]
      rfl
    · rintro _ _ ⟨rfl, _, e, rfl⟩
      walk_at "t"
      have e : x.cps.toList.take x.cps.size = x.cps.toList := List.take_of_length_le (by simp)
      rw [e]
      exact q
/-! float_sum -/
abbrev s_floatsum : Stmt := top 28
theorem sc_floatsum : FnScope ["number", "width", "part", "found"] ["number"] (defScope s_floatsum) := ⟨rfl, rfl, rfl, by decide +kernel, rfl, by decide +kernel, by decide +kernel⟩
def sp_floatsum (C : Addr) : Sp := fun vs H Q _ => ∃ a s t p, vs = [.ref a] ∧ FlAt C H a s t p ∧ FlOk s t p ∧ Q (.int (fsumN s t p)) H
theorem ok_floatsum {f : Addr} {fd : FuncData} (F : FunD K "float_sum" "float_sum" (defArgs s_floatsum) (defBody s_floatsum) (defScope s_floatsum) [] [] f fd) (B : Blt mg) (T : FlC K mg C) (i_LOW_HALF : ∃ t, mg "LOW_HALF" = some (.int 2147483647 t)) (c_isfinite : Mt P w K mg base CX0 1 C "is_finite" ["self"] (sp_isfinite C)) : FnOk P w K mg base CX0 2 f fd ["number"] (sp_floatsum C) := by
  refine F.ok sc_floatsum (fun vs H Q E h => ?_) (fun cdv A outer s H vs Q E hr h => ?_)
  · obtain ⟨_, _, _, _, rfl, _⟩ := h; rfl
  · obtain ⟨a, sg, tp, p, rfl, hf, ho, q⟩ := h
    obtain ⟨dx, hd⟩ := id hf
    refine ⟨_, PSs.nox (pss_cons (ps_if (pt_not (pt_val (pe_mt0 c_isfinite (hr.mono (by first | decide | omega)) pass0 (pv 0)))) (pss_one (ps_ret pe_int)) pss_nil)
  (pss_cons (ps_set (i := 1) sc_floatsum.nd rfl (Or.inl rfl) (pe_bits (pe_fld (pv 0) rfl)))
  (pss_cons (ps_set (i := 2) sc_floatsum.nd rfl (Or.inl rfl) (pe_op op_oShr (pe_op op_oShl (pe_fld (pv 0) rfl) pe_int) (pv 1)))
  (pss_cons (ps_set (i := 3) sc_floatsum.nd rfl (Or.inl rfl) (pe_op op_oMod (pe_op op_oAdd (pe_op op_oAdd (pe_fld (pv 0) rfl) (pv 1)) (pe_op op_oMul (pe_fld (pv 0) rfl) (pv 2))) (pe_op op_oPow pe_int pe_int)))
  (pss_one (ps_ret (pe_ifExp (pt_cmpR op_oLe (pv 3) (pe_gint i_LOW_HALF) (nomark _)) (pv 3) (pe_op op_oSub (pe_op op_oSub (pe_op op_oPow pe_int pe_int) pe_int) (pv 3))))))))), ?_⟩
    walk_at "t"
    refine ⟨a, dx, _, rfl, hd, rfl, ?_⟩
    walk_at "t"
    refine ⟨a, sg, tp, p, rfl, hf, ho, ?_⟩
    walk_at "t"
    rcases id ho.2 with ⟨rfl, _, _⟩ | ⟨rfl, _⟩ | ⟨m, rfl, hfin⟩
    · refine iteT ?_
      walk_at "t"
      exact q
    · refine iteT ?_
      walk_at "t"
      exact q
    · refine iteF ?_
      walk_at "t"
      refine ⟨a, C, dx, _, _, rfl, hd, T.own.cl, T.nT, fl_top _ _ _, ?_⟩
      walk_at "t"
      refine ⟨a, C, dx, _, _, rfl, hd, T.own.cl, T.nT, fl_top _ _ _, ?_⟩
      walk_at "t"
      obtain ⟨f1, f2, _⟩ := id hfin
      refine g_II (shl_small (by decide) (by decide) (lt_pow_mono (a := 53) (by omega) (by decide))) ?_
      walk_at "t"
      refine g_II (Int.natCast_nonneg _) ?_
      walk_at "t"
      refine ⟨a, C, dx, _, _, rfl, hd, T.own.cl, T.nP, fl_power _ _ _, ?_⟩
      walk_at "t"
      refine ⟨a, C, dx, _, _, rfl, hd, T.own.cl, T.nS, fl_sign _ _ _, ?_⟩
      walk_at "t"
      refine g_mulI (sgn_mul ho.1) ?_
      walk_at "t"
      refine g_II ⟨by decide, by decide, by decide⟩ ?_
      walk_at "t"
      refine g_modI (by decide) ?_
      walk_at "t"
      have e : fsumN sg (.int m) p = if (p + ((Builtin.Int.intBits m : Nat) : Int) + sg * (m * 2 ^ 31 / 2 ^ Builtin.Int.intBits m)).fmod 4294967296 ≤ 2147483647 then (p + ((Builtin.Int.intBits m : Nat) : Int) + sg * (m * 2 ^ 31 / 2 ^ Builtin.Int.intBits m)).fmod 4294967296 else 4294967295 - (p + ((Builtin.Int.intBits m : Nat) : Int) + sg * (m * 2 ^ 31 / 2 ^ Builtin.Int.intBits m)).fmod 4294967296 := rfl
      rw [e] at q
      have e3 : ((Builtin.Int.intBits m : Nat) : Int).toNat = Builtin.Int.intBits m := Int.toNat_natCast _
      rw [e3]
      have e4 : (2 : Int) ^ (32 : Int).toNat = 4294967296 := by decide
      rw [e4]
      have e5 : (m * 2 ^ (31 : Int).toNat) = m * 2 ^ 31 := rfl
      rw [e5]
      generalize (p + ((Builtin.Int.intBits m : Nat) : Int) + sg * (m * 2 ^ 31 / 2 ^ Builtin.Int.intBits m)).fmod 4294967296 = y at q ⊢
      refine g_ite (fun h1 => ?_) fun h1 => ?_
      · rw [if_pos h1] at q
        walk_at "t"
        exact q
      · rw [if_neg h1] at q
        walk_at "t"
        refine g_II ⟨by decide, by decide, by decide⟩ ?_
        walk_at "t"
        exact q
end
end Up

set_option Elab.async false
set_option linter.all false
set_option pp.maxSteps 600
set_option maxRecDepth 100000
set_option maxHeartbeats 4000000
set_option exponentiation.threshold 200000
namespace Up
open PySem PySem.Spec PyProof.Rows L2
local macro_rules | `(tactic| walk_at "u") => `(tactic| first
  | with_reducible refine g_seq ?_
  | with_reducible refine g_asg ?_
  | with_reducible refine g_op ?_
  | ((with_reducible show tVar _ _ _ _); apply g_var; exact rfl)
  | with_reducible refine g_c ?_
  | with_reducible refine g_name ?_
  | with_reducible refine g_ifs ?_
  | with_reducible refine g_tt ?_
  | with_reducible refine g_tB ?_
  | with_reducible refine g_bl ?_
  | with_reducible refine g_ret ?_
  | with_reducible refine g_cb ?_
  | with_reducible refine g_cons ?_
  | with_reducible refine g_nil ?_
  | with_reducible refine g_call ?_
  | with_reducible refine g_and ?_
  | with_reducible refine g_or ?_
  | with_reducible refine g_not ?_
  | with_reducible refine g_andV ?_
  | with_reducible refine g_orV ?_
  | with_reducible refine g_notV ?_
  | with_reducible refine g_if ?_
  | with_reducible refine g_un ?_
  | with_reducible refine g_neg ?_
  | with_reducible refine g_addI ?_
  | with_reducible refine g_subI ?_
  | with_reducible refine g_subB ?_
  | with_reducible refine g_I0 ?_
  | with_reducible refine g_cmpI ?_
  | with_reducible refine g_eqI ?_
  | with_reducible refine g_neI ?_
  | with_reducible refine g_eqS ?_
  | with_reducible refine g_neS ?_
  | with_reducible refine g_eqB ?_
  | with_reducible refine g_neB ?_
  | with_reducible refine g_bits ?_
  | with_reducible refine g_bitsI ?_
  | with_reducible refine g_fld ?_
  | with_reducible refine g_tup ?_
  | with_reducible refine g_lst ?_
  | with_reducible refine g_gtup ?_
  | with_reducible refine g_make ?_
  | with_reducible refine g_lc ?_
  | with_reducible refine g_yesT ?_
  | with_reducible refine g_intI ?_
  | with_reducible refine g_intB ?_
  | with_reducible refine g_max2 ?_
  | with_reducible refine g_abs1 ?_
  | with_reducible refine g_for ?_
  | with_reducible refine g_iList ?_
  | with_reducible refine g_iTup ?_
  | with_reducible refine g_iRng1 ?_
  | with_reducible refine g_iEnum ?_
  | with_reducible refine g_slice ?_
  | with_reducible refine g_po0 ?_
  | with_reducible refine g_po1 ?_
  | with_reducible refine g_gsub ?_
  | with_reducible refine g_par ?_
  | with_reducible refine g_par2 ?_
  | with_reducible refine g_rfl ?_
  | with_reducible refine g_meth ?_
  | with_reducible refine g_gcons ?_
  | with_reducible refine g_gnil ?_
  | with_reducible refine g_gfld ?_
  | with_reducible refine g_sfld ?_
  | with_reducible refine g_drop ?_
  | with_reducible refine g_next ?_
  | with_reducible refine iteT ?_
  | with_reducible refine iteF ?_)
local macro_rules | `(tactic| walk_at "go") => `(tactic| (repeat walk_at "u"))
local macro_rules | `(tactic| walk_at "t") => `(tactic| (repeat (first
  | walk_at "u"
  | with_reducible refine g_chain ?_
  | with_reducible refine g_par3 ?_
  | with_reducible refine g_par3' ?_
  | with_reducible refine g_augS ?_
  | with_reducible refine g_nt ?_
  | with_reducible refine g_nf ?_
  | with_reducible refine g_methK ?_
  | with_reducible refine g_makeK ?_
  | with_reducible refine g_iRng2 ?_
  | with_reducible refine g_bm ?_
  | with_reducible refine g_fldaug ?_
  | with_reducible refine g_iStr ?_
  | with_reducible refine g_ipI ?_
  | ((with_reducible show tAug _ _ _ _ _ _); refine ⟨_, rfl, ?_⟩)
  | ((with_reducible refine show_exT ?_); first
    | refine rdT3 (by assumption) (by assumption) ?_
    | refine rdT4 (by assumption) (by assumption) ?_
    | refine rdT5 (by assumption) (by assumption) ?_
    | refine rdT1 (by assumption) (by assumption) ?_
    | refine rdT2 (by assumption) (by assumption) ?_
    | refine rdN1 (by assumption) (by assumption) ?_
    | refine rdN2 (by assumption) (by assumption) ?_
    | refine rdN3 (by assumption) (by assumption) ?_
    | refine rdN4 (by assumption) (by assumption) ?_))))

section
variable {P : Program} {w : World} {K : PySem.W.Frag} {mg : Str → Option Value} {base : Heap} {C D N : Addr}
/-! power_for -/
abbrev s_powerfor : Stmt := top 34
theorem sc_powerfor : FnScope ["count"] ["count"] (defScope s_powerfor) := ⟨rfl, rfl, rfl, by decide +kernel, rfl, by decide +kernel, by decide +kernel⟩
def powF (n : Nat) : Nat := if n = 0 then 0 else 2 ^ bitsN (n - 1)
def sp_powerfor : Sp := fun vs H Q _ => ∃ n : Nat, vs = [.int n] ∧ n ≤ 100000 ∧ Q (.int (powF n : Nat)) H
theorem ok_powerfor {f : Addr} {fd : FuncData} (F : FunD K "power_for" "power_for" (defArgs s_powerfor) (defBody s_powerfor) (defScope s_powerfor) [] [] f fd) (B : Blt mg) : FnOk P w K mg base CX0 1 f fd ["count"] sp_powerfor := by
  refine F.ok sc_powerfor (fun vs H Q E h => ?_) (fun cdv A outer s H vs Q E hr h => ?_)
  · obtain ⟨n, rfl, _⟩ := h; rfl
  · obtain ⟨n, rfl, hn, q⟩ := h
    refine ⟨_, PSs.nox (pss_one (ps_ret (pe_ifExp (pt_cmpR (op_oEq hr.units) (pv 0) pe_int (nomark _)) pe_int (pe_op op_oShl pe_int (pe_bits (pe_op op_oSub (pv 0) pe_int)))))), ?_⟩
    walk_at "go"
    refine g_ite (fun h0 => ?_) fun h0 => ?_
    · walk_at "go"
      have e : powF n = 0 := if_pos (by omega)
      rw [e] at q
      exact q
    · walk_at "go"
      have e1 : ((n : Int) - 1) = ((n - 1 : Nat) : Int) := by omega
      rw [e1, intBits_nat]
      have hb : bitsN (n - 1) ≤ 17 := bits_le (by have : (100000 : Nat) < 2 ^ 17 := by decide
                                                  omega)
      refine g_II (shl_small (by omega) (by omega) (lt_pow_mono (a := 1) (by decide) (by decide))) ?_
      have e : powF n = 2 ^ bitsN (n - 1) := if_neg (by omega)
      rw [e] at q
      rw [Int.one_mul, Int.toNat_natCast]
      rw [Int.natCast_pow] at q
      exact q
/-! place_of -/
abbrev s_placeof1 : Stmt := top 29
theorem sc_placeof1 : FnScope ["key", "size"] ["key", "size"] (defScope s_placeof1) := ⟨rfl, rfl, rfl, by decide +kernel, rfl, by decide +kernel, by decide +kernel⟩
structure NaC (K : PySem.W.Frag) (mg : Str → Option Value) (D : Addr) : Prop where
  ex : ∃ A, mg "Native" = some (.ref A) ∧ PySem.W.kitOne K (.ref D) (.ref A) = some false
def sp_placeofT (C D : Addr) : Sp := fun vs H Q _ => ∃ (v : V) (k : Ky) (n : Nat), vs = [v, .int n] ∧ KyAt C D H v k ∧ k.x ≠ .non ∧ 0 < n ∧ Q (.int (KK.mp k n : Nat)) H
theorem ok_placeofT {f : Addr} {fd : FuncData} (F : FunD K "place_of" "place_of" (defArgs s_placeof1) (defBody s_placeof1) (defScope s_placeof1) [] [] f fd) (B : Blt mg) (T : FlC K mg C) (O : ObC K C D) (NA : NaC K mg D) (TT : TbC K mg D) (c_sumof : Fn P w K mg base CX0 1 "sum_of" ["text"] [] sp_sumof) (c_floatsum : Fn P w K mg base CX0 2 "float_sum" ["number"] [] (sp_floatsum C)) :
    FnOk P w K mg base CX0 3 f fd ["key", "size"] (sp_placeofT C D) := by
  have g_Float : mg "Float" = some (.ref C) := T.mg
  obtain ⟨CA, g_Native, nat⟩ := NA.ex
  refine F.ok sc_placeof1 (fun vs H Q E h => ?_) (fun cdv A outer s H vs Q E hr h => ?_)
  · obtain ⟨_, _, _, rfl, _⟩ := h; rfl
  · obtain ⟨v, k, n, rfl, ⟨hx, hn⟩, nn, n0, q⟩ := h
    obtain ⟨t, hk⟩ := hx.kf2 T O
    rw [mp_int k n0] at q
    have ho : oddI n ≠ 0 := by rw [oddI_eq n0]; omega
    refine ⟨_, PSs.nox (pss_cons (ps_if (pt_val (pe_callB call_isi (by rfl) B.isinstance (by decide +kernel) (pa_cons (pv 0) (pa_cons (pe_tyBool B) pa_nil)))) (pss_one (ps_ret (pe_op op_oAnd (pe_callTy call_int1 (by rfl) B.int (by decide +kernel) (pa_cons (pv 0) pa_nil)) (pe_op op_oSub (pv 1) pe_int)))) pss_nil)
  (pss_cons (ps_if (pt_val (pe_callB call_isi (by rfl) B.isinstance (by decide +kernel) (pa_cons (pv 0) (pa_cons (pe_tyStr B) pa_nil)))) (pss_one (ps_ret (pe_op op_oAnd (pe_fn c_sumof (hr.mono (by first | decide | omega)) pass0 (pa_cons (pv 0) pa_nil)) (pe_op op_oSub (pv 1) pe_int)))) pss_nil)
  (pss_cons (ps_if (pt_val (pe_callB call_isi (by rfl) B.isinstance (by decide +kernel) (pa_cons (pv 0) (pa_cons (pe_tyInt B) pa_nil)))) (pss_one (ps_ret (pe_op op_oMod (pe_op op_oMod (pv 0) (pe_op op_oPow pe_int pe_int)) (pe_op op_oOr (pe_op op_oSub (pv 1) pe_int) pe_int)))) pss_nil)
  (pss_cons (ps_if (pt_val (pe_callB call_isi (by rfl) B.isinstance (by decide +kernel) (pa_cons (pv 0) (pa_cons (pe_gref g_Float) pa_nil)))) (pss_one (ps_ret (pe_op op_oMod (pe_fn c_floatsum (hr.mono (by first | decide | omega)) pass0 (pa_cons (pv 0) pa_nil)) (pe_op op_oOr (pe_op op_oSub (pv 1) pe_int) pe_int)))) pss_nil)
  (pss_cons (ps_if (pt_val (pe_callB call_isi (by rfl) B.isinstance (by decide +kernel) (pa_cons (pv 0) (pa_cons (pe_gref g_Native) pa_nil)))) (pss_one (ps_ret (pe_op op_oAnd (pe_fn c_sumof (hr.mono (by first | decide | omega)) pass0 (pa_cons (pe_fld (pv 0) rfl) pa_nil)) (pe_op op_oSub (pv 1) pe_int)))) pss_nil)
  (pss_one (ps_ret (pe_op op_oMod (pe_fld (pv 0) rfl) (pe_op op_oOr (pe_op op_oSub (pv 1) pe_int) pe_int))))))))), ?_⟩
    obtain ⟨x, no⟩ := k
    walk_at "t"
    refine g_isiBool hk.kn ?_
    walk_at "t"
    cases x with
    | non => exact absurd rfl nn
    | bl b =>
      have hx : v = .bl b := hx
      subst hx
      refine iteT ?_
      walk_at "t"
      exact q
    | str z =>
      have hx : v = .str z := hx
      subst hx
      refine iteF ?_
      walk_at "t"
      refine g_isiStr hk.kn ?_
      walk_at "t"
      refine iteT ?_
      walk_at "t"
      refine ⟨z, rfl, ?_⟩
      walk_at "t"
      exact q
    | num m =>
      cases m with
      | i i =>
        have hx : v = .int i := hx.1
        subst hx
        refine iteF ?_
        walk_at "t"
        refine g_isiStr hk.kn ?_
        walk_at "t"
        refine iteF ?_
        walk_at "t"
        refine g_isiInt hk.kn ?_
        walk_at "t"
        refine iteT ?_
        walk_at "t"
        refine g_II ⟨by decide, by decide, by decide⟩ ?_
        walk_at "t"
        refine g_modI (by decide) ?_
        walk_at "t"
        exact g_modI ho q
      | f sg tp p =>
        obtain ⟨⟨a, rfl, hf, ok⟩, _⟩ := hx
        refine iteF ?_
        walk_at "t"
        refine g_isiStr hk.kn ?_
        walk_at "t"
        refine iteF ?_
        walk_at "t"
        refine g_isiInt hk.kn ?_
        walk_at "t"
        refine iteF ?_
        walk_at "t"
        refine g_isiF hk ?_
        walk_at "t"
        refine iteT ?_
        walk_at "t"
        refine ⟨a, sg, tp, p, rfl, hf, ok, ?_⟩
        walk_at "t"
        exact g_modI ho q
    | obj a =>
      obtain ⟨rfl, dx0, fs0, h0⟩ := hx
      obtain ⟨dx, fs, h1, h2⟩ := hn a rfl
      refine iteF ?_
      walk_at "t"
      refine g_isiStr hk.kn ?_
      walk_at "t"
      refine iteF ?_
      walk_at "t"
      refine g_isiInt hk.kn ?_
      walk_at "t"
      refine iteF ?_
      walk_at "t"
      refine g_isiF hk ?_
      walk_at "t"
      refine iteF ?_
      walk_at "t"
      refine g_isi (kn_ins O.own h1).ty (.own _) nat ?_
      walk_at "t"
      refine ⟨a, D, dx, fs, _, rfl, h1, TT.own.cl, TT.n1, h2, ?_⟩
      walk_at "t"
      exact g_modI ho q
/-! best_size -/
def bsG (cs : List Nat) : Nat → Nat × Nat × Nat
  | 0 => (0, 0, 0)
  | p + 1 => if 2 ^ p < 2 * ((bsG cs p).1 + cs.getD p 0) then ((bsG cs p).1 + cs.getD p 0, 2 ^ p, (bsG cs p).1 + cs.getD p 0) else ((bsG cs p).1 + cs.getD p 0, (bsG cs p).2.1, (bsG cs p).2.2)
abbrev s_bestsize : Stmt := top 35
theorem sc_bestsize : FnScope ["counts", "used", "best", "inside", "power", "count"] ["counts"] (defScope s_bestsize) := ⟨rfl, rfl, rfl, by decide +kernel, rfl, by decide +kernel, by decide +kernel⟩
def sp_bestsize : Sp := fun vs H Q _ => ∃ (l : Addr) (cs : List Nat), vs = [.ref l] ∧ H l = some (.lst (cs.map fun (c : Nat) => V.int c)) ∧ cs.length ≤ 100 ∧ RetT H [.int ((bsG cs cs.length).2.1 : Nat), .int ((bsG cs cs.length).2.2 : Nat)] Q
theorem ok_bestsize {f : Addr} {fd : FuncData} (F : FunD K "best_size" "best_size" (defArgs s_bestsize) (defBody s_bestsize) (defScope s_bestsize) [] [] f fd) (B : Blt mg) : FnOk P w K mg base CX0 1 f fd ["counts"] sp_bestsize := by
  refine F.ok sc_bestsize (fun vs H Q E h => ?_) (fun cdv A outer s H vs Q E hr h => ?_)
  · obtain ⟨_, _, rfl, _⟩ := h; rfl
  · obtain ⟨l, cs, rfl, hl, hz, q⟩ := h
    refine ⟨_, PSs.nox (pss_cons (ps_asg (pe_tupN (pa_cons pe_int (pa_cons pe_int (pa_cons pe_int pa_nil)))) (pg_tup rfl (pgs_cons (pg_name (i := 1) sc_bestsize.nd rfl (Or.inl rfl)) (pgs_cons (pg_name (i := 2) sc_bestsize.nd rfl (Or.inl rfl)) (pgs_cons (pg_name (i := 3) sc_bestsize.nd rfl (Or.inl rfl)) pgs_nil)))))
  (pss_cons (ps_for PassesOwn.never rfl (pi_enum (by rfl) B.enumerate (pa_cons (pv 0) pa_nil)) (pg_tup rfl (pgs_cons (pg_name (i := 4) sc_bestsize.nd rfl (Or.inl rfl)) (pgs_cons (pg_name (i := 5) sc_bestsize.nd rfl (Or.inl rfl)) pgs_nil)))
    (pss_cons (ps_aug (i := 1) sc_bestsize.nd rfl (.inl rfl) (pv 5) ip_add)
  (pss_one (ps_if (pt_cmpR op_oGt (pe_op op_oMul pe_int (pv 1)) (pe_op op_oShl pe_int (pv 4)) (nomark _)) (pss_one (ps_par (i := 2) (j := 3) rfl sc_bestsize.nd rfl rfl (by decide) rfl rfl (pa_cons (pe_op op_oShl pe_int (pv 4)) (pa_cons (pv 1) pa_nil)) (by rfl))) pss_nil))))
  (pss_one (ps_ret (pe_tupN (pa_cons (pv 2) (pa_cons (pv 3) pa_nil))))))), ?_⟩
    walk_at "t"
    refine g_new (sz rfl) fun p0 H0 n0 s0 h0 _ => ?_
    refine ⟨p0, _, rfl, SqT.of h0, rfl, ?_⟩
    have hl := s0 _ _ hl
    have q : RetT H0 [.int ((bsG cs cs.length).2.1 : Nat), .int ((bsG cs cs.length).2.2 : Nat)] Q := fun H1 a n1 s1 h1 => q _ _ (s0.free n1) (s0.trans s1) h1
    clear n0 h0 s0
    walk_at "t"
    refine ⟨l, _, rfl, SqL.of hl, ?_⟩
    refine for_enum (K := K) (a := l) (xs := cs.map fun (c : Nat) => V.int c) (fun i σ' H' => Same H0 H' ∧ ∃ e1 e2, σ' = [some (.ref l), some (.int ((bsG cs i).1 : Nat)), some (.int ((bsG cs i).2.1 : Nat)), some (.int ((bsG cs i).2.2 : Nat)), e1, e2]) ⟨Same.refl _, _, _, rfl⟩ ?_ ?_ ?_
    · rintro i _ H' _ ⟨s1, _⟩
      exact SqL.of (s1 _ _ hl)
    · rintro i z _ H1 t hz2 ⟨s1, e1, e2, rfl⟩ ht
      have hi : i < cs.length := by
        by_cases y : i < cs.length
        · exact y
        · rw [List.getElem?_eq_none (by simp; omega)] at hz2; cases hz2
      have ec : z = .int ((cs.getD i 0 : Nat) : Int) := by
        rw [List.getElem?_map, List.getElem?_eq_getElem hi] at hz2
        have e : cs.getD i 0 = cs[i] := by rw [List.getD_eq_getElem?_getD, List.getElem?_eq_getElem hi]; rfl
        rw [e]
        exact (Option.some.inj hz2).symm
      subst ec
      have s2 : Same H1 (upd H1 t (.tup [.int (i : Nat), .int ((cs.getD i 0 : Nat) : Int)])) := fun b u e => by rw [upd_ne (ne_of_none e ht)]; exact e
      walk_at "t"
      refine ⟨t, _, rfl, SqT.of upd_same, rfl, ?_⟩
      walk_at "t"
      refine g_mulI (.of_left (by decide)) ?_
      walk_at "t"
      refine g_II (shl_small (by omega) (by omega) (lt_pow_mono (a := 1) (by decide) (by decide))) ?_
      walk_at "t"
      have eb : bsG cs (i + 1) = if 2 ^ i < 2 * ((bsG cs i).1 + cs.getD i 0) then ((bsG cs i).1 + cs.getD i 0, 2 ^ i, (bsG cs i).1 + cs.getD i 0) else ((bsG cs i).1 + cs.getD i 0, (bsG cs i).2.1, (bsG cs i).2.2) := rfl
      have ep : (1 : Int) * 2 ^ (i : Int).toNat = ((2 ^ i : Nat) : Int) := by rw [Int.one_mul, Int.toNat_natCast, Int.natCast_pow]; rfl
      rw [ep]
      refine g_ite (fun h1 => ?_) fun h1 => ?_
      · walk_at "t"
        refine g_II (shl_small (by omega) (by omega) (lt_pow_mono (a := 1) (by decide) (by decide))) ?_
        walk_at "t"
        rw [ep]
        refine ⟨s1.trans s2, some (.int (i : Nat)), some (.int ((cs.getD i 0 : Nat) : Int)), ?_⟩
        rw [eb, if_pos (by omega)]
        simp only [List.set_cons_succ, List.set_cons_zero, Int.natCast_add]
      · walk_at "t"
        refine ⟨s1.trans s2, some (.int (i : Nat)), some (.int ((cs.getD i 0 : Nat) : Int)), ?_⟩
        rw [eb, if_neg (by omega)]
        simp only [List.set_cons_succ, List.set_cons_zero, Int.natCast_add]
    · rintro _ H1 ⟨s1, e1, e2, rfl⟩
      rw [List.length_map]
      walk_at "t"
      exact g_new (sz rfl) fun p H2 n2 s2 h2 _ => q _ _ (s1.free n2) (s1.trans s2) h2
/-! Node(key, value, link) -/
abbrev s_Node_init : Stmt := inClass (top 36) 0
theorem sc_Node_init : FnScope ["self", "key", "value", "link"] ["self", "key", "value", "link"] (defScope s_Node_init) := ⟨rfl, rfl, rfl, by decide +kernel, rfl, by decide +kernel, by decide +kernel⟩
def sp_Ninit (N : Addr) : Sp := fun vs H Q _ => ∃ (x dx : Addr) (kv v l : V), vs = [.ref x, kv, v, l] ∧ H x = some (.ins N dx []) ∧ ∀ H', (∀ b o, b ≠ x → H b = some o → H' b = some o) → H' x = some (.ins N dx (ndV kv v l false)) → Q .non H'
theorem ok_Ninit {f : Addr} {fd : FuncData} (F : FunD K "__init__" "Node.__init__" (defArgs s_Node_init) (defBody s_Node_init) (defScope s_Node_init) [] [] f fd) (B : Blt mg) (T : NdC K mg N) : FnOk P w K mg base CX0 1 f fd ["self", "key", "value", "link"] (sp_Ninit N) := by
  refine F.ok sc_Node_init (fun vs H Q E h => ?_) (fun cdv A outer s H vs Q E hr h => ?_)
  · obtain ⟨_, _, _, _, _, rfl, _⟩ := h; rfl
  · obtain ⟨x, dx, kv, v, l, rfl, hx, q⟩ := h
    refine ⟨_, PSs.nox (pss_cons (ps_fld (pv 0) (pv 1) rfl)
  (pss_cons (ps_fld (pv 0) (pv 2) rfl)
  (pss_cons (ps_fld (pv 0) (pv 3) rfl)
  (pss_one (ps_fld (pv 0) pe_bl rfl))))), ?_⟩
    walk_at "t"
    refine ⟨x, N, dx, _, rfl, hx, T.cl, T.n1, by simp, ?_⟩
    walk_at "t"
    refine ⟨x, N, dx, _, rfl, upd_same, T.cl, T.n2, by show 1 < 1000; decide, ?_⟩
    walk_at "t"
    refine ⟨x, N, dx, _, rfl, upd_same, T.cl, T.n3, by show 2 < 1000; decide, ?_⟩
    walk_at "t"
    refine ⟨x, N, dx, _, rfl, upd_same, T.cl, T.n4, by show 3 < 1000; decide, ?_⟩
    walk_at "t"
    refine q _ (fun b o hb e => ?_) ?_
    · rw [upd_ne hb, upd_ne hb, upd_ne hb, upd_ne hb]; exact e
    · exact upd_same
abbrev CnN (P : Program) (w : World) (K : PySem.W.Frag) (mg : Str → Option Value) (base : Heap) (N : Addr) : Prop := Cn P w K mg base CX0 1 "Node" N ["self", "key", "value", "link"] [] (sp_Ninit N)
theorem mkN {H : Hp} {Q : VK} {E : XK} {kv v l : V} (q : ∀ H' a dx, H a = none → Same H H' → H' a = some (.ins N dx (ndV kv v l false)) → Q (.ref a) H') : MakeR N (sp_Ninit N) ([kv, v, l] ++ []) H Q E := by
  intro x dx H1 n1 n2 ne s1 h1 k1
  refine ⟨x, dx, kv, v, l, rfl, h1, fun H2 k2 h2 => ⟨rfl, ?_⟩⟩
  exact q _ _ _ n1 (fun b o e => k2 b o (fun z => by rw [z, n1] at e; cases e) (s1 _ _ e)) h2
/-! Table(number, array, nodes) -/
abbrev s_Table_init : Stmt := inClass (top 37) 0
theorem sc_Table_init : FnScope ["self", "number", "array", "nodes", "meta"] ["self", "number", "array", "nodes", "meta"] (defScope s_Table_init) := ⟨rfl, rfl, rfl, by decide +kernel, rfl, by decide +kernel, by decide +kernel⟩
def sp_Tinit (D : Addr) : Sp := fun vs H Q _ => ∃ (a dx : Addr) (n m : V) (ar nd : Nat), vs = [.ref a, n, .int ar, .int nd, m] ∧ H a = some (.ins D dx []) ∧ ar ≤ 100000 ∧ nd ≤ 100000 ∧ powF nd ≤ 200000 ∧
  ∀ H' la ln, (∀ b o, b ≠ a → H b = some o → H' b = some o) → H la = none → H ln = none → la ≠ ln → H' a = some (.ins D dx (tbF n m la ln (powF nd))) → H' la = some (.lst (List.replicate ar .non)) → H' ln = some (.lst (List.replicate (powF nd) .non)) → Q .non H'
theorem flat_non : ∀ n : Nat, (List.replicate n [V.non]).flatten = List.replicate n V.non
  | 0 => rfl
  | n + 1 => by rw [List.replicate_succ, List.flatten_cons, flat_non n]; rfl
theorem ok_Tinit {f : Addr} {fd : FuncData} (F : FunD K "__init__" "Table.__init__" (defArgs s_Table_init) (defBody s_Table_init) (defScope s_Table_init) [.int 0, .int 0] [("meta", .non)] f fd) (B : Blt mg) (T : TbC K mg D) (c_powerfor : Fn P w K mg base CX0 1 "power_for" ["count"] [] sp_powerfor) :
    FnOk P w K mg base CX0 2 f fd ["self", "number", "array", "nodes", "meta"] (sp_Tinit D) := by
  refine F.ok sc_Table_init (fun vs H Q E h => ?_) (fun cdv A outer s H vs Q E hr h => ?_)
  · obtain ⟨_, _, _, _, _, _, rfl, _⟩ := h; rfl
  · obtain ⟨a, dx, n, m, ar, nd, rfl, ha, har, hnd, hpw, q⟩ := h
    refine ⟨_, PSs.nox (pss_cons (ps_fld (pv 0) (pv 1) rfl)
  (pss_cons (ps_fld (pv 0) (pv 4) rfl)
  (pss_cons (ps_fld (pv 0) (pe_op op_oMul (pe_lstN (pa_cons pe_non pa_nil)) (pv 2)) rfl)
  (pss_cons (ps_fld (pv 0) (pe_op op_oMul (pe_lstN (pa_cons pe_non pa_nil)) (pe_fn c_powerfor (hr.mono (by first | decide | omega)) pass0 (pa_cons (pv 3) pa_nil))) rfl)
  (pss_one (ps_fld (pv 0) (pe_callB call_len_seq (by rfl) B.len (by decide +kernel) (pa_cons (pe_fld (pv 0) rfl) pa_nil)) rfl)))))), ?_⟩
    walk_at "go"
    refine ⟨a, D, dx, _, rfl, ha, T.own.cl, T.n1, Nat.le_of_ble_eq_true rfl, ?_⟩
    walk_at "go"
    refine ⟨a, D, dx, _, rfl, upd_same, T.own.cl, T.n2, Nat.le_of_ble_eq_true rfl, ?_⟩
    rw [upd_upd]
    generalize e1 : upd H a (.ins D dx (putF "meta" m (putF "number" n []))) = H1
    have h1 : H1 a = some (.ins D dx (putF "meta" m (putF "number" n []))) := by rw [← e1]; exact upd_same
    have k1 : ∀ b o, b ≠ a → H b = some o → H1 b = some o := fun b o hb e => by rw [← e1, upd_ne hb]; exact e
    have z1 : ∀ b, H1 b = none → H b = none := fun b e => by
      by_cases hb : b = a
      · rw [hb, h1] at e; cases e
      · rw [← e1, upd_ne hb] at e; exact e
    walk_at "go"
    refine g_new (sz rfl) fun l2 H2 n2 s2 h2 _ => ?_
    walk_at "go"
    refine ⟨_, h2, by omega, by omega, ?_, fun la H3 n3 s3 h3 _ => ?_⟩
    · rw [Int.toNat_natCast]
      exact Nat.le_trans (show 1 * ar ≤ 100000 by omega) (by decide)
    rw [Int.toNat_natCast, flat_non] at h3
    walk_at "go"
    refine ⟨a, D, dx, _, rfl, s3 _ _ (s2 _ _ h1), T.own.cl, T.n3, Nat.le_of_ble_eq_true rfl, ?_⟩
    have nla : la ≠ a := fun z => by rw [z, s2 _ _ h1] at n3; cases n3
    generalize e4 : upd H3 a _ = H4
    have h4 : H4 a = some (.ins D dx (putF "array" (.ref la) (putF "meta" m (putF "number" n [])))) := by rw [← e4]; exact upd_same
    have k4 : ∀ b o, b ≠ a → H3 b = some o → H4 b = some o := fun b o hb e => by rw [← e4, upd_ne hb]; exact e
    walk_at "go"
    refine g_new (sz rfl) fun l5 H5 n5 s5 h5 _ => ?_
    walk_at "go"
    refine ⟨nd, rfl, hnd, ?_⟩
    refine ⟨_, h5, by omega, by omega, ?_, fun ln H6 n6 s6 h6 _ => ?_⟩
    · rw [Int.toNat_natCast]
      exact Nat.le_trans (show 1 * powF nd ≤ 200000 by omega) (by decide)
    rw [Int.toNat_natCast, flat_non] at h6
    walk_at "go"
    refine ⟨a, D, dx, _, rfl, s6 _ _ (s5 _ _ h4), T.own.cl, T.n4, Nat.le_of_ble_eq_true rfl, ?_⟩
    have nlna : ln ≠ a := fun z => by rw [z, s5 _ _ h4] at n6; cases n6
    generalize e7 : upd H6 a _ = H7
    have h7 : H7 a = some (.ins D dx (putF "nodes" (.ref ln) (putF "array" (.ref la) (putF "meta" m (putF "number" n []))))) := by rw [← e7]; exact upd_same
    have k7 : ∀ b o, b ≠ a → H6 b = some o → H7 b = some o := fun b o hb e => by rw [← e7, upd_ne hb]; exact e
    walk_at "go"
    refine ⟨a, D, dx, _, _, rfl, h7, T.own.cl, T.n4, rfl, ?_⟩
    walk_at "go"
    refine g_lenL (k7 _ _ nlna h6) ?_
    walk_at "go"
    refine ⟨a, D, dx, _, rfl, h7, T.own.cl, T.n5, Nat.le_of_ble_eq_true rfl, ?_⟩
    rw [List.length_replicate]
    have h34 := k4 _ _ nla h3
    refine q _ la ln (fun b o hb e => ?_) (z1 _ (s2.free n3)) ?_ ?_ upd_same ?_ ?_
    · rw [upd_ne hb]
      exact k7 _ _ hb (s6 _ _ (s5 _ _ (k4 _ _ hb (s3 _ _ (s2 _ _ (k1 _ _ hb e))))))
    · have x := s5.free n6
      rw [← e4, upd_ne nlna] at x
      exact z1 _ (s2.free (s3.free x))
    · intro z
      rw [← z] at n6
      rw [s5 _ _ h34] at n6
      cases n6
    · rw [upd_ne nla]
      exact k7 _ _ nla (s6 _ _ (s5 _ _ h34))
    · rw [upd_ne nlna]
      exact k7 _ _ nlna h6
end
end Up

set_option Elab.async false
set_option linter.all false
set_option pp.maxSteps 600
set_option maxRecDepth 100000
set_option maxHeartbeats 4000000
set_option exponentiation.threshold 200000
namespace Up
open PySem PySem.Spec PyProof.Rows L2
local macro_rules | `(tactic| walk_at "u") => `(tactic| first
  | with_reducible refine g_seq ?_
  | with_reducible refine g_asg ?_
  | with_reducible refine g_op ?_
  | ((with_reducible show tVar _ _ _ _); apply g_var; exact rfl)
  | with_reducible refine g_c ?_
  | with_reducible refine g_name ?_
  | with_reducible refine g_ifs ?_
  | with_reducible refine g_tt ?_
  | with_reducible refine g_tB ?_
  | with_reducible refine g_bl ?_
  | with_reducible refine g_ret ?_
  | with_reducible refine g_cb ?_
  | with_reducible refine g_cons ?_
  | with_reducible refine g_nil ?_
  | with_reducible refine g_call ?_
  | with_reducible refine g_and ?_
  | with_reducible refine g_or ?_
  | with_reducible refine g_not ?_
  | with_reducible refine g_andV ?_
  | with_reducible refine g_orV ?_
  | with_reducible refine g_notV ?_
  | with_reducible refine g_if ?_
  | with_reducible refine g_un ?_
  | with_reducible refine g_neg ?_
  | with_reducible refine g_addI ?_
  | with_reducible refine g_subI ?_
  | with_reducible refine g_subB ?_
  | with_reducible refine g_I0 ?_
  | with_reducible refine g_cmpI ?_
  | with_reducible refine g_eqI ?_
  | with_reducible refine g_neI ?_
  | with_reducible refine g_eqS ?_
  | with_reducible refine g_neS ?_
  | with_reducible refine g_eqB ?_
  | with_reducible refine g_neB ?_
  | with_reducible refine g_bits ?_
  | with_reducible refine g_bitsI ?_
  | with_reducible refine g_fld ?_
  | with_reducible refine g_tup ?_
  | with_reducible refine g_lst ?_
  | with_reducible refine g_gtup ?_
  | with_reducible refine g_make ?_
  | with_reducible refine g_lc ?_
  | with_reducible refine g_yesT ?_
  | with_reducible refine g_intI ?_
  | with_reducible refine g_intB ?_
  | with_reducible refine g_max2 ?_
  | with_reducible refine g_abs1 ?_
  | with_reducible refine g_for ?_
  | with_reducible refine g_iList ?_
  | with_reducible refine g_iTup ?_
  | with_reducible refine g_iRng1 ?_
  | with_reducible refine g_iEnum ?_
  | with_reducible refine g_slice ?_
  | with_reducible refine g_po0 ?_
  | with_reducible refine g_po1 ?_
  | with_reducible refine g_gsub ?_
  | with_reducible refine g_par ?_
  | with_reducible refine g_par2 ?_
  | with_reducible refine g_rfl ?_
  | with_reducible refine g_meth ?_
  | with_reducible refine g_gcons ?_
  | with_reducible refine g_gnil ?_
  | with_reducible refine g_gfld ?_
  | with_reducible refine g_sfld ?_
  | with_reducible refine g_drop ?_
  | with_reducible refine g_next ?_
  | with_reducible refine iteT ?_
  | with_reducible refine iteF ?_)
local macro_rules | `(tactic| walk_at "go") => `(tactic| (repeat walk_at "u"))
local macro_rules | `(tactic| walk_at "t") => `(tactic| (repeat (first
  | walk_at "u"
  | with_reducible refine g_chain ?_
  | with_reducible refine g_par3 ?_
  | with_reducible refine g_par3' ?_
  | with_reducible refine g_augS ?_
  | with_reducible refine g_nt ?_
  | with_reducible refine g_nf ?_
  | with_reducible refine g_methK ?_
  | with_reducible refine g_makeK ?_
  | with_reducible refine g_iRng2 ?_
  | with_reducible refine g_bm ?_
  | with_reducible refine g_fldaug ?_
  | with_reducible refine g_iStr ?_
  | with_reducible refine g_ipI ?_
  | ((with_reducible show tAug _ _ _ _ _ _); refine ⟨_, rfl, ?_⟩)
  | ((with_reducible refine show_exT ?_); first
    | refine rdT3 (by assumption) (by assumption) ?_
    | refine rdT4 (by assumption) (by assumption) ?_
    | refine rdT5 (by assumption) (by assumption) ?_
    | refine rdT1 (by assumption) (by assumption) ?_
    | refine rdT2 (by assumption) (by assumption) ?_
    | refine rdN1 (by assumption) (by assumption) ?_
    | refine rdN2 (by assumption) (by assumption) ?_
    | refine rdN3 (by assumption) (by assumption) ?_
    | refine rdN4 (by assumption) (by assumption) ?_))))

/-! ### a table in the heap -/
def lkV : Option Nat → V
  | none => .non
  | some i => .int i
def ndFs (x : Nd Ky) : List (Str × V) := ndV x.kv x.val (lkV x.link) x.dead
def NvAt (N : Addr) (H : Hp) (v : V) : Option (Nd Ky) → Prop
  | none => v = .non
  | some x => ∃ a dx, v = .ref a ∧ H a = some (.ins N dx (ndV x.kv x.val (lkV x.link) x.dead))
structure Fp where
  la : Addr
  ln : Addr
  vs : List V
def Fp.In (F : Fp) (a b : Addr) : Prop := b = a ∨ b = F.la ∨ b = F.ln ∨ V.ref b ∈ F.vs
structure TbAt (D N : Addr) (H : Hp) (a : Addr) (num me : V) (F : Fp) (t : Tb Ky) : Prop where
  obj : ∃ dx, H a = some (.ins D dx (tbF num me F.la F.ln t.free))
  arr : H F.la = some (.lst t.arr)
  lst : H F.ln = some (.lst F.vs)
  len : F.vs.length = t.nds.length
  nds : ∀ (i : Nat) (v : V), F.vs[i]? = some v → NvAt N H v (nd t.nds i)
  inj : ∀ (i j : Nat) (b : Addr), F.vs[i]? = some (V.ref b) → F.vs[j]? = some (V.ref b) → i = j
  ne : F.la ≠ F.ln
/-- keys that nodes may have -/
structure Gk (k : Ky) : Prop where
  nn : k.x ≠ .non
  nan : isNanA k.x = false
  pl : plA k.x = k.x
structure TbS (C D N : Addr) (H : Hp) (a : Addr) (num me : V) (F : Fp) (t : Tb Ky) : Prop where
  at_ : TbAt D N H a num me F t
  wf : TW KK t
  keys : ∀ i x, nd t.nds i = some x → KyAt C D H x.kv x.key ∧ Gk x.key
  sa : t.arr.length ≤ 20000
  sn : t.nds.length ≤ 20000
theorem NvAt.same {N : Addr} {H H' : Hp} {v : V} (s : Same H H') : ∀ {o : Option (Nd Ky)}, NvAt N H v o → NvAt N H' v o
  | none, h => h
  | some _, ⟨a, dx, e, h⟩ => ⟨a, dx, e, s _ _ h⟩
section
variable {P : Program} {w : World} {K : PySem.W.Frag} {mg : Str → Option Value} {base : Heap} {C D N : Addr} {H H' : Hp} {a : Addr} {num me : V} {F : Fp} {t : Tb Ky}
theorem TbAt.same (s : Same H H') (h : TbAt D N H a num me F t) : TbAt D N H' a num me F t := by
  obtain ⟨⟨dx, h1⟩, h2, h3, h4, h5, h6, h7⟩ := h
  exact ⟨⟨dx, s _ _ h1⟩, s _ _ h2, s _ _ h3, h4, fun i v e => (h5 i v e).same s, h6, h7⟩
theorem TbS.same (s : Same H H') (h : TbS C D N H a num me F t) : TbS C D N H' a num me F t := ⟨h.at_.same s, h.wf, fun i x e => ⟨(h.keys i x e).1.same s, (h.keys i x e).2⟩, h.sa, h.sn⟩
theorem NvAt.nd {i : Nat} {v : V} (h : TbAt D N H a num me F t) (e : F.vs[i]? = some v) : NvAt N H v (nd t.nds i) := h.nds i v e
theorem TbAt.get (h : TbAt D N H a num me F t) {i : Nat} (hi : i < t.nds.length) : ∃ v, F.vs[i]? = some v ∧ NvAt N H v (Up.nd t.nds i) := by
  have hl : i < F.vs.length := by rw [h.len]; exact hi
  exact ⟨F.vs[i], List.getElem?_eq_getElem hl, h.nds i _ (List.getElem?_eq_getElem hl)⟩
theorem TbAt.getS (h : TbAt D N H a num me F t) {i : Nat} {x : Nd Ky} (e : Up.nd t.nds i = some x) : ∃ b dx, F.vs[i]? = some (V.ref b) ∧ H b = some (.ins N dx (ndV x.kv x.val (lkV x.link) x.dead)) := by
  obtain ⟨v, e1, hv⟩ := h.get (nd_lt e)
  rw [e] at hv
  obtain ⟨b, dx, rfl, hb⟩ := hv
  exact ⟨b, dx, e1, hb⟩
theorem TbAt.getN (h : TbAt D N H a num me F t) {i : Nat} (hi : i < t.nds.length) (e : Up.nd t.nds i = none) : F.vs[i]? = some V.non := by
  obtain ⟨v, e1, hv⟩ := h.get hi
  rw [e] at hv
  have hv : v = .non := hv
  rw [hv] at e1
  exact e1
/-! is_inside -/
abbrev s_Table_isinside : Stmt := inClass (top 37) 3
theorem sc_Table_isinside : FnScope ["self", "key"] ["self", "key"] (defScope s_Table_isinside) := ⟨rfl, rfl, rfl, by decide +kernel, rfl, by decide +kernel, by decide +kernel⟩
def sp_isinside (C D N : Addr) : Sp := fun vs H Q _ => ∃ (a : Addr) (v num me : V) (k : Ky) (F : Fp) (t : Tb Ky), vs = [.ref a, v] ∧ TbAt D N H a num me F t ∧ AnyAt C D H v k.x ∧ t.arr.length ≤ 20000 ∧ Q (.bl (inB KK t.arr.length k)) H
theorem ok_isinside {f : Addr} {fd : FuncData} (F : FunD K "is_inside" "Table.is_inside" (defArgs s_Table_isinside) (defBody s_Table_isinside) (defScope s_Table_isinside) [] [] f fd) (B : Blt mg) (TT : TbC K mg D) (T : FlC K mg C) (O : ObC K C D) (c_iswhole : Fn P w K mg base CX0 1 "is_whole" ["key"] [] (sp_iswhole K)) : FnOk P w K mg base CX0 2 f fd ["self", "key"] (sp_isinside C D N) := by
  refine F.ok sc_Table_isinside (fun vs H Q E h => ?_) (fun cdv A outer s H vs Q E hr h => ?_)
  · obtain ⟨_, _, _, _, _, _, _, rfl, _⟩ := h; rfl
  · obtain ⟨a, v, num, me, k, G, t, rfl, ht, hx, hz, q⟩ := h
    obtain ⟨⟨dx, ho⟩, ha, hl, _⟩ := id ht
    obtain ⟨tt, hk⟩ := hx.kf2 T O
    refine ⟨_, PSs.nox (pss_one (ps_ret (pe_and (pe_fn c_iswhole (hr.mono (by first | decide | omega)) pass0 (pa_cons (pv 1) pa_nil)) (pe_one (pe_chain op_oLe op_oLe pe_int (pv 1) (pe_callB call_len_seq (by rfl) B.len (by decide +kernel) (pa_cons (pe_fld (pv 0) rfl) pa_nil))))))), ?_⟩
    walk_at "t"
    refine ⟨v, tt, rfl, hk.kn, ?_⟩
    walk_at "t"
    rw [hx.isI]
    obtain ⟨x, no⟩ := k
    cases e : whA x with
    | none =>
      have e2 : inB KK t.arr.length ⟨x, no⟩ = false := by
        unfold inB
        show (match whA x with | some i => decide (1 ≤ i) && decide (i ≤ t.arr.length) | none => false) = false
        rw [e]
      rw [e2] at q
      refine iteF ?_
      exact q
    | some i =>
      have e2 : inB KK t.arr.length ⟨x, no⟩ = (decide (1 ≤ i) && decide (i ≤ t.arr.length)) := by
        unfold inB
        show (match whA x with | some i => decide (1 ≤ i) && decide (i ≤ t.arr.length) | none => false) = _
        rw [e]
      rw [e2] at q
      have hv : v = .int i := by
        cases x with
        | num n =>
          cases n with
          | i j => cases e; exact hx.1
          | f _ _ _ => cases e
        | _ => cases e
      subst hv
      refine iteT ?_
      walk_at "t"
      refine g_ite (fun h1 => ?_) fun h1 => ?_
      · rw [decide_eq_true h1, Bool.true_and] at q
        walk_at "t"
        refine g_lenL ha ?_
        walk_at "t"
        exact q
      · rw [decide_eq_false h1, Bool.false_and] at q
        exact q
/-! find -/
abbrev s_Table_find : Stmt := inClass (top 37) 2
theorem sc_Table_find : FnScope ["self", "key", "with_dead", "at", "node"] ["self", "key", "with_dead"] (defScope s_Table_find) := ⟨rfl, rfl, rfl, by decide +kernel, rfl, by decide +kernel, by decide +kernel⟩
def sp_find (C D N : Addr) : Sp := fun vs H Q _ => ∃ (a : Addr) (v num me : V) (wd : Bool) (k : Ky) (F : Fp) (t : Tb Ky), vs = [.ref a, v, .bl wd] ∧ TbS C D N H a num me F t ∧ KyAt C D H v k ∧ k.x ≠ .non ∧
  ∀ H' r, Same H H' → Fd KK (nd t.nds) k wd (st0 KK k t.nds.length) r → (∀ i, r = some i → i < t.nds.length) → Q (lkV r) H'
theorem ok_find {f : Addr} {fd : FuncData} (F : FunD K "find" "Table.find" (defArgs s_Table_find) (defBody s_Table_find) (defScope s_Table_find) [] [] f fd) (B : Blt mg) (TT : TbC K mg D) (TN : NdC K mg N) (c_placeoftables : Fn P w K mg base CX0 3 "place_of_tables" ["key", "size"] [] (sp_placeofT C D)) (c_same : Fn P w K mg base CX0 4 "same" ["one", "other"] [] (sp_same C D)) :
    FnOk P w K mg base CX0 5 f fd ["self", "key", "with_dead"] (sp_find C D N) := by
  refine F.ok sc_Table_find (fun vs H Q E h => ?_) (fun cdv A outer s H vs Q E hr h => ?_)
  · obtain ⟨_, _, _, _, _, _, _, _, rfl, _⟩ := h; rfl
  · obtain ⟨a, v, num, me, wd, k, G, t, rfl, ht, hk, hn, q⟩ := h
    obtain ⟨⟨dx, ho⟩, ha, hl, hlen, _⟩ := id ht.at_
    refine ⟨_, PSs.nox (pss_cons (ps_set (i := 3) sc_Table_find.nd rfl (Or.inl rfl) (pe_cut (pe_ifExp (pt_cmpR (op_neE hr.units) (pe_fld (pv 0) rfl) (pe_lstN pa_nil) (nomark _)) (pe_fn c_placeoftables (hr.mono (by first | decide | omega)) pass0 (pa_cons (pv 1) (pa_cons (pe_callB call_len_seq (by rfl) B.len (by decide +kernel) (pa_cons (pe_fld (pv 0) rfl) pa_nil)) pa_nil))) pe_non)))
  (pss_cons (ps_while PassesOwn.never (PW.pt (pw_and (pt_cmpR op_notN (pv 3) pe_non (nomark _)) (pw_and1 (pt_cmpR op_notN (pe_ix ix_seq (pe_fld (pv 0) rfl) (pv 3) (fun _ _ => rfl)) pe_non (nomark _)))))
    (pss_cons (ps_set (i := 4) sc_Table_find.nd rfl (Or.inl rfl) (pe_ix ix_seq (pe_fld (pv 0) rfl) (pv 3) (fun _ _ => rfl)))
  (pss_cons (ps_if (PW.pt (pw_and (pt_val (pe_fn c_same (hr.mono (by first | decide | omega)) pass0 (pa_cons (pe_fld (pv 4) rfl) (pa_cons (pv 1) pa_nil)))) (pw_and1 (PW.pt (pw_or (pt_val (pv 2)) (pw_or1 (pt_not (pt_val (pe_fld (pv 4) rfl))))))))) (pss_one (ps_ret (pv 3))) pss_nil)
  (pss_one (ps_set (i := 3) sc_Table_find.nd rfl (Or.inl rfl) (pe_fld (pv 4) rfl))))))
  (pss_one (ps_ret pe_non)))), ?_⟩
    walk_at "t"
    refine g_cutE (fun z H' => z = lkV (st0 KK k t.nds.length) ∧ Same H H') ?_ ?_
    · walk_at "t"
      refine g_new (sz rfl) fun p1 H1 n1 s1 h1 _ => ?_
      refine g_neE (s1 _ _ hl) h1 ?_
      walk_at "t"
      have ho1 := s1 _ _ ho
      have hl1 := s1 _ _ hl
      by_cases h0 : t.nds.length = 0
      · have e : G.vs = [] := List.length_eq_zero_iff.mp (hlen.trans h0)
        rw [e]
        refine iteF ?_
        walk_at "t"
        refine ⟨?_, s1⟩
        unfold st0
        rw [if_pos h0]
        rfl
      · have e : G.vs.isEmpty = false := by
          cases e : G.vs with
          | nil => rw [e] at hlen; exact absurd hlen.symm h0
          | cons _ _ => rfl
        rw [e]
        refine iteT ?_
        walk_at "t"
        refine g_lenL hl1 ?_
        walk_at "t"
        rw [hlen]
        refine ⟨v, k, _, rfl, hk.same s1, hn, by omega, ?_⟩
        refine ⟨?_, s1⟩
        unfold st0
        rw [if_neg h0]
        rfl
    · rintro _ H1 ⟨rfl, s1⟩
      walk_at "t"
      obtain ⟨rk, hrk⟩ := ht.wf.rnk
      have hst : ∀ i, st0 KK k t.nds.length = some i → i < t.nds.length := fun i e => by
        unfold st0 at e
        by_cases h0 : t.nds.length = 0
        · rw [if_pos h0] at e; cases e
        · rw [if_neg h0] at e
          have := KK.lt k t.nds.length (by omega)
          cases e
          exact this
      refine g_while (fun m σ' H' => ∃ r e4, σ' = [some (.ref a), some v, some (.bl wd), some (lkV r), e4] ∧ Same H H' ∧ (∀ i, r = some i → i < t.nds.length) ∧ (∀ r', Fd KK (nd t.nds) k wd r r' → Fd KK (nd t.nds) k wd (st0 KK k t.nds.length) r') ∧ m = (match r with | none => 0 | some i => rk i + 1)) _ ⟨_, _, rfl, s1, hst, fun _ z => z, rfl⟩ ?_
      rintro m _ H2 ⟨r, e4, rfl, s2, hr, hf, rfl⟩
      have ho2 := s2 _ _ ho
      have hl2 := s2 _ _ hl
      have ht2 := ht.same s2
      walk_at "t"
      cases r with
      | none =>
        refine g_iten (fun z => absurd rfl z) fun _ => ?_
        refine iteF ?_
        walk_at "t"
        exact q H2 none s2 (hf _ .non) (fun _ z => nomatch z)
      | some i =>
        have hi := hr i rfl
        refine g_iten (fun _ => ?_) fun z => nomatch z
        walk_at "t"
        obtain ⟨y, ey, hy⟩ := ht2.at_.get hi
        refine g_ixL hl2 (atI_of (by omega) (by rw [Int.toNat_natCast]; exact ey)) ?_
        walk_at "t"
        cases en : nd t.nds i with
        | none =>
          rw [en] at hy
          have hy : y = .non := hy
          subst hy
          refine g_iten (fun z => absurd rfl z) fun _ => ?_
          walk_at "t"
          exact q H2 none s2 (hf _ (.emp en)) (fun _ z => nomatch z)
        | some x =>
          rw [en] at hy
          obtain ⟨b, dxb, rfl, hb⟩ := hy
          obtain ⟨kx, gx⟩ := ht2.keys i x en
          refine g_iten (fun _ => ?_) fun z => nomatch z
          refine g_wbody ?_
          walk_at "t"
          refine g_ixL hl2 (atI_of (by omega) (by rw [Int.toNat_natCast]; exact ey)) ?_
          walk_at "t"
          refine ⟨_, _, _, _, rfl, kx.1, (hk.same s2).1, fun H3 s3 => ?_⟩
          have ho3 := s3 _ _ ho2
          have hb3 := s3 _ _ hb
          walk_at "t"
          have esm : sameA x.key.x k.x = KK.sm x.key k := rfl
          rw [esm]
          have stay : (KK.sm x.key k && (wd || !x.dead)) = false → ∃ m', m' < rk i + 1 ∧ ∃ r e4', [some (.ref a), some v, some (.bl wd), some (lkV x.link), some (V.ref b)] = [some (.ref a), some v, some (.bl wd), some (lkV r), e4'] ∧ Same H H3 ∧ (∀ i, r = some i → i < t.nds.length) ∧ (∀ r', Fd KK (nd t.nds) k wd r r' → Fd KK (nd t.nds) k wd (st0 KK k t.nds.length) r') ∧ m' = (match r with | none => 0 | some i => rk i + 1) := by
            intro hb
            refine ⟨_, ?_, x.link, some (.ref b), rfl, s2.trans s3, ?_, fun r' f => hf _ (.go en hb f), rfl⟩
            · cases el : x.link with
              | none => show 0 < rk i + 1; omega
              | some j =>
                show rk j + 1 < rk i + 1
                have := hrk i j ⟨x, en, el⟩
                omega
            · intro j ej
              obtain ⟨z, ez⟩ := ht.wf.val i j ⟨x, en, ej⟩
              exact nd_lt ez
          refine g_iteb (fun h1 => ?_) fun h1 => ?_
          · walk_at "t"
            refine g_iteb (fun h2 => ?_) fun h2 => ?_
            · walk_at "t"
              exact q H3 (some i) (s2.trans s3) (hf _ (.hit en (by rw [h1, h2]; rfl))) (fun j e => by cases e; exact hi)
            · walk_at "t"
              refine g_iteb (fun h3 => ?_) fun h3 => ?_
              · walk_at "t"
                exact q H3 (some i) (s2.trans s3) (hf _ (.hit en (by rw [h1, h2, h3]; rfl))) (fun j e => by cases e; exact hi)
              · walk_at "t"
                exact stay (by rw [h1, h2, h3]; rfl)
          · walk_at "t"
            exact stay (by rw [h1]; rfl)
end
end Up

set_option Elab.async false
set_option linter.all false
set_option pp.maxSteps 600
set_option maxRecDepth 100000
set_option maxHeartbeats 4000000
set_option exponentiation.threshold 200000
namespace Up
open PySem PySem.Spec PyProof.Rows L2
local macro_rules | `(tactic| walk_at "u") => `(tactic| first
  | with_reducible refine g_seq ?_
  | with_reducible refine g_asg ?_
  | with_reducible refine g_op ?_
  | ((with_reducible show tVar _ _ _ _); apply g_var; exact rfl)
  | with_reducible refine g_c ?_
  | with_reducible refine g_name ?_
  | with_reducible refine g_ifs ?_
  | with_reducible refine g_tt ?_
  | with_reducible refine g_tB ?_
  | with_reducible refine g_bl ?_
  | with_reducible refine g_ret ?_
  | with_reducible refine g_cb ?_
  | with_reducible refine g_cons ?_
  | with_reducible refine g_nil ?_
  | with_reducible refine g_call ?_
  | with_reducible refine g_and ?_
  | with_reducible refine g_or ?_
  | with_reducible refine g_not ?_
  | with_reducible refine g_andV ?_
  | with_reducible refine g_orV ?_
  | with_reducible refine g_notV ?_
  | with_reducible refine g_if ?_
  | with_reducible refine g_un ?_
  | with_reducible refine g_neg ?_
  | with_reducible refine g_addI ?_
  | with_reducible refine g_subI ?_
  | with_reducible refine g_subB ?_
  | with_reducible refine g_I0 ?_
  | with_reducible refine g_cmpI ?_
  | with_reducible refine g_eqI ?_
  | with_reducible refine g_neI ?_
  | with_reducible refine g_eqS ?_
  | with_reducible refine g_neS ?_
  | with_reducible refine g_eqB ?_
  | with_reducible refine g_neB ?_
  | with_reducible refine g_bits ?_
  | with_reducible refine g_bitsI ?_
  | with_reducible refine g_fld ?_
  | with_reducible refine g_tup ?_
  | with_reducible refine g_lst ?_
  | with_reducible refine g_gtup ?_
  | with_reducible refine g_make ?_
  | with_reducible refine g_lc ?_
  | with_reducible refine g_yesT ?_
  | with_reducible refine g_intI ?_
  | with_reducible refine g_intB ?_
  | with_reducible refine g_max2 ?_
  | with_reducible refine g_abs1 ?_
  | with_reducible refine g_for ?_
  | with_reducible refine g_iList ?_
  | with_reducible refine g_iTup ?_
  | with_reducible refine g_iRng1 ?_
  | with_reducible refine g_iEnum ?_
  | with_reducible refine g_slice ?_
  | with_reducible refine g_po0 ?_
  | with_reducible refine g_po1 ?_
  | with_reducible refine g_gsub ?_
  | with_reducible refine g_par ?_
  | with_reducible refine g_par2 ?_
  | with_reducible refine g_rfl ?_
  | with_reducible refine g_meth ?_
  | with_reducible refine g_gcons ?_
  | with_reducible refine g_gnil ?_
  | with_reducible refine g_gfld ?_
  | with_reducible refine g_sfld ?_
  | with_reducible refine g_drop ?_
  | with_reducible refine g_next ?_
  | with_reducible refine iteT ?_
  | with_reducible refine iteF ?_)
local macro_rules | `(tactic| walk_at "go") => `(tactic| (repeat walk_at "u"))
local macro_rules | `(tactic| walk_at "t") => `(tactic| (repeat (first
  | walk_at "u"
  | with_reducible refine g_chain ?_
  | with_reducible refine g_par3 ?_
  | with_reducible refine g_par3' ?_
  | with_reducible refine g_augS ?_
  | with_reducible refine g_nt ?_
  | with_reducible refine g_nf ?_
  | with_reducible refine g_methK ?_
  | with_reducible refine g_makeK ?_
  | with_reducible refine g_iRng2 ?_
  | with_reducible refine g_bm ?_
  | with_reducible refine g_fldaug ?_
  | with_reducible refine g_iStr ?_
  | with_reducible refine g_ipI ?_
  | ((with_reducible show tAug _ _ _ _ _ _); refine ⟨_, rfl, ?_⟩)
  | ((with_reducible refine show_exT ?_); first
    | refine rdT3 (by assumption) (by assumption) ?_
    | refine rdT4 (by assumption) (by assumption) ?_
    | refine rdT5 (by assumption) (by assumption) ?_
    | refine rdT1 (by assumption) (by assumption) ?_
    | refine rdT2 (by assumption) (by assumption) ?_
    | refine rdN1 (by assumption) (by assumption) ?_
    | refine rdN2 (by assumption) (by assumption) ?_
    | refine rdN3 (by assumption) (by assumption) ?_
    | refine rdN4 (by assumption) (by assumption) ?_))))

structure Cl3 (C D N : Addr) : Prop where
  cd : C ≠ D
  cn : C ≠ N
  dn : D ≠ N
/-- what a deed at a table leaves -/
def Frm (a : Addr) (F : Fp) (H H' : Hp) : Prop := ∀ b o, ¬ F.In a b → H b = some o → H' b = some o
def Fsh (a : Addr) (F F' : Fp) (H : Hp) : Prop := ∀ b, F'.In a b → F.In a b ∨ H b = none
theorem Frm.refl {a : Addr} {F : Fp} {H : Hp} : Frm a F H H := fun _ _ _ e => e
theorem Fsh.refl {a : Addr} {F : Fp} {H : Hp} : Fsh a F F H := fun _ h => .inl h
theorem Frm.of_same {a : Addr} {F : Fp} {H H' : Hp} (s : Same H H') : Frm a F H H' := fun _ _ _ e => s _ _ e
theorem Frm.trans {a : Addr} {F F' : Fp} {H H1 H2 : Hp} (h1 : Frm a F H H1) (f : Fsh a F F' H) (h2 : Frm a F' H1 H2) : Frm a F H H2 := fun b o hb e => by
  refine h2 b o (fun z => ?_) (h1 b o hb e)
  rcases f b z with z | z
  · exact hb z
  · rw [z] at e; cases e
theorem Fsh.trans {a : Addr} {F F1 F2 : Fp} {H H1 : Hp} (f1 : Fsh a F F1 H) (h1 : Frm a F H H1) (f2 : Fsh a F1 F2 H1) : Fsh a F F2 H := fun b hb => by
  rcases f2 b hb with z | z
  · exact f1 b z
  · by_cases hi : F.In a b
    · exact .inl hi
    · refine .inr ?_
      cases e : H b with
      | none => rfl
      | some o => rw [h1 b o hi e] at z; cases z
section
variable {P : Program} {w : World} {K : PySem.W.Frag} {mg : Str → Option Value} {base : Heap} {C D N : Addr} {H H' : Hp} {a : Addr} {num me : V} {F : Fp} {t : Tb Ky}
theorem TbAt.inN (h : TbAt D N H a num me F t) {b : Addr} (hb : V.ref b ∈ F.vs) : ∃ i x dx, F.vs[i]? = some (.ref b) ∧ nd t.nds i = some x ∧ H b = some (.ins N dx (ndV x.kv x.val (lkV x.link) x.dead)) := by
  obtain ⟨i, hi, e⟩ := List.getElem_of_mem hb
  have e1 : F.vs[i]? = some (.ref b) := by rw [List.getElem?_eq_getElem hi, e]
  have hv := h.nds i _ e1
  cases en : nd t.nds i with
  | none => rw [en] at hv; cases hv
  | some x =>
    rw [en] at hv
    obtain ⟨c, dx, ec, hc⟩ := hv
    cases ec
    exact ⟨i, x, dx, e1, en, hc⟩
theorem TbAt.inS (h : TbAt D N H a num me F t) {b : Addr} (hb : F.In a b) : ∃ o, H b = some o := by
  rcases hb with rfl | rfl | rfl | hb
  · obtain ⟨dx, e⟩ := h.obj; exact ⟨_, e⟩
  · exact ⟨_, h.arr⟩
  · exact ⟨_, h.lst⟩
  · obtain ⟨i, x, dx, _, _, e⟩ := h.inN hb; exact ⟨_, e⟩
theorem TbAt.out_fresh (h : TbAt D N H a num me F t) {b : Addr} (hb : H b = none) : ¬ F.In a b := fun z => by
  obtain ⟨o, e⟩ := h.inS z
  rw [hb] at e; cases e
/-- an object of another kind is none of the table's -/
theorem TbAt.out (h : TbAt D N H a num me F t) {b c dx : Addr} {fs : List (Str × V)} (hb : H b = some (.ins c dx fs)) (hN : c ≠ N) (ha : b ≠ a) : ¬ F.In a b := by
  rintro (z | rfl | rfl | z)
  · exact ha z
  · rw [h.arr] at hb; cases hb
  · rw [h.lst] at hb; cases hb
  · obtain ⟨i, x, dx, _, _, e⟩ := h.inN z
    rw [e] at hb
    injection hb with hb
    injection hb with h1 h2
    exact hN h1.symm
theorem KyAt.frm (L : Cl3 C D N) (h : TbAt D N H a num me F t) {F' : Fp} {t' : Tb Ky} (h' : TbAt D N H' a num me F' t') (fr : Frm a F H H') {v : V} {k : Ky} (hk : KyAt C D H v k) : KyAt C D H' v k := by
  obtain ⟨dx, ho⟩ := h.obj
  obtain ⟨dx', ho'⟩ := h'.obj
  obtain ⟨x, no⟩ := k
  obtain ⟨h1, h2⟩ := hk
  have tab : ∀ b dx1 fs, H b = some (.ins D dx1 fs) → ∃ dx2 fs2, H' b = some (.ins D dx2 fs2) ∧ fs2.lookup ("number" : Str) = fs.lookup ("number" : Str) := fun b dx1 fs e => by
    by_cases hb : b = a
    · subst hb
      rw [ho] at e
      injection e with e
      injection e with e1 e2 e3
      exact ⟨dx', _, ho', by rw [← e3]; rfl⟩
    · exact ⟨dx1, fs, fr _ _ (h.out e L.dn hb) e, rfl⟩
  constructor
  · cases x with
    | num n =>
      cases n with
      | i j => exact h1
      | f s tt p =>
        obtain ⟨⟨b, rfl, ⟨dx1, hf⟩, ok⟩, o⟩ := h1
        have hb : b ≠ a := fun z => by
          rw [z, ho] at hf
          injection hf with hf
          injection hf with e1
          exact L.cd e1.symm
        exact ⟨⟨b, rfl, ⟨dx1, fr _ _ (h.out hf L.cn hb) hf⟩, ok⟩, o⟩
    | obj b =>
      obtain ⟨e, dx1, fs, hb⟩ := h1
      obtain ⟨dx2, fs2, e2, _⟩ := tab _ _ _ hb
      exact ⟨e, dx2, fs2, e2⟩
    | non => exact h1
    | bl _ => exact h1
    | str _ => exact h1
  · intro b e
    obtain ⟨dx1, fs, e1, e2⟩ := h2 b e
    obtain ⟨dx2, fs2, e3, e4⟩ := tab _ _ _ e1
    exact ⟨dx2, fs2, e3, by rw [e4]; exact e2⟩
/-- only the object at a is another one: the free pointer -/
theorem TbAt.setFree (h : TbAt D N H a num me F t) (L : Cl3 C D N) {dx : Addr} {m : Nat} (ho : H' a = some (.ins D dx (tbF num me F.la F.ln m))) (hs : ∀ b, b ≠ a → H' b = H b) : TbAt D N H' a num me F { t with free := m } := by
  obtain ⟨⟨dx0, h1⟩, h2, h3, h4, h5, h6, h7⟩ := h
  have ne1 : F.la ≠ a := fun z => by rw [z, h1] at h2; cases h2
  have ne2 : F.ln ≠ a := fun z => by rw [z, h1] at h3; cases h3
  refine ⟨⟨dx, ho⟩, by rw [hs _ ne1]; exact h2, by rw [hs _ ne2]; exact h3, h4, fun i v e => ?_, h6, h7⟩
  have := h5 i v e
  show NvAt N H' v (nd t.nds i)
  cases en : nd t.nds i with
  | none => rw [en] at this; exact this
  | some x =>
    rw [en] at this
    obtain ⟨b, dxb, rfl, hb⟩ := this
    refine ⟨b, dxb, rfl, ?_⟩
    rw [hs _ (fun z => by
      rw [z, h1] at hb
      injection hb with hb
      injection hb with e1
      exact L.dn e1)]
    exact hb
/-- a place of the array -/
theorem TbAt.setArr (h : TbAt D N H a num me F t) {l : List V} (ho : H' F.la = some (.lst l)) (hs : ∀ b, b ≠ F.la → H' b = H b) : TbAt D N H' a num me F { t with arr := l } := by
  obtain ⟨⟨dx0, h1⟩, h2, h3, h4, h5, h6, h7⟩ := h
  have ne1 : a ≠ F.la := fun z => by rw [z, h2] at h1; cases h1
  refine ⟨⟨dx0, by rw [hs _ ne1]; exact h1⟩, ho, by rw [hs _ (fun z => h7 z.symm)]; exact h3, h4, fun i v e => ?_, h6, h7⟩
  have := h5 i v e
  show NvAt N H' v (nd t.nds i)
  cases en : nd t.nds i with
  | none => rw [en] at this; exact this
  | some x =>
    rw [en] at this
    obtain ⟨b, dxb, rfl, hb⟩ := this
    refine ⟨b, dxb, rfl, ?_⟩
    rw [hs _ (fun z => by rw [z, h2] at hb; cases hb)]
    exact hb
/-- a node in its place -/
theorem TbAt.setNode (h : TbAt D N H a num me F t) (L : Cl3 C D N) {i : Nat} {b dx : Addr} {x : Nd Ky} (hv : F.vs[i]? = some (V.ref b)) (hi : i < t.nds.length) (ho : H' b = some (.ins N dx (ndV x.kv x.val (lkV x.link) x.dead))) (hs : ∀ c, c ≠ b → H' c = H c) :
    TbAt D N H' a num me F { t with nds := t.nds.set i (some x) } := by
  obtain ⟨j, y, dxy, ej, en, hb⟩ := h.inN (List.mem_of_getElem? hv)
  obtain ⟨⟨dx0, h1⟩, h2, h3, h4, h5, h6, h7⟩ := h
  have ne0 : a ≠ b := fun z => by
    rw [z, hb] at h1
    injection h1 with h1
    injection h1 with e1
    exact L.dn e1.symm
  have ne1 : F.la ≠ b := fun z => by rw [z, hb] at h2; cases h2
  have ne2 : F.ln ≠ b := fun z => by rw [z, hb] at h3; cases h3
  refine ⟨⟨dx0, by rw [hs _ ne0]; exact h1⟩, by rw [hs _ ne1]; exact h2, by rw [hs _ ne2]; exact h3, by rw [h4]; simp, fun k v e => ?_, h6, h7⟩
  show NvAt N H' v (nd (t.nds.set i (some x)) k)
  rw [nd_set hi]
  by_cases hk : k = i
  · subst hk
    rw [fu_same]
    rw [hv] at e
    cases e
    exact ⟨b, dx, rfl, ho⟩
  · rw [fu_ne hk]
    have := h5 k v e
    cases en : nd t.nds k with
    | none => rw [en] at this; exact this
    | some z =>
      rw [en] at this
      obtain ⟨c, dxc, rfl, hc⟩ := this
      refine ⟨c, dxc, rfl, ?_⟩
      rw [hs _ (fun z => hk (h6 _ _ _ e (by rw [z]; exact hv)))]
      exact hc
/-- a new node at a place -/
theorem TbAt.setNew (h : TbAt D N H a num me F t) {H1 : Hp} {i : Nat} {b dx : Addr} {x : Nd Ky} (hi : i < t.nds.length) (nb : H b = none) (s1 : Same H H1) (ho : H1 b = some (.ins N dx (ndV x.kv x.val (lkV x.link) x.dead)))
    (hl : H' F.ln = some (.lst (F.vs.set i (.ref b)))) (hs : ∀ c, c ≠ F.ln → H' c = H1 c) : TbAt D N H' a num me { F with vs := F.vs.set i (.ref b) } { t with nds := t.nds.set i (some x) } := by
  have hin := fun c (hc : V.ref c ∈ F.vs) => h.inN hc
  obtain ⟨⟨dx0, h1⟩, h2, h3, h4, h5, h6, h7⟩ := h
  have ne0 : a ≠ F.ln := fun z => by rw [z, h3] at h1; cases h1
  have nbl : b ≠ F.ln := fun z => by rw [z, h3] at nb; cases nb
  have hil : i < F.vs.length := by rw [h4]; exact hi
  refine ⟨⟨dx0, by rw [hs _ ne0]; exact s1 _ _ h1⟩, by rw [hs _ h7]; exact s1 _ _ h2, hl, by simp [h4], fun k v e => ?_, fun k j c e1 e2 => ?_, h7⟩
  · show NvAt N H' v (nd (t.nds.set i (some x)) k)
    rw [nd_set hi]
    have e : (F.vs.set i (.ref b))[k]? = some v := e
    rw [List.getElem?_set] at e
    by_cases hk : k = i
    · subst hk
      rw [fu_same]
      rw [if_pos rfl, if_pos hil] at e
      cases e
      exact ⟨b, dx, rfl, by rw [hs _ nbl]; exact ho⟩
    · rw [fu_ne hk]
      rw [if_neg (fun z => hk z.symm)] at e
      have := h5 k v e
      cases en : nd t.nds k with
      | none => rw [en] at this; exact this
      | some z =>
        rw [en] at this
        obtain ⟨c, dxc, rfl, hc⟩ := this
        refine ⟨c, dxc, rfl, ?_⟩
        rw [hs _ (fun z => by rw [z, h3] at hc; cases hc)]
        exact s1 _ _ hc
  · have e1 : (F.vs.set i (.ref b))[k]? = some (.ref c) := e1
    have e2 : (F.vs.set i (.ref b))[j]? = some (.ref c) := e2
    rw [List.getElem?_set] at e1 e2
    by_cases hk : i = k
    · by_cases hj : i = j
      · exact hk.symm.trans hj
      · rw [if_pos hk, if_pos hil] at e1
        cases e1
        rw [if_neg hj] at e2
        obtain ⟨_, _, _, _, _, hc⟩ := hin _ (List.mem_of_getElem? e2)
        rw [nb] at hc; cases hc
    · rw [if_neg hk] at e1
      by_cases hj : i = j
      · rw [if_pos hj, if_pos hil] at e2
        cases e2
        obtain ⟨_, _, _, _, _, hc⟩ := hin _ (List.mem_of_getElem? e1)
        rw [nb] at hc; cases hc
      · rw [if_neg hj] at e2
        exact h6 _ _ _ e1 e2
/-- the node at i goes to f, a new one comes to i -/
theorem TbAt.setMove (h : TbAt D N H a num me F t) {H1 : Hp} {i f : Nat} {b c dx : Addr} {x y : Nd Ky} (hv : F.vs[i]? = some (V.ref c)) (hy : nd t.nds i = some y) (hf : f < t.nds.length) (nf : nd t.nds f = none) (nb : H b = none) (s1 : Same H H1)
    (ho : H1 b = some (.ins N dx (ndV x.kv x.val (lkV x.link) x.dead))) (hl : H' F.ln = some (.lst ((F.vs.set f (.ref c)).set i (.ref b)))) (hs : ∀ d, d ≠ F.ln → H' d = H1 d) :
    TbAt D N H' a num me { F with vs := (F.vs.set f (.ref c)).set i (.ref b) } { t with nds := (t.nds.set f (some y)).set i (some x) } := by
  have hin := fun c (hc : V.ref c ∈ F.vs) => h.inN hc
  have hi := nd_lt hy
  have hif : i ≠ f := fun z => by rw [z, nf] at hy; cases hy
  have hvf := h.getN hf nf
  obtain ⟨⟨dx0, h1⟩, h2, h3, h4, h5, h6, h7⟩ := h
  have ne0 : a ≠ F.ln := fun z => by rw [z, h3] at h1; cases h1
  have nbl : b ≠ F.ln := fun z => by rw [z, h3] at nb; cases nb
  have hil : i < F.vs.length := by rw [h4]; exact hi
  have hfl : f < F.vs.length := by rw [h4]; exact hf
  have ne_b : ∀ d, V.ref d ∈ F.vs → d ≠ b := fun d hd z => by
    obtain ⟨_, _, _, _, _, hc⟩ := hin _ hd
    rw [z, nb] at hc; cases hc
  have ne_l : ∀ d, V.ref d ∈ F.vs → d ≠ F.ln := fun d hd z => by
    obtain ⟨_, _, _, _, _, hc⟩ := hin _ hd
    rw [z, h3] at hc; cases hc
  -- the items
  have it : ∀ k v, ((F.vs.set f (.ref c)).set i (.ref b))[k]? = some v → (k = i ∧ v = .ref b) ∨ (k ≠ i ∧ k = f ∧ v = .ref c) ∨ (k ≠ i ∧ k ≠ f ∧ F.vs[k]? = some v) := fun k v e => by
    rw [List.getElem?_set] at e
    by_cases hk : i = k
    · rw [if_pos hk, if_pos (by rw [List.length_set]; exact hil)] at e
      cases e
      exact .inl ⟨hk.symm, rfl⟩
    · rw [if_neg hk, List.getElem?_set] at e
      by_cases hk2 : f = k
      · rw [if_pos hk2, if_pos hfl] at e
        cases e
        exact .inr (.inl ⟨fun z => hk z.symm, hk2.symm, rfl⟩)
      · rw [if_neg hk2] at e
        exact .inr (.inr ⟨fun z => hk z.symm, fun z => hk2 z.symm, e⟩)
  refine ⟨⟨dx0, by rw [hs _ ne0]; exact s1 _ _ h1⟩, by rw [hs _ h7]; exact s1 _ _ h2, hl, by simp [h4], fun k v e => ?_, fun k j d e1 e2 => ?_, h7⟩
  · show NvAt N H' v (nd ((t.nds.set f (some y)).set i (some x)) k)
    rw [nd_set (by rw [List.length_set]; exact hi), nd_set hf]
    rcases it k v e with ⟨rfl, rfl⟩ | ⟨hk, rfl, rfl⟩ | ⟨hk, hk2, e⟩
    · rw [fu_same]
      exact ⟨b, dx, rfl, by rw [hs _ nbl]; exact ho⟩
    · rw [fu_ne hk, fu_same]
      have := h5 i _ hv
      rw [hy] at this
      obtain ⟨c', dxc, ec, hc⟩ := this
      cases ec
      refine ⟨c, dxc, rfl, ?_⟩
      rw [hs _ (ne_l _ (List.mem_of_getElem? hv))]
      exact s1 _ _ hc
    · rw [fu_ne hk, fu_ne hk2]
      have := h5 k v e
      cases en : nd t.nds k with
      | none => rw [en] at this; exact this
      | some z =>
        rw [en] at this
        obtain ⟨d, dxc, rfl, hc⟩ := this
        refine ⟨d, dxc, rfl, ?_⟩
        rw [hs _ (ne_l _ (List.mem_of_getElem? e))]
        exact s1 _ _ hc
  · rcases it _ _ e1 with ⟨z1, z2⟩ | ⟨z0, z1, z2⟩ | ⟨z0, z1, z2⟩ <;> rcases it _ _ e2 with ⟨y1, y2⟩ | ⟨y0, y1, y2⟩ | ⟨y0, y1, y2⟩
    · exact z1.trans y1.symm
    · rw [z2] at y2; injection y2 with y2; exact absurd y2.symm (ne_b _ (List.mem_of_getElem? hv))
    · injection z2 with z2; exact absurd z2 (ne_b _ (List.mem_of_getElem? y2))
    · rw [z2] at y2; injection y2 with y2; exact absurd y2 (ne_b _ (List.mem_of_getElem? hv))
    · exact z1.trans y1.symm
    · rw [z2] at y2; exact absurd (h6 _ _ _ y2 hv) y0
    · injection y2 with y2; exact absurd y2 (ne_b _ (List.mem_of_getElem? z2))
    · rw [y2] at z2; exact absurd (h6 _ _ _ z2 hv) z0
    · exact h6 _ _ _ z2 y2
/-! free_place -/
abbrev s_Table_freeplace : Stmt := inClass (top 37) 8
theorem sc_Table_freeplace : FnScope ["self"] ["self"] (defScope s_Table_freeplace) := ⟨rfl, rfl, rfl, by decide +kernel, rfl, by decide +kernel, by decide +kernel⟩
def sp_freeplace (D N : Addr) : Sp := fun vs H Q _ => ∃ (a : Addr) (num me : V) (F : Fp) (t : Tb Ky), vs = [.ref a] ∧ TbAt D N H a num me F t ∧ t.free ≤ t.nds.length ∧
  (∀ f H', FreeAt (nd t.nds) t.nds.length t.free f → (∀ b, b ≠ a → H' b = H b) → TbAt D N H' a num me F { t with free := f } → Q (.int f) H') ∧
  (∀ H', (∀ i, i < t.free → ∃ y, nd t.nds i = some y) → (∀ b, b ≠ a → H' b = H b) → TbAt D N H' a num me F { t with free := 0 } → Q .non H')
theorem ok_freeplace {f : Addr} {fd : FuncData} (F : FunD K "free_place" "Table.free_place" (defArgs s_Table_freeplace) (defBody s_Table_freeplace) (defScope s_Table_freeplace) [] [] f fd) (B : Blt mg) (L : Cl3 C D N) (TT : TbC K mg D) : FnOk P w K mg base CX0 1 f fd ["self"] (sp_freeplace D N) := by
  refine F.ok sc_Table_freeplace (fun vs H Q E h => ?_) (fun cdv A outer s H vs Q E hr h => ?_)
  · obtain ⟨_, _, _, _, _, rfl, _⟩ := h; rfl
  · obtain ⟨a, num, me, G, t, rfl, ht, hfn, q1, q2⟩ := h
    refine ⟨_, PSs.nox (pss_cons (ps_while PassesOwn.never (pt_cmpR op_oGt (pe_fld (pv 0) rfl) pe_int (nomark _))
    (pss_cons (ps_fldaug (pv 0) pe_int in_sub)
  (pss_one (ps_if (pt_cmpR op_isN (pe_ix ix_seq (pe_fld (pv 0) rfl) (pe_fld (pv 0) rfl) (fun _ _ => rfl)) pe_non (nomark _)) (pss_one (ps_ret (pe_fld (pv 0) rfl))) pss_nil))))
  (pss_one (ps_ret pe_non))), ?_⟩
    walk_at "t"
    refine g_while (fun m σ' H' => σ' = [some (.ref a)] ∧ m ≤ t.free ∧ TbAt D N H' a num me G { t with free := m } ∧ (∀ b, b ≠ a → H' b = H b) ∧ ∀ i, m ≤ i → i < t.free → ∃ y, nd t.nds i = some y) t.free ⟨rfl, Nat.le_refl _, ht, fun _ _ => rfl, fun i h1 h2 => absurd h1 (by omega)⟩ ?_
    rintro m _ H1 ⟨rfl, hm, ht1, k1, hu⟩
    obtain ⟨⟨dx, ho⟩, ha, hl, _⟩ := id ht1
    walk_at "t"
    refine g_ite (fun h1 => ?_) fun h1 => ?_
    · have h1 : (0 : Int) < (m : Int) := h1
      refine g_wbody ?_
      walk_at "t"
      refine ⟨a, D, dx, _, _, rfl, ho, TT.own.cl, TT.n5, rfl, ?_⟩
      walk_at "t"
      refine ⟨_, _, rfl, rfl, dx, _, ho, by show 5 < 1000; decide, ?_⟩
      have em : ((m : Int) - 1) = ((m - 1 : Nat) : Int) := by omega
      rw [em]
      have ho2 : upd H1 a (.ins D dx (putF "free" (.int ((m - 1 : Nat) : Int)) (tbF num me G.la G.ln m))) a = some (.ins D dx (tbF num me G.la G.ln (m - 1))) := upd_same
      have k2 : ∀ b, b ≠ a → upd H1 a (.ins D dx (putF "free" (.int ((m - 1 : Nat) : Int)) (tbF num me G.la G.ln m))) b = H1 b := fun b hb => upd_ne hb
      generalize upd H1 a (.ins D dx (putF "free" (.int ((m - 1 : Nat) : Int)) (tbF num me G.la G.ln m))) = H2 at ho2 k2 ⊢
      have ht2 : TbAt D N H2 a num me G { t with free := m - 1 } := ht1.setFree L ho2 k2
      have hl2 := ht2.lst
      have kk : ∀ b, b ≠ a → H2 b = H b := fun b hb => (k2 b hb).trans (k1 b hb)
      walk_at "t"
      obtain ⟨y, ey, hy⟩ := ht2.get (i := m - 1) (by show m - 1 < t.nds.length; omega)
      refine g_ixL hl2 (atI_of (by omega) (by rw [Int.toNat_natCast]; exact ey)) ?_
      walk_at "t"
      have hy : NvAt N H2 y (nd t.nds (m - 1)) := hy
      cases en : nd t.nds (m - 1) with
      | none =>
        rw [en] at hy
        have hy : y = .non := hy
        subst hy
        refine g_ite (fun _ => ?_) fun z => absurd rfl z
        walk_at "t"
        exact q1 (m - 1) H2 ⟨by omega, en, fun i h2 h3 => hu i (by omega) h3⟩ kk ht2
      | some x =>
        rw [en] at hy
        obtain ⟨b, dxb, rfl, hb⟩ := hy
        refine g_ite (fun z => nomatch z) fun _ => ?_
        walk_at "t"
        refine ⟨m - 1, by omega, rfl, by omega, ht2, kk, fun i h2 h3 => ?_⟩
        by_cases hi : i = m - 1
        · rw [hi]; exact ⟨x, en⟩
        · exact hu i (by omega) h3
    · have h1 : ¬ (0 : Int) < (m : Int) := h1
      have em : m = 0 := by omega
      subst em
      walk_at "t"
      exact q2 H1 (fun i hi => hu i (by omega) hi) k1 ht1
/-! ahead_of -/
abbrev s_Table_aheadof : Stmt := inClass (top 37) 7
theorem sc_Table_aheadof : FnScope ["self", "key", "at", "found"] ["self", "key", "at"] (defScope s_Table_aheadof) := ⟨rfl, rfl, rfl, by decide +kernel, rfl, by decide +kernel, by decide +kernel⟩
def sp_aheadof (C D N : Addr) : Sp := fun vs H Q _ => ∃ (a : Addr) (v num me : V) (k : Ky) (i : Nat) (F : Fp) (t : Tb Ky), vs = [.ref a, v, .int i] ∧ TbAt D N H a num me F t ∧ (∃ rk : Nat → Nat, ∀ i j, lk (nd t.nds) i j → rk j < rk i) ∧ KyAt C D H v k ∧ k.x ≠ .non ∧ 0 < t.nds.length ∧ KK.mp k t.nds.length ≠ i ∧ Rch (nd t.nds) (KK.mp k t.nds.length) i ∧
  ∀ p, lk (nd t.nds) p i → Q (.int p) H
theorem ok_aheadof {f : Addr} {fd : FuncData} (F : FunD K "ahead_of" "Table.ahead_of" (defArgs s_Table_aheadof) (defBody s_Table_aheadof) (defScope s_Table_aheadof) [] [] f fd) (B : Blt mg) (TT : TbC K mg D) (TN : NdC K mg N) (c_placeoftables : Fn P w K mg base CX0 3 "place_of_tables" ["key", "size"] [] (sp_placeofT C D)) : FnOk P w K mg base CX0 4 f fd ["self", "key", "at"] (sp_aheadof C D N) := by
  refine F.ok sc_Table_aheadof (fun vs H Q E h => ?_) (fun cdv A outer s H vs Q E hr h => ?_)
  · obtain ⟨_, _, _, _, _, _, _, _, rfl, _⟩ := h; rfl
  · obtain ⟨a, v, num, me, k, i, G, t, rfl, ht, hrk0, hk, hn, n0, hne, hr2, q⟩ := h
    obtain ⟨⟨dx, ho⟩, ha, hl, hlen, _⟩ := id ht
    refine ⟨_, PSs.nox (pss_cons (ps_set (i := 3) sc_Table_aheadof.nd rfl (Or.inl rfl) (pe_fn c_placeoftables (hr.mono (by first | decide | omega)) pass0 (pa_cons (pv 1) (pa_cons (pe_callB call_len_seq (by rfl) B.len (by decide +kernel) (pa_cons (pe_fld (pv 0) rfl) pa_nil)) pa_nil))))
  (pss_cons (ps_while PassesOwn.never (pt_cmpR (op_oNe hr.units) (pe_fld (pe_ix ix_seq (pe_fld (pv 0) rfl) (pv 3) (fun _ _ => rfl)) rfl) (pv 2) (nomark _))
    (pss_one (ps_set (i := 3) sc_Table_aheadof.nd rfl (Or.inl rfl) (pe_fld (pe_ix ix_seq (pe_fld (pv 0) rfl) (pv 3) (fun _ _ => rfl)) rfl))))
  (pss_one (ps_ret (pv 3))))), ?_⟩
    walk_at "t"
    refine g_lenL hl ?_
    walk_at "t"
    rw [hlen]
    refine ⟨v, k, _, rfl, hk, hn, n0, ?_⟩
    walk_at "t"
    obtain ⟨rk, hrk⟩ := hrk0
    refine g_while (fun m σ' H' => H' = H ∧ ∃ p, σ' = [some (.ref a), some v, some (.int i), some (.int (p : Nat))] ∧ p ≠ i ∧ Rch (nd t.nds) p i ∧ m = rk p) _ ⟨rfl, _, rfl, hne, hr2, rfl⟩ ?_
    rintro m _ _ ⟨rfl, p, rfl, hp, hpr, rfl⟩
    obtain ⟨j, hj, hji⟩ : ∃ j, lk (nd t.nds) p j ∧ Rch (nd t.nds) j i := by
      cases hpr with
      | refl => exact absurd rfl hp
      | step b r => exact ⟨_, b, r⟩
    obtain ⟨x, ex, hx⟩ := id hj
    obtain ⟨b, dxb, ey, hb⟩ := ht.getS ex
    rw [hx] at hb
    walk_at "t"
    refine g_ixL hl (atI_of (by omega) (by rw [Int.toNat_natCast]; exact ey)) ?_
    walk_at "t"
    have el : lkV (some j) = .int (j : Nat) := rfl
    rw [el]
    refine g_neI ?_
    walk_at "t"
    refine g_iten (fun h1 => ?_) fun h1 => ?_
    · refine g_wbody ?_
      walk_at "t"
      refine g_ixL hl (atI_of (by omega) (by rw [Int.toNat_natCast]; exact ey)) ?_
      walk_at "t"
      rw [el]
      exact ⟨rk j, hrk _ _ hj, rfl, j, rfl, by omega, hji, rfl⟩
    · have : j = i := by omega
      subst this
      walk_at "t"
      exact q p hj
end
end Up

set_option Elab.async false
set_option linter.all false
set_option pp.maxSteps 600
set_option maxRecDepth 100000
set_option maxHeartbeats 4000000
set_option exponentiation.threshold 200000
namespace Up
open PySem PySem.Spec PyProof.Rows L2
local macro_rules | `(tactic| walk_at "u") => `(tactic| first
  | with_reducible refine g_seq ?_
  | with_reducible refine g_asg ?_
  | with_reducible refine g_op ?_
  | ((with_reducible show tVar _ _ _ _); apply g_var; exact rfl)
  | with_reducible refine g_c ?_
  | with_reducible refine g_name ?_
  | with_reducible refine g_ifs ?_
  | with_reducible refine g_tt ?_
  | with_reducible refine g_tB ?_
  | with_reducible refine g_bl ?_
  | with_reducible refine g_ret ?_
  | with_reducible refine g_cb ?_
  | with_reducible refine g_cons ?_
  | with_reducible refine g_nil ?_
  | with_reducible refine g_call ?_
  | with_reducible refine g_and ?_
  | with_reducible refine g_or ?_
  | with_reducible refine g_not ?_
  | with_reducible refine g_andV ?_
  | with_reducible refine g_orV ?_
  | with_reducible refine g_notV ?_
  | with_reducible refine g_if ?_
  | with_reducible refine g_un ?_
  | with_reducible refine g_neg ?_
  | with_reducible refine g_addI ?_
  | with_reducible refine g_subI ?_
  | with_reducible refine g_subB ?_
  | with_reducible refine g_I0 ?_
  | with_reducible refine g_cmpI ?_
  | with_reducible refine g_eqI ?_
  | with_reducible refine g_neI ?_
  | with_reducible refine g_eqS ?_
  | with_reducible refine g_neS ?_
  | with_reducible refine g_eqB ?_
  | with_reducible refine g_neB ?_
  | with_reducible refine g_bits ?_
  | with_reducible refine g_bitsI ?_
  | with_reducible refine g_fld ?_
  | with_reducible refine g_tup ?_
  | with_reducible refine g_lst ?_
  | with_reducible refine g_gtup ?_
  | with_reducible refine g_make ?_
  | with_reducible refine g_lc ?_
  | with_reducible refine g_yesT ?_
  | with_reducible refine g_intI ?_
  | with_reducible refine g_intB ?_
  | with_reducible refine g_max2 ?_
  | with_reducible refine g_abs1 ?_
  | with_reducible refine g_for ?_
  | with_reducible refine g_iList ?_
  | with_reducible refine g_iTup ?_
  | with_reducible refine g_iRng1 ?_
  | with_reducible refine g_iEnum ?_
  | with_reducible refine g_slice ?_
  | with_reducible refine g_po0 ?_
  | with_reducible refine g_po1 ?_
  | with_reducible refine g_gsub ?_
  | with_reducible refine g_par ?_
  | with_reducible refine g_par2 ?_
  | with_reducible refine g_rfl ?_
  | with_reducible refine g_meth ?_
  | with_reducible refine g_gcons ?_
  | with_reducible refine g_gnil ?_
  | with_reducible refine g_gfld ?_
  | with_reducible refine g_sfld ?_
  | with_reducible refine g_drop ?_
  | with_reducible refine g_next ?_
  | with_reducible refine iteT ?_
  | with_reducible refine iteF ?_)
local macro_rules | `(tactic| walk_at "go") => `(tactic| (repeat walk_at "u"))
local macro_rules | `(tactic| walk_at "t") => `(tactic| (repeat (first
  | walk_at "u"
  | with_reducible refine g_chain ?_
  | with_reducible refine g_par3 ?_
  | with_reducible refine g_par3' ?_
  | with_reducible refine g_augS ?_
  | with_reducible refine g_nt ?_
  | with_reducible refine g_nf ?_
  | with_reducible refine g_methK ?_
  | with_reducible refine g_makeK ?_
  | with_reducible refine g_iRng2 ?_
  | with_reducible refine g_bm ?_
  | with_reducible refine g_fldaug ?_
  | with_reducible refine g_iStr ?_
  | with_reducible refine g_ipI ?_
  | ((with_reducible show tAug _ _ _ _ _ _); refine ⟨_, rfl, ?_⟩)
  | ((with_reducible refine show_exT ?_); first
    | refine rdT3 (by assumption) (by assumption) ?_
    | refine rdT4 (by assumption) (by assumption) ?_
    | refine rdT5 (by assumption) (by assumption) ?_
    | refine rdT1 (by assumption) (by assumption) ?_
    | refine rdT2 (by assumption) (by assumption) ?_
    | refine rdN1 (by assumption) (by assumption) ?_
    | refine rdN2 (by assumption) (by assumption) ?_
    | refine rdN3 (by assumption) (by assumption) ?_
    | refine rdN4 (by assumption) (by assumption) ?_))))

/-! ### keys of a table behind a put -/
def KeyOf (t : Tb Ky) (x : Nd Ky) : Prop := ∃ j y, nd t.nds j = some y ∧ y.kv = x.kv ∧ y.key = x.key
theorem PutN.keys {t t' : Tb Ky} {k : Ky} {kv u : V} (W : TW KK t) (h : PutN KK t k kv u t') : ∀ i x, nd t'.nds i = some x → KeyOf t x ∨ (x.kv = kv ∧ x.key = k) := by
  cases h with
  | repl a ha hlt hv =>
    intro i x e
    rw [nd_set hlt] at e
    by_cases h : i = a
    · subst h; rw [fu_same] at e; cases e; exact .inr ⟨rfl, rfl⟩
    · rw [fu_ne h] at e; exact .inl ⟨i, x, e, rfl, rfl⟩
  | coll a f h ha F e0 hv hh =>
    intro i x e
    have hf : f < t.nds.length := Nat.lt_of_lt_of_le F.lt W.frn
    have hal := nd_lt e0
    rw [nd_set (by rw [List.length_set]; exact hal), nd_set hf] at e
    by_cases h1 : i = a
    · subst h1; rw [fu_same] at e; cases e; exact .inl ⟨i, h, e0, rfl, rfl⟩
    · rw [fu_ne h1] at e
      by_cases h2 : i = f
      · subst h2; rw [fu_same] at e; cases e; exact .inr ⟨rfl, rfl⟩
      · rw [fu_ne h2] at e; exact .inl ⟨i, x, e, rfl, rfl⟩
  | move a f p h q ha F e0 hv hh hp hq =>
    intro i x e
    have hf : f < t.nds.length := Nat.lt_of_lt_of_le F.lt W.frn
    have hal := nd_lt e0
    have hpl := nd_lt hp
    rw [nd_set (by rw [List.length_set, List.length_set]; exact hal), nd_set (by rw [List.length_set]; exact hf), nd_set hpl] at e
    by_cases h1 : i = a
    · subst h1; rw [fu_same] at e; cases e; exact .inr ⟨rfl, rfl⟩
    · rw [fu_ne h1] at e
      by_cases h2 : i = f
      · subst h2; rw [fu_same] at e; cases e; exact .inl ⟨a, h, e0, rfl, rfl⟩
      · rw [fu_ne h2] at e
        by_cases h3 : i = p
        · subst h3; rw [fu_same] at e; cases e; exact .inl ⟨i, q, hp, rfl, rfl⟩
        · rw [fu_ne h3] at e; exact .inl ⟨i, x, e, rfl, rfl⟩
theorem PutS.keys {t t' : Tb Ky} {k : Ky} {kv u : V} (W : TW KK t) (h : PutS KK t k kv u t') : ∀ i x, nd t'.nds i = some x → KeyOf t x ∨ (x.kv = kv ∧ x.key = k) := by
  cases h with
  | ins i e h1 h2 => exact fun i x e => .inl ⟨i, x, e, rfl, rfl⟩
  | fnd r y ni f e0 =>
    intro i x e
    rw [nd_set (nd_lt e0)] at e
    by_cases h : i = r
    · subst h; rw [fu_same] at e; cases e; exact .inl ⟨i, y, e0, rfl, rfl⟩
    · rw [fu_ne h] at e; exact .inl ⟨i, x, e, rfl, rfl⟩
  | skip ni f e => exact fun i x e => .inl ⟨i, x, e, rfl, rfl⟩
  | new ni f e h => exact h.keys W
section
variable {P : Program} {w : World} {K : PySem.W.Frag} {mg : Str → Option Value} {base : Heap} {C D N : Addr} {H H' : Hp} {a : Addr} {num me : V} {F F' : Fp} {t t' : Tb Ky}
theorem TbS.next (L : Cl3 C D N) {v : V} {k : Ky} (h : TbS C D N H a num me F t) (h' : TbAt D N H' a num me F' t') (fr : Frm a F H H') (wf : TW KK t') (ks : ∀ i x, nd t'.nds i = some x → KeyOf t x ∨ (x.kv = v ∧ x.key = k)) (hk : KyAt C D H v k) (gk : Gk k)
    (e1 : t'.arr.length = t.arr.length) (e2 : t'.nds.length = t.nds.length) : TbS C D N H' a num me F' t' := by
  refine ⟨h', wf, fun i x e => ?_, by rw [e1]; exact h.sa, by rw [e2]; exact h.sn⟩
  rcases ks i x e with ⟨j, y, ey, a1, a2⟩ | ⟨a1, a2⟩
  · obtain ⟨b1, b2⟩ := h.keys j y ey
    rw [a1, a2] at b1
    rw [a2] at b2
    exact ⟨b1.frm L h.at_ h' fr, b2⟩
  · rw [a1, a2]
    exact ⟨hk.frm L h.at_ h' fr, gk⟩
/-- what a put leaves: the table, the rest as it was -/
def Left (C D N : Addr) (a : Addr) (num me : V) (F : Fp) (H : Hp) (H' : Hp) (t' : Tb Ky) : Prop := ∃ F', TbS C D N H' a num me F' t' ∧ Frm a F H H' ∧ Fsh a F F' H
/-! put_new, where there is room -/
abbrev s_Table_putnew : Stmt := inClass (top 37) 6
theorem sc_Table_putnew : FnScope ["self", "key", "value", "at", "here", "free"] ["self", "key", "value"] (defScope s_Table_putnew) := ⟨rfl, rfl, rfl, by decide +kernel, rfl, by decide +kernel, by decide +kernel⟩
def sp_putnewS (C D N : Addr) : Sp := fun vs H Q _ => ∃ (a : Addr) (v u num me : V) (k : Ky) (F : Fp) (t : Tb Ky), vs = [.ref a, v, u] ∧ TbS C D N H a num me F t ∧ KyAt C D H v k ∧ Gk k ∧ u ≠ .non ∧ (∃ i, i < t.nds.length ∧ nd t.nds i = none) ∧
  ∀ H' t', PutN KK t k v u t' → Left C D N a num me F H H' t' → Q .non H'
theorem ok_putnewS {f : Addr} {fd : FuncData} (F : FunD K "put_new" "Table.put_new" (defArgs s_Table_putnew) (defBody s_Table_putnew) (defScope s_Table_putnew) [] [] f fd) (B : Blt mg) (L : Cl3 C D N) (TT : TbC K mg D) (TN : NdC K mg N) (c_placeoftables : Fn P w K mg base CX0 3 "place_of_tables" ["key", "size"] [] (sp_placeofT C D)) (c_Node : CnN P w K mg base N)
    (c_freeplace : Mt P w K mg base CX0 1 D "free_place" ["self"] (sp_freeplace D N)) (c_aheadof : Mt P w K mg base CX0 4 D "ahead_of" ["self", "key", "at"] (sp_aheadof C D N)) : FnOk P w K mg base CX0 5 f fd ["self", "key", "value"] (sp_putnewS C D N) := by
  refine F.ok sc_Table_putnew (fun vs H Q E h => ?_) (fun cdv A outer s H vs Q E hr h => ?_)
  · obtain ⟨_, _, _, _, _, _, _, _, rfl, _⟩ := h; rfl
  · obtain ⟨a, v, u, num, me, k, G, t, rfl, ht, hk, gk, hu, ⟨i0, hi0, hn0⟩, q⟩ := h
    have n0 : 0 < t.nds.length := by omega
    refine ⟨_, PSs.nox (pss_cons (ps_if (pt_cmpR (op_eqE hr.units) (pe_fld (pv 0) rfl) (pe_lstN pa_nil) (nomark _)) pss_never pss_nil)
  (pss_cons (ps_set (i := 3) sc_Table_putnew.nd rfl (Or.inl rfl) (pe_fn c_placeoftables (hr.mono (by first | decide | omega)) pass0 (pa_cons (pv 1) (pa_cons (pe_callB call_len_seq (by rfl) B.len (by decide +kernel) (pa_cons (pe_fld (pv 0) rfl) pa_nil)) pa_nil))))
  (pss_cons (ps_set (i := 4) sc_Table_putnew.nd rfl (Or.inl rfl) (pe_ix ix_seq (pe_fld (pv 0) rfl) (pv 3) (fun _ _ => rfl)))
  (pss_cons (ps_if (pt_cut (PW.pt (pw_or (pt_cmpR op_isN (pv 4) pe_non (nomark _)) (pw_or1 (pt_cmpR op_isN (pe_fld (pv 4) rfl) pe_non (nomark _)))))) (pss_cons (ps_asg (pe_cn c_Node (hr.mono (by first | decide | omega)) pass0 (pa_cons (pv 1) (pa_cons (pv 2) (pa_cons (pe_cut (pe_ifExp (pt_cmpR op_isN (pv 4) pe_non (nomark _)) pe_non (pe_fld (pv 4) rfl))) pa_nil)))) (pg_sub (pe_fld (pv 0) rfl) (pv 3) set_list))
  (pss_one ps_retN)) pss_nil)
  (pss_cons (ps_set (i := 5) sc_Table_putnew.nd rfl (Or.inl rfl) (pe_mt0 c_freeplace (hr.mono (by first | decide | omega)) pass0 (pv 0)))
  (pss_one (ps_if (pt_cmpR op_isN (pv 5) pe_non (nomark _)) pss_never (pss_one (ps_if (pt_cmpR (op_oEq hr.units) (pe_fn c_placeoftables (hr.mono (by first | decide | omega)) pass0 (pa_cons (pe_fld (pv 4) rfl) (pa_cons (pe_callB call_len_seq (by rfl) B.len (by decide +kernel) (pa_cons (pe_fld (pv 0) rfl) pa_nil)) pa_nil))) (pv 3) (nomark _)) (pss_cons (ps_asg (pe_cn c_Node (hr.mono (by first | decide | omega)) pass0 (pa_cons (pv 1) (pa_cons (pv 2) (pa_cons (pe_fld (pv 4) rfl) pa_nil)))) (pg_sub (pe_fld (pv 0) rfl) (pv 5) set_list))
  (pss_one (ps_fld (pv 4) (pv 5) rfl))) (pss_cons (ps_fld (pe_ix ix_seq (pe_fld (pv 0) rfl) (pe_mt c_aheadof (hr.mono (by first | decide | omega)) pass0 (pv 0) (pa_cons (pe_fld (pv 4) rfl) (pa_cons (pv 3) pa_nil))) (fun _ _ => rfl)) (pv 5) rfl)
  (pss_cons (ps_asg (pv 4) (pg_sub (pe_fld (pv 0) rfl) (pv 5) set_list))
  (pss_one (ps_asg (pe_cn c_Node (hr.mono (by first | decide | omega)) pass0 (pa_cons (pv 1) (pa_cons (pv 2) (pa_cons pe_non pa_nil)))) (pg_sub (pe_fld (pv 0) rfl) (pv 3) set_list)))))))))))))), ?_⟩
    walk_at "t"
    obtain ⟨⟨dx, ho⟩, ha, hl, hlen, _⟩ := id ht.at_
    walk_at "t"
    refine g_new (sz rfl) fun p1 H1 n1 s1 h1 _ => ?_
    refine g_eqE (s1 _ _ hl) h1 ?_
    walk_at "t"
    have ht0 := ht
    have q : ∀ H' t', PutN KK t k v u t' → Left C D N a num me G H1 H' t' → Q .non H' := fun H' t' p ⟨F', x1, x2, x3⟩ => q H' t' p ⟨F', x1, fun b o hb e => x2 b o hb (s1 _ _ e), fun b hb => (x3 b hb).imp id s1.free⟩
    have ht := ht.same s1
    have hk := hk.same s1
    clear ha hl ho
    obtain ⟨⟨dx, ho⟩, ha, hl, hlen, _⟩ := id ht.at_
    have ev : G.vs.isEmpty = false := by
      cases e : G.vs with
      | nil => rw [e] at hlen; exact absurd hlen (by show ¬ 0 = _; omega)
      | cons _ _ => rfl
    rw [ev]
    refine iteF ?_
    walk_at "t"
    refine g_lenL hl ?_
    walk_at "t"
    rw [hlen]
    refine ⟨v, k, _, rfl, hk, gk.nn, n0, ?_⟩
    walk_at "t"
    have hat := KK.lt k t.nds.length n0
    obtain ⟨y, ey, hy⟩ := ht.at_.get hat
    refine g_ixL hl (atI_of (by omega) (by rw [Int.toNat_natCast]; exact ey)) ?_
    walk_at "t"
    generalize eat : KK.mp k t.nds.length = at_ at *
    refine g_cutT (fun b H' => H1 = H' ∧ b = (match nd t.nds at_ with | none => true | some x => decide (x.val = .non))) ?_ ?_
    · cases en : nd t.nds at_ with
      | none =>
        rw [en] at hy
        have hy : y = .non := hy
        subst hy
        walk_at "t"
        refine g_ite (fun _ => ?_) fun z => absurd rfl z
        exact ⟨rfl, rfl⟩
      | some x =>
        rw [en] at hy
        obtain ⟨b, dxb, rfl, hb⟩ := hy
        walk_at "t"
        refine g_ite (fun z => nomatch z) fun _ => ?_
        walk_at "t"
        exact ⟨rfl, rfl⟩
    · rintro _ _ ⟨rfl, rfl⟩
      refine g_iteb (fun hb => ?_) fun hb => ?_
      · -- unused, or without a value
        have hv : ∀ x, nd t.nds at_ = some x → x.val = .non := fun x e => by rw [e] at hb; simpa using hb
        walk_at "t"
        refine g_cutE (fun z H' => z = lkV ((nd t.nds at_).bind (·.link)) ∧ H1 = H') ?_ ?_
        · cases en : nd t.nds at_ with
          | none =>
            rw [en] at hy
            have hy : y = .non := hy
            subst hy
            walk_at "t"
            refine g_ite (fun _ => ?_) fun z => absurd rfl z
            walk_at "t"
            exact ⟨rfl, rfl⟩
          | some x =>
            rw [en] at hy
            obtain ⟨b, dxb, rfl, hb⟩ := hy
            walk_at "t"
            refine g_ite (fun z => nomatch z) fun _ => ?_
            walk_at "t"
            exact ⟨rfl, rfl⟩
        · rintro _ _ ⟨rfl, rfl⟩
          walk_at "t"
          refine mkN fun H2 b dxb nb s2 hb2 => ?_
          have ho2 := s2 _ _ ho
          have hl2 := s2 _ _ hl
          walk_at "t"
          refine g_setL hl2 (ixN_of (by omega) (by rw [hlen]; omega)) fun H3 hl3 k3 => ?_
          rw [Int.toNat_natCast] at hl3
          walk_at "t"
          have at3 := ht.at_.setNew (x := ⟨k, v, u, (nd t.nds at_).bind (·.link), false⟩) (H' := H3) hat nb s2 hb2 hl3 k3
          have pn : PutN KK t k v u { t with nds := t.nds.set at_ (some ⟨k, v, u, (nd t.nds at_).bind (·.link), false⟩) } := .repl at_ eat.symm hat hv
          have fr : Frm a G H1 H3 := fun c o hc e => by rw [k3 c (fun z => hc (.inr (.inr (.inl z))))]; exact s2 _ _ e
          obtain ⟨w1, w2, w3, _⟩ := pn.ok KK ht.wf
          refine q H3 _ pn ⟨_, ht.next L at3 fr w1 (pn.keys ht.wf) hk gk (by rw [w3]) w2, fr, fun c hc => ?_⟩
          rcases hc with z | z | z | z
          · exact .inl (.inl z)
          · exact .inl (.inr (.inl z))
          · exact .inl (.inr (.inr (.inl z)))
          · rcases List.mem_or_eq_of_mem_set z with z | z
            · exact .inl (.inr (.inr (.inr z)))
            · cases z; exact .inr nb
      · -- used
        cases en : nd t.nds at_ with
        | none => rw [en] at hb; cases hb
        | some x =>
          rw [en] at hb hy
          have hv : x.val ≠ .non := by simpa using hb
          obtain ⟨b, dxb, rfl, hbn⟩ := hy
          obtain ⟨kx, gx⟩ := ht.keys _ _ en
          walk_at "t"
          refine ⟨a, dx, _, rfl, ho, rfl, ?_⟩
          walk_at "t"
          refine ⟨a, num, me, G, t, rfl, ht.at_, ht.wf.frn, fun fr H2 FA k2 at2 => ?_, fun H2 hall _ _ => ?_⟩
          rotate_left
          · exfalso
            by_cases hf : i0 < t.free
            · obtain ⟨z, ez⟩ := hall i0 hf
              rw [hn0] at ez; cases ez
            · obtain ⟨z, ez⟩ := ht.wf.fre i0 (by omega) hi0
              rw [hn0] at ez; cases ez
          have hfn : fr < t.nds.length := Nat.lt_of_lt_of_le FA.lt ht.wf.frn
          have hfa : fr ≠ at_ := fun z => by rw [← z, FA.none] at en; cases en
          obtain ⟨⟨dx2, ho2⟩, ha2, hl2, hlen2, _⟩ := id at2
          have k2f : Frm a G H1 H2 := fun c o hc e => by rw [k2 c (fun z => hc (.inl z))]; exact e
          have hba : b ≠ a := fun z => by
            rw [z, ho] at hbn
            injection hbn with hbn
            injection hbn with e1
            exact L.dn e1
          have hbn2 : H2 b = some (.ins N dxb (ndV x.kv x.val (lkV x.link) x.dead)) := by rw [k2 b hba]; exact hbn
          have kx2 := kx.frm L ht.at_ at2 k2f
          walk_at "t"
          refine g_ite (fun z => nomatch z) fun _ => ?_
          walk_at "t"
          refine g_lenL hl2 ?_
          walk_at "t"
          rw [hlen]
          refine ⟨x.kv, x.key, _, rfl, kx2, gx.nn, n0, ?_⟩
          walk_at "t"
          refine g_ite (fun hm => ?_) fun hm => ?_
          · have hm : KK.mp x.key t.nds.length = at_ := by omega
            walk_at "t"
            refine mkN fun H3 c dxc nc s3 hc3 => ?_
            have ho3 := s3 _ _ ho2
            have hl3 := s3 _ _ hl2
            walk_at "t"
            refine g_setL hl3 (ixN_of (by omega) (by rw [hlen]; omega)) fun H4 hl4 k4 => ?_
            rw [Int.toNat_natCast] at hl4
            have at4 := at2.setNew (x := ⟨k, v, u, x.link, false⟩) (H' := H4) hfn nc s3 hc3 hl4 k4
            have hbl : b ≠ G.ln := fun z => by rw [z, hl2] at hbn2; cases hbn2
            have hb4 : H4 b = some (.ins N dxb (ndV x.kv x.val (lkV x.link) x.dead)) := by rw [k4 b hbl]; exact s3 _ _ hbn2
            walk_at "t"
            refine ⟨b, N, dxb, _, rfl, hb4, TN.cl, TN.n3, by show 4 < 1000; decide, ?_⟩
            have hb5 : upd H4 b (.ins N dxb (putF "link" (.int (fr : Nat)) (ndV x.kv x.val (lkV x.link) x.dead))) b = some (.ins N dxb (ndV x.kv x.val (lkV (some fr)) x.dead)) := upd_same
            have k5 : ∀ d, d ≠ b → upd H4 b (.ins N dxb (putF "link" (.int (fr : Nat)) (ndV x.kv x.val (lkV x.link) x.dead))) d = H4 d := fun d hd => upd_ne hd
            generalize upd H4 b (.ins N dxb (putF "link" (.int (fr : Nat)) (ndV x.kv x.val (lkV x.link) x.dead))) = H5 at hb5 k5 ⊢
            walk_at "t"
            have ey4 : (G.vs.set fr (.ref c))[at_]? = some (V.ref b) := by
              rw [List.getElem?_set, if_neg hfa]; exact ey
            have at5 := at4.setNode L (x := { x with link := some fr }) (H' := H5) ey4 (by simp; exact hat) hb5 k5
            have pn : PutN KK t k v u { t with nds := (t.nds.set fr (some ⟨k, v, u, x.link, false⟩)).set at_ (some { x with link := some fr }), free := fr } := .coll at_ fr x eat.symm FA en hv hm
            have frm : Frm a G H1 H5 := fun d o hd e => by
              rw [k5 d (fun z => hd (.inr (.inr (.inr (by rw [z]; exact List.mem_of_getElem? ey))))), k4 d (fun z => hd (.inr (.inr (.inl z))))]
              exact s3 _ _ (k2f d o hd e)
            obtain ⟨w1, w2, w3, _⟩ := pn.ok KK ht.wf
            have nc1 : H1 c = none := by
              by_cases z : c = a
              · rw [z, ho2] at nc; cases nc
              · rw [k2 c z] at nc; exact nc
            refine q H5 _ pn ⟨_, ht.next L at5 frm w1 (pn.keys ht.wf) hk gk (by rw [w3]) w2, frm, fun d hd => ?_⟩
            rcases hd with z | z | z | z
            · exact .inl (.inl z)
            · exact .inl (.inr (.inl z))
            · exact .inl (.inr (.inr (.inl z)))
            · rcases List.mem_or_eq_of_mem_set z with z | z
              · exact .inl (.inr (.inr (.inr z)))
              · cases z; exact .inr nc1
          · have hm : KK.mp x.key t.nds.length ≠ at_ := fun z => hm (by omega)
            walk_at "t"
            refine ⟨a, dx2, _, rfl, ho2, rfl, ?_⟩
            walk_at "t"
            refine ⟨a, x.kv, num, me, x.key, at_, G, { t with free := fr }, rfl, at2, ht.wf.rnk, kx2, gx.nn, n0, hm, ht.wf.rch _ _ en, fun p hp => ?_⟩
            obtain ⟨y, hy, hyl⟩ := id hp
            obtain ⟨c, dxc, ec, hc⟩ := at2.getS (show nd t.nds p = some y from hy)
            refine g_ixL hl2 (atI_of (by omega) (by rw [Int.toNat_natCast]; exact ec)) ?_
            walk_at "t"
            refine ⟨c, N, dxc, _, rfl, hc, TN.cl, TN.n3, by show 4 < 1000; decide, ?_⟩
            have hb3 : upd H2 c (.ins N dxc (putF "link" (.int (fr : Nat)) (ndV y.kv y.val (lkV y.link) y.dead))) c = some (.ins N dxc (ndV y.kv y.val (lkV (some fr)) y.dead)) := upd_same
            have k3 : ∀ d, d ≠ c → upd H2 c (.ins N dxc (putF "link" (.int (fr : Nat)) (ndV y.kv y.val (lkV y.link) y.dead))) d = H2 d := fun d hd => upd_ne hd
            generalize upd H2 c (.ins N dxc (putF "link" (.int (fr : Nat)) (ndV y.kv y.val (lkV y.link) y.dead))) = H3 at hb3 k3 ⊢
            have at3 := at2.setNode L (x := { y with link := some fr }) (H' := H3) ec (nd_lt hy) hb3 k3
            obtain ⟨⟨dx3, ho3⟩, ha3, hl3, hlen3, _⟩ := id at3
            walk_at "t"
            refine g_setL hl3 (ixN_of (by omega) (by rw [hlen]; omega)) fun H4 hl4 k4 => ?_
            rw [Int.toNat_natCast] at hl4
            have hal : a ≠ G.ln := fun z => by rw [z, hl3] at ho3; cases ho3
            have ho4 : H4 a = some (.ins D dx3 (tbF num me G.la G.ln fr)) := by rw [k4 a hal]; exact ho3
            walk_at "t"
            refine mkN fun H5 e dxe ne s5 he5 => ?_
            have ho5 := s5 _ _ ho4
            have hl5 := s5 _ _ hl4
            walk_at "t"
            refine g_setL hl5 (ixN_of (by omega) (by rw [List.length_set, hlen]; omega)) fun H6 hl6 k6 => ?_
            rw [Int.toNat_natCast] at hl6
            walk_at "t"
            have hpa : at_ ≠ p := fun z => by
              obtain ⟨rk, hr⟩ := ht.wf.rnk
              have := hr _ _ hp
              rw [z] at this; omega
            have hpl := nd_lt hy
            -- the heap without the stores into the list of nodes
            have ne3 : H3 e = none := by
              by_cases z : e = G.ln
              · rw [z, hl4] at ne; cases ne
              · rw [k4 e z] at ne; exact ne
            have s35 : ∀ d, d ≠ G.ln → ∀ o, H3 d = some o → H5 d = some o := fun d hd o eo => s5 _ _ (by rw [k4 d hd]; exact eo)
            have enx : nd (t.nds.set p (some { y with link := some fr })) at_ = some x := by rw [nd_set hpl, fu_ne hpa]; exact en
            have nfx : nd (t.nds.set p (some { y with link := some fr })) fr = none := by
              rw [nd_set hpl, fu_ne (fun z => by have := FA.none; rw [z] at this; rw [show nd t.nds p = some y from hy] at this; cases this)]; exact FA.none
            have at6 := at3.setMove (H1 := fun d => if d = G.ln then H3 d else H5 d) (H' := H6) (b := e) (x := ⟨k, v, u, none, false⟩) ey enx (by show fr < (t.nds.set p _).length; rw [List.length_set]; exact hfn) nfx ne3 (fun d o eo => by
                by_cases z : d = G.ln
                · simp only [z, if_true]; rw [z] at eo; exact eo
                · simp only [z, if_false]; exact s35 d z o eo) (by
                  have z : e ≠ G.ln := fun z => by rw [z, hl4] at ne; cases ne
                  simp only [z, if_false]; exact he5) hl6 (fun d hd => by
                  simp only [hd, if_false]; exact k6 d hd)
            have pn : PutN KK t k v u { t with nds := ((t.nds.set p (some { y with link := some fr })).set fr (some x)).set at_ (some ⟨k, v, u, none, false⟩), free := fr } := .move at_ fr p x y eat.symm FA en hv hm hy hyl
            have frm : Frm a G H1 H6 := fun d o hd eo => by
              have dl : d ≠ G.ln := fun z => hd (.inr (.inr (.inl z)))
              rw [k6 d dl]
              refine s35 d dl o ?_
              rw [k3 d (fun z => hd (.inr (.inr (.inr (by rw [z]; exact List.mem_of_getElem? ec)))))]
              exact k2f d o hd eo
            obtain ⟨w1, w2, w3, _⟩ := pn.ok KK ht.wf
            have ne1 : H1 e = none := by
              cases z : H1 e with
              | none => rfl
              | some o =>
                exfalso
                by_cases hin : G.In a e
                · rcases hin with z | z | z | z
                  · rw [z, ho3] at ne3; cases ne3
                  · rw [z, ha3] at ne3; cases ne3
                  · rw [z, hl3] at ne3; cases ne3
                  · obtain ⟨_, _, _, _, _, he⟩ := at3.inN z
                    rw [he] at ne3; cases ne3
                · have h2 := k2f e o hin z
                  rw [k3 e (fun z => hin (.inr (.inr (.inr (by rw [z]; exact List.mem_of_getElem? ec))))), h2] at ne3
                  cases ne3
            refine q H6 _ pn ⟨_, ht.next L at6 frm w1 (pn.keys ht.wf) hk gk (by rw [w3]) w2, frm, fun d hd => ?_⟩
            rcases hd with z | z | z | z
            · exact .inl (.inl z)
            · exact .inl (.inr (.inl z))
            · exact .inl (.inr (.inr (.inl z)))
            · rcases List.mem_or_eq_of_mem_set z with z | z
              · rcases List.mem_or_eq_of_mem_set z with z | z
                · exact .inl (.inr (.inr (.inr z)))
                · cases z
                  exact .inl (.inr (.inr (.inr (List.mem_of_getElem? ey))))
              · cases z; exact .inr ne1
end
end Up

set_option Elab.async false
set_option linter.all false
set_option pp.maxSteps 600
set_option maxRecDepth 100000
set_option maxHeartbeats 4000000
set_option exponentiation.threshold 200000
namespace Up
open PySem PySem.Spec PyProof.Rows L2
local macro_rules | `(tactic| walk_at "u") => `(tactic| first
  | with_reducible refine g_seq ?_
  | with_reducible refine g_asg ?_
  | with_reducible refine g_op ?_
  | ((with_reducible show tVar _ _ _ _); apply g_var; exact rfl)
  | with_reducible refine g_c ?_
  | with_reducible refine g_name ?_
  | with_reducible refine g_ifs ?_
  | with_reducible refine g_tt ?_
  | with_reducible refine g_tB ?_
  | with_reducible refine g_bl ?_
  | with_reducible refine g_ret ?_
  | with_reducible refine g_cb ?_
  | with_reducible refine g_cons ?_
  | with_reducible refine g_nil ?_
  | with_reducible refine g_call ?_
  | with_reducible refine g_and ?_
  | with_reducible refine g_or ?_
  | with_reducible refine g_not ?_
  | with_reducible refine g_andV ?_
  | with_reducible refine g_orV ?_
  | with_reducible refine g_notV ?_
  | with_reducible refine g_if ?_
  | with_reducible refine g_un ?_
  | with_reducible refine g_neg ?_
  | with_reducible refine g_addI ?_
  | with_reducible refine g_subI ?_
  | with_reducible refine g_subB ?_
  | with_reducible refine g_I0 ?_
  | with_reducible refine g_cmpI ?_
  | with_reducible refine g_eqI ?_
  | with_reducible refine g_neI ?_
  | with_reducible refine g_eqS ?_
  | with_reducible refine g_neS ?_
  | with_reducible refine g_eqB ?_
  | with_reducible refine g_neB ?_
  | with_reducible refine g_bits ?_
  | with_reducible refine g_bitsI ?_
  | with_reducible refine g_fld ?_
  | with_reducible refine g_tup ?_
  | with_reducible refine g_lst ?_
  | with_reducible refine g_gtup ?_
  | with_reducible refine g_make ?_
  | with_reducible refine g_lc ?_
  | with_reducible refine g_yesT ?_
  | with_reducible refine g_intI ?_
  | with_reducible refine g_intB ?_
  | with_reducible refine g_max2 ?_
  | with_reducible refine g_abs1 ?_
  | with_reducible refine g_for ?_
  | with_reducible refine g_iList ?_
  | with_reducible refine g_iTup ?_
  | with_reducible refine g_iRng1 ?_
  | with_reducible refine g_iEnum ?_
  | with_reducible refine g_slice ?_
  | with_reducible refine g_po0 ?_
  | with_reducible refine g_po1 ?_
  | with_reducible refine g_gsub ?_
  | with_reducible refine g_par ?_
  | with_reducible refine g_par2 ?_
  | with_reducible refine g_rfl ?_
  | with_reducible refine g_meth ?_
  | with_reducible refine g_gcons ?_
  | with_reducible refine g_gnil ?_
  | with_reducible refine g_gfld ?_
  | with_reducible refine g_sfld ?_
  | with_reducible refine g_drop ?_
  | with_reducible refine g_next ?_
  | with_reducible refine iteT ?_
  | with_reducible refine iteF ?_)
local macro_rules | `(tactic| walk_at "go") => `(tactic| (repeat walk_at "u"))
local macro_rules | `(tactic| walk_at "t") => `(tactic| (repeat (first
  | walk_at "u"
  | with_reducible refine g_chain ?_
  | with_reducible refine g_par3 ?_
  | with_reducible refine g_par3' ?_
  | with_reducible refine g_augS ?_
  | with_reducible refine g_nt ?_
  | with_reducible refine g_nf ?_
  | with_reducible refine g_methK ?_
  | with_reducible refine g_makeK ?_
  | with_reducible refine g_iRng2 ?_
  | with_reducible refine g_bm ?_
  | with_reducible refine g_fldaug ?_
  | with_reducible refine g_iStr ?_
  | with_reducible refine g_ipI ?_
  | ((with_reducible show tAug _ _ _ _ _ _); refine ⟨_, rfl, ?_⟩)
  | ((with_reducible refine show_exT ?_); first
    | refine rdT3 (by assumption) (by assumption) ?_
    | refine rdT4 (by assumption) (by assumption) ?_
    | refine rdT5 (by assumption) (by assumption) ?_
    | refine rdT1 (by assumption) (by assumption) ?_
    | refine rdT2 (by assumption) (by assumption) ?_
    | refine rdN1 (by assumption) (by assumption) ?_
    | refine rdN2 (by assumption) (by assumption) ?_
    | refine rdN3 (by assumption) (by assumption) ?_
    | refine rdN4 (by assumption) (by assumption) ?_))))

theorem plA_nan {x : Any} : isNanA (plA x) = isNanA x := by
  cases x with
  | num n =>
    show isNanA (plNm n (wholeN n)) = _
    cases e : wholeN n with
    | none => rfl
    | some i =>
      cases n with
      | i j => rfl
      | f s t p =>
        show false = decide (t = .str "nan")
        have e : wholeF s t p = some i := e
        cases t with
        | int m => simp
        | _ => cases e
  | _ => rfl
theorem plA_non {x : Any} (h : x ≠ .non) : plA x ≠ .non := by
  cases x with
  | num n =>
    show plNm n (wholeN n) ≠ .non
    cases wholeN n <;> exact fun z => nomatch z
  | non => exact absurd rfl h
  | _ => exact fun z => nomatch z
theorem plA_idem (x : Any) : plA (plA x) = plA x := by
  cases x with
  | num n =>
    show plA (plNm n (wholeN n)) = plNm n (wholeN n)
    cases e : wholeN n with
    | none =>
      show plNm n (wholeN n) = _
      rw [e]
    | some i => rfl
  | _ => rfl
theorem Gk.of {k : Ky} (h1 : k.x ≠ .non) (h2 : isNanA k.x = false) : Gk (plK k) := ⟨plA_non h1, plA_nan.trans h2, plA_idem _⟩
section
variable {P : Program} {w : World} {K : PySem.W.Frag} {mg : Str → Option Value} {base : Heap} {C D N : Addr} {H H' : Hp} {a : Addr} {num me : V} {F F' : Fp} {t t' : Tb Ky}
theorem plV_self {v : V} {x : Any} (h : AnyAt C D H v x) (e : plA x = x) : plV v x = v := by
  cases x with
  | num n =>
    show plNv v (wholeN n) = v
    have e : plNm n (wholeN n) = .num n := e
    cases ew : wholeN n with
    | none => rfl
    | some i =>
      rw [ew] at e
      have e : Any.num (.i i) = .num n := e
      injection e with e
      subst e
      have h : v = .int i := h.1
      rw [h]
      rfl
  | _ => rfl
theorem plK_self {k : Ky} (g : Gk k) : plK k = k := by
  obtain ⟨x, no⟩ := k
  have := g.pl
  unfold plK
  simp only [Ky.mk.injEq]
  exact ⟨this, trivial⟩
theorem AnyAt.int_of {v : V} {x : Any} {i : Int} (h : AnyAt C D H v x) (e : whA x = some i) : v = .int i := by
  cases x with
  | num n =>
    cases n with
    | i j => cases e; exact h.1
    | f _ _ _ => cases e
  | _ => cases e
theorem AnyAt.nn {v : V} {x : Any} (h : AnyAt C D H v x) (e : x ≠ .non) : v ≠ .non := by
  cases x with
  | num n =>
    cases n with
    | i j => intro z; have h : v = _ := h.1; rw [h] at z; cases z
    | f _ _ _ => obtain ⟨⟨b, hb, _⟩, _⟩ := h; rw [hb]; exact fun z => nomatch z
  | non => exact absurd rfl e
  | bl _ => intro z; have h : v = _ := h; rw [h] at z; cases z
  | str _ => intro z; have h : v = _ := h; rw [h] at z; cases z
  | obj _ => rw [h.1]; exact fun z => nomatch z
theorem AnyAt.non_of {v : V} (h : AnyAt C D H v .non) : v = .non := h
/-! what get tells -/
def GetR (t : Tb Ky) (k : Ky) (u : V) : Prop :=
  (∃ i, whA (plA k.x) = some i ∧ 1 ≤ i ∧ i ≤ t.arr.length ∧ t.arr[(i - 1).toNat]? = some u) ∨
  (¬ inside KK t (plK k) ∧ (((plA k.x = .non ∨ isNanA (plA k.x) = true) ∧ u = .non) ∨
    (plA k.x ≠ .non ∧ isNanA (plA k.x) = false ∧ ∃ r, Fd KK (nd t.nds) (plK k) false (st0 KK (plK k) t.nds.length) r ∧ ((r = none ∧ u = .non) ∨ ∃ i x, r = some i ∧ nd t.nds i = some x ∧ u = x.val))))
theorem GetR.det {k : Ky} {u u' : V} (h : GetR t k u) (h' : GetR t k u') : u = u' := by
  rcases h with ⟨i, e, h1, h2, h3⟩ | ⟨ni, h⟩
  · rcases h' with ⟨j, f, g1, g2, g3⟩ | ⟨ni, _⟩
    · rw [e] at f; cases f; rw [h3] at g3; exact Option.some.inj g3
    · exact absurd ⟨i, e, h1, h2⟩ ni
  · rcases h' with ⟨j, f, g1, g2, _⟩ | ⟨_, h'⟩
    · exact absurd ⟨j, f, g1, g2⟩ ni
    · rcases h with ⟨h1, rfl⟩ | ⟨h1, h2, r, fd, h3⟩
      · rcases h' with ⟨_, rfl⟩ | ⟨g1, g2, _⟩
        · rfl
        · rcases h1 with z | z
          · exact absurd z g1
          · rw [z] at g2; cases g2
      · rcases h' with ⟨g1, rfl⟩ | ⟨_, _, r', fd', g3⟩
        · rcases g1 with z | z
          · exact absurd z h1
          · rw [z] at h2; cases h2
        · have := fd.det KK fd'
          subst this
          rcases h3 with ⟨e1, e2⟩ | ⟨i, x, e1, e2, e3⟩ <;> rcases g3 with ⟨f1, f2⟩ | ⟨j, y, f1, f2, f3⟩
          · rw [e2, f2]
          · rw [e1] at f1; cases f1
          · rw [e1] at f1; cases f1
          · rw [e1] at f1; cases f1; rw [e2] at f2; cases f2; rw [e3, f3]
open Classical in
noncomputable def gtT (t : Tb Ky) (k : Ky) : V := if h : ∃ u, GetR t k u then h.choose else .non
theorem GetR.eq {k : Ky} {u : V} (h : GetR t k u) : gtT t k = u := by
  have hx : ∃ u, GetR t k u := ⟨u, h⟩
  unfold gtT
  rw [dif_pos hx]
  exact hx.choose_spec.det h
abbrev s_Table_get : Stmt := inClass (top 37) 4
theorem sc_Table_get : FnScope ["self", "key", "at"] ["self", "key"] (defScope s_Table_get) := ⟨rfl, rfl, rfl, by decide +kernel, rfl, by decide +kernel, by decide +kernel⟩
def sp_get (C D N : Addr) : Sp := fun vs H Q _ => ∃ (a : Addr) (v num me : V) (k : Ky) (F : Fp) (t : Tb Ky), vs = [.ref a, v] ∧ TbS C D N H a num me F t ∧ KyAt C D H v k ∧ ∀ H', Same H H' → GetR t k (gtT t k) → Q (gtT t k) H'
abbrev CPlain (P : Program) (w : World) (K : PySem.W.Frag) (mg : Str → Option Value) (base : Heap) (C D : Addr) : Prop := Fn P w K mg base CX0 3 "plain_key" ["key"] [] (sp_plainkey C D)
abbrev CInside (P : Program) (w : World) (K : PySem.W.Frag) (mg : Str → Option Value) (base : Heap) (C D N : Addr) : Prop := Mt P w K mg base CX0 2 D "is_inside" ["self", "key"] (sp_isinside C D N)
abbrev CFind (P : Program) (w : World) (K : PySem.W.Frag) (mg : Str → Option Value) (base : Heap) (C D N : Addr) : Prop := Mt P w K mg base CX0 5 D "find" ["self", "key", "with_dead"] (sp_find C D N)
abbrev CNan (P : Program) (w : World) (K : PySem.W.Frag) (mg : Str → Option Value) (base : Heap) (C D : Addr) : Prop := Fn P w K mg base CX0 1 "is_nan" ["key"] [] (sp_isnan C D)
theorem ok_get {f : Addr} {fd : FuncData} (F : FunD K "get" "Table.get" (defArgs s_Table_get) (defBody s_Table_get) (defScope s_Table_get) [] [] f fd) (B : Blt mg) (TT : TbC K mg D) (TN : NdC K mg N) (c_plainkey : CPlain P w K mg base C D) (c_isinside : CInside P w K mg base C D N) (c_isnan : CNan P w K mg base C D) (c_find : CFind P w K mg base C D N) : FnOk P w K mg base CX0 6 f fd ["self", "key"] (sp_get C D N) := by
  refine F.ok sc_Table_get (fun vs H Q E h => ?_) (fun cdv A outer s H vs Q E hr h => ?_)
  · obtain ⟨_, _, _, _, _, _, _, rfl, _⟩ := h; rfl
  · obtain ⟨a, v, num, me, k, G, t, rfl, ht, hk, q⟩ := h
    have q : ∀ u H', Same H H' → GetR t k u → Q u H' := fun u H' s1 g => by
      have e := g.eq
      have q := q H' s1 (by rw [e]; exact g)
      rw [e] at q
      exact q
    refine ⟨_, PSs.nox (pss_cons (ps_set (i := 1) sc_Table_get.nd rfl (Or.inl rfl) (pe_fn c_plainkey (hr.mono (by first | decide | omega)) pass0 (pa_cons (pv 1) pa_nil)))
  (pss_cons (ps_if (pt_val (pe_mt c_isinside (hr.mono (by first | decide | omega)) pass0 (pv 0) (pa_cons (pv 1) pa_nil))) (pss_one (ps_ret (pe_ix ix_seq (pe_fld (pv 0) rfl) (pe_op op_oSub (pv 1) pe_int) (fun _ _ => rfl)))) pss_nil)
  (pss_cons (ps_if (pt_cut (PW.pt (pw_or (pt_cmpR op_isN (pv 1) pe_non (nomark _)) (pw_or1 (pt_val (pe_fn c_isnan (hr.mono (by first | decide | omega)) pass0 (pa_cons (pv 1) pa_nil))))))) (pss_one (ps_ret pe_non)) pss_nil)
  (pss_cons (ps_set (i := 2) sc_Table_get.nd rfl (Or.inl rfl) (pe_mt c_find (hr.mono (by first | decide | omega)) pass0 (pv 0) (pa_cons (pv 1) (pa_cons pe_bl pa_nil))))
  (pss_one (ps_ret (pe_ifExp (pt_cmpR op_isN (pv 2) pe_non (nomark _)) pe_non (pe_fld (pe_ix ix_seq (pe_fld (pv 0) rfl) (pv 2) (fun _ _ => rfl)) rfl)))))))), ?_⟩
    walk_at "t"
    refine ⟨v, k.x, rfl, hk.1, fun H1 s1 => ?_⟩
    have ht := ht.same s1
    have hk := (hk.same s1).pl
    obtain ⟨⟨dx, ho⟩, ha, hl, hlen, _⟩ := id ht.at_
    walk_at "t"
    refine ⟨a, dx, _, rfl, ho, rfl, ?_⟩
    walk_at "t"
    refine ⟨a, _, num, me, plK k, G, t, rfl, ht.at_, hk.1, ht.sa, ?_⟩
    walk_at "t"
    refine g_iteb (fun h1 => ?_) fun h1 => ?_
    · obtain ⟨i, ei, i1, i2⟩ := (inB_iff KK).mpr h1
      have ev : plV v k.x = .int i := hk.1.int_of ei
      rw [ev]
      walk_at "t"
      have hlt : (i - 1).toNat < t.arr.length := by omega
      refine g_ixL ha (atI_of (by omega) (List.getElem?_eq_getElem hlt)) ?_
      exact q _ _ s1 (.inl ⟨i, ei, i1, i2, List.getElem?_eq_getElem hlt⟩)
    · have ni : ¬ inside KK t (plK k) := fun z => by rw [(inB_iff KK).mp z] at h1; cases h1
      walk_at "t"
      refine g_cutT (fun b H' => H1 = H' ∧ (b = true ↔ (plA k.x = .non ∨ isNanA (plA k.x) = true))) ?_ ?_
      · walk_at "t"
        refine g_ite (fun h2 => ?_) fun h2 => ?_
        · refine ⟨rfl, fun _ => .inl ?_, fun _ => rfl⟩
          cases ex : plA k.x with
          | non => rfl
          | _ => exact absurd h2 (hk.1.nn (by show plA k.x ≠ .non; rw [ex]; exact fun z => nomatch z))
        · walk_at "t"
          refine ⟨_, plA k.x, rfl, hk.1, ?_⟩
          refine ⟨_, rfl, rfl, fun z => .inr z, fun z => z.elim (fun z => ?_) id⟩
          have h3 : AnyAt C D H1 (plV v k.x) (plA k.x) := hk.1
          rw [z] at h3
          exact absurd h3 h2
      · rintro b _ ⟨rfl, hb⟩
        refine g_iteb (fun h2 => ?_) fun h2 => ?_
        · walk_at "t"
          exact q _ _ s1 (.inr ⟨ni, .inl ⟨hb.mp h2, rfl⟩⟩)
        · have h3 : ¬ (plA k.x = .non ∨ isNanA (plA k.x) = true) := fun z => by rw [hb.mpr z] at h2; cases h2
          have hnn : plA k.x ≠ .non := fun z => h3 (.inl z)
          have hna : isNanA (plA k.x) = false := by
            cases e : isNanA (plA k.x) with
            | false => rfl
            | true => exact absurd (.inr e) h3
          walk_at "t"
          refine ⟨a, dx, _, rfl, ho, rfl, ?_⟩
          walk_at "t"
          refine ⟨a, _, num, me, false, plK k, G, t, rfl, ht, hk, hnn, fun H2 r s2 fd hr2 => ?_⟩
          have ho2 := s2 _ _ ho
          have hl2 := s2 _ _ hl
          have ht2 := ht.same s2
          walk_at "t"
          cases r with
          | none =>
            refine g_ite (fun _ => ?_) fun z => absurd rfl z
            walk_at "t"
            exact q _ _ (s1.trans s2) (.inr ⟨ni, .inr ⟨hnn, hna, none, fd, .inl ⟨rfl, rfl⟩⟩⟩)
          | some i =>
            refine g_ite (fun z => nomatch z) fun _ => ?_
            walk_at "t"
            obtain ⟨x, ex, _⟩ := fd.at
            obtain ⟨b, dxb, ey, hb⟩ := ht2.at_.getS ex
            refine g_ixL hl2 (atI_of (by omega) (by rw [Int.toNat_natCast]; exact ey)) ?_
            walk_at "t"
            exact q _ _ (s1.trans s2) (.inr ⟨ni, .inr ⟨hnn, hna, some i, fd, .inr ⟨i, x, rfl, ex, rfl⟩⟩⟩)
/-! put, by what put_new does -/
abbrev PNt := Tb Ky → Ky → V → V → Tb Ky → Prop
inductive PutX (PN : PNt) (t : Tb Ky) (k : Ky) (kv u : V) : Tb Ky → Prop
  | ins (i : Int) : whA k.x = some i → 1 ≤ i → i ≤ t.arr.length → PutX PN t k kv u { t with arr := t.arr.set (i - 1).toNat u }
  | fnd (r : Nat) (x : Nd Ky) : ¬ inside KK t k → Fd KK (nd t.nds) k false (st0 KK k t.nds.length) (some r) → nd t.nds r = some x → PutX PN t k kv u { t with nds := t.nds.set r (some { x with val := u }) }
  | skip : ¬ inside KK t k → Fd KK (nd t.nds) k false (st0 KK k t.nds.length) none → u = .non → PutX PN t k kv u t
  | new {t' : Tb Ky} : ¬ inside KK t k → Fd KK (nd t.nds) k false (st0 KK k t.nds.length) none → u ≠ .non → PN t k kv u t' → PutX PN t k kv u t'
theorem PutX.S {k : Ky} {kv u : V} (h : PutX (PutN KK) t k kv u t') : PutS KK t k kv u t' := by
  cases h with
  | ins i a b c => exact .ins i a b c
  | fnd r x a b c => exact .fnd r x a b c
  | skip a b c => exact .skip a b c
  | new a b c d => exact .new a b c d
def sp_putnewG (C D N : Addr) (PN : PNt) (Rm : Tb Ky → Prop) : Sp := fun vs H Q _ => ∃ (a : Addr) (v u num me : V) (k : Ky) (F : Fp) (t : Tb Ky), vs = [.ref a, v, u] ∧ TbS C D N H a num me F t ∧ KyAt C D H v k ∧ Gk k ∧ u ≠ .non ∧ Rm t ∧
  ∀ H' t', PN t k v u t' → Left C D N a num me F H H' t' → Q .non H'
def sp_putG (C D N : Addr) (PN : PNt) (Rm : Tb Ky → Prop) : Sp := fun vs H Q _ => ∃ (a : Addr) (v u num me : V) (k : Ky) (F : Fp) (t : Tb Ky), vs = [.ref a, v, u] ∧ TbS C D N H a num me F t ∧ KyAt C D H v k ∧ k.x ≠ .non ∧ isNanA k.x = false ∧ (Rm t ∨ inside KK t (plK k)) ∧
  ∀ H' t', PutX PN t (plK k) (plV v k.x) u t' → Left C D N a num me F H H' t' → Q .non H'
abbrev s_Table_put : Stmt := inClass (top 37) 5
theorem sc_Table_put : FnScope ["self", "key", "value", "at"] ["self", "key", "value"] (defScope s_Table_put) := ⟨rfl, rfl, rfl, by decide +kernel, rfl, by decide +kernel, by decide +kernel⟩
theorem ok_putG {f : Addr} {fd : FuncData} {j : Nat} (PN : PNt) (Rm : Tb Ky → Prop) (F : FunD K "put" "Table.put" (defArgs s_Table_put) (defBody s_Table_put) (defScope s_Table_put) [] [] f fd) (B : Blt mg) (L : Cl3 C D N) (TT : TbC K mg D) (TN : NdC K mg N) (c_plainkey : CPlain P w K mg base C D) (c_isinside : CInside P w K mg base C D N) (c_isnan : CNan P w K mg base C D) (c_find : CFind P w K mg base C D N)
    (c_putnew : Mt P w K mg base CX0 (j + 5) D "put_new" ["self", "key", "value"] (sp_putnewG C D N PN Rm)) : FnOk P w K mg base CX0 (j + 6) f fd ["self", "key", "value"] (sp_putG C D N PN Rm) := by
  refine F.ok sc_Table_put (fun vs H Q E h => ?_) (fun cdv A outer s H vs Q E hr h => ?_)
  · obtain ⟨_, _, _, _, _, _, _, _, rfl, _⟩ := h; rfl
  · obtain ⟨a, v, u, num, me, k, G, t, rfl, ht, hk, hn, hna, hrm, q⟩ := h
    have gk := Gk.of hn hna
    refine ⟨_, PSs.nox (pss_cons (ps_set (i := 1) sc_Table_put.nd rfl (Or.inl rfl) (pe_fn c_plainkey (hr.mono (by first | decide | omega)) pass0 (pa_cons (pv 1) pa_nil)))
  (pss_cons (ps_if (pt_val (pe_mt c_isinside (hr.mono (by first | decide | omega)) pass0 (pv 0) (pa_cons (pv 1) pa_nil))) (pss_cons (ps_asg (pv 2) (pg_sub (pe_fld (pv 0) rfl) (pe_op op_oSub (pv 1) pe_int) set_list))
  (pss_one ps_retN)) pss_nil)
  (pss_cons (ps_if (pt_cmpR op_isN (pv 1) pe_non (nomark _)) (pss_one ps_never) pss_nil)
  (pss_cons (ps_if (pt_val (pe_fn c_isnan (hr.mono (by first | decide | omega)) pass0 (pa_cons (pv 1) pa_nil))) (pss_one ps_never) pss_nil)
  (pss_cons (ps_set (i := 3) sc_Table_put.nd rfl (Or.inl rfl) (pe_mt c_find (hr.mono (by first | decide | omega)) pass0 (pv 0) (pa_cons (pv 1) (pa_cons pe_bl pa_nil))))
  (pss_one (ps_if (pt_cmpR op_notN (pv 3) pe_non (nomark _)) (pss_one (ps_fld (pe_ix ix_seq (pe_fld (pv 0) rfl) (pv 3) (fun _ _ => rfl)) (pv 2) rfl)) (pss_one (ps_if (pt_cmpR op_notN (pv 2) pe_non (nomark _)) (pss_one (ps_expr (pe_mt c_putnew (hr.mono (by first | decide | omega)) pass0 (pv 0) (pa_cons (pv 1) (pa_cons (pv 2) pa_nil))))) pss_nil))))))))), ?_⟩
    walk_at "t"
    refine ⟨v, k.x, rfl, hk.1, fun H1 s1 => ?_⟩
    have q : ∀ H' t', PutX PN t (plK k) (plV v k.x) u t' → Left C D N a num me G H1 H' t' → Q .non H' := fun H' t' p ⟨F', x1, x2, x3⟩ => q H' t' p ⟨F', x1, fun b o hb e => x2 b o hb (s1 _ _ e), fun b hb => (x3 b hb).imp id s1.free⟩
    have ht := ht.same s1
    have hk := (hk.same s1).pl
    obtain ⟨⟨dx, ho⟩, ha, hl, hlen, _⟩ := id ht.at_
    walk_at "t"
    refine ⟨a, dx, _, rfl, ho, rfl, ?_⟩
    walk_at "t"
    refine ⟨a, _, num, me, plK k, G, t, rfl, ht.at_, hk.1, ht.sa, ?_⟩
    walk_at "t"
    refine g_iteb (fun h1 => ?_) fun h1 => ?_
    · obtain ⟨i, ei, i1, i2⟩ := (inB_iff KK).mpr h1
      have ev : plV v k.x = .int i := hk.1.int_of ei
      rw [ev]
      walk_at "t"
      refine g_setL ha (ixN_of (by omega) (by omega)) fun H2 h2 k2 => ?_
      walk_at "t"
      have at2 := ht.at_.setArr h2 k2
      have fr : Frm a G H1 H2 := fun b o hb e => by rw [k2 b (fun z => hb (.inr (.inl z)))]; exact e
      refine q H2 _ (.ins i ei i1 i2) ⟨G, ?_, fr, Fsh.refl⟩
      refine ⟨at2, ht.wf, fun i x e => ⟨(ht.keys i x e).1.frm L ht.at_ at2 fr, (ht.keys i x e).2⟩, ?_, ht.sn⟩
      show (t.arr.set (i - 1).toNat u).length ≤ 20000
      rw [List.length_set]
      exact ht.sa
    · have ni : ¬ inside KK t (plK k) := fun z => by rw [(inB_iff KK).mp z] at h1; cases h1
      have hrm : Rm t := hrm.resolve_right ni
      walk_at "t"
      refine g_no (hk.1.nn gk.nn) ?_
      walk_at "t"
      refine ⟨_, plA k.x, rfl, hk.1, ?_⟩
      have e : isNanA (plA k.x) = false := gk.nan
      rw [e]
      walk_at "t"
      refine ⟨a, dx, _, rfl, ho, rfl, ?_⟩
      walk_at "t"
      refine ⟨a, _, num, me, false, plK k, G, t, rfl, ht, hk, gk.nn, fun H2 r s2 fd hr2 => ?_⟩
      have ht2 := ht.same s2
      have hk2 := hk.same s2
      obtain ⟨⟨dx2, ho2⟩, ha2, hl2, hlen2, _⟩ := id ht2.at_
      have q : ∀ H' t', PutX PN t (plK k) (plV v k.x) u t' → Left C D N a num me G H2 H' t' → Q .non H' := fun H' t' p ⟨F', x1, x2, x3⟩ => q H' t' p ⟨F', x1, fun b o hb e => x2 b o hb (s2 _ _ e), fun b hb => (x3 b hb).imp id s2.free⟩
      walk_at "t"
      cases r with
      | some i =>
        refine g_iten (fun _ => ?_) fun z => nomatch z
        walk_at "t"
        obtain ⟨x, ex, _⟩ := fd.at
        obtain ⟨b, dxb, ey, hb⟩ := ht2.at_.getS ex
        refine g_ixL hl2 (atI_of (by omega) (by rw [Int.toNat_natCast]; exact ey)) ?_
        walk_at "t"
        refine ⟨b, N, dxb, _, rfl, hb, TN.cl, TN.n2, by show 4 < 1000; decide, ?_⟩
        have hb3 : upd H2 b (.ins N dxb (putF "value" u (ndV x.kv x.val (lkV x.link) x.dead))) b = some (.ins N dxb (ndV x.kv u (lkV x.link) x.dead)) := upd_same
        have k3 : ∀ d, d ≠ b → upd H2 b (.ins N dxb (putF "value" u (ndV x.kv x.val (lkV x.link) x.dead))) d = H2 d := fun d hd => upd_ne hd
        generalize upd H2 b (.ins N dxb (putF "value" u (ndV x.kv x.val (lkV x.link) x.dead))) = H3 at hb3 k3 ⊢
        walk_at "t"
        have at3 := ht2.at_.setNode L (x := { x with val := u }) (H' := H3) ey (nd_lt ex) hb3 k3
        have fr : Frm a G H2 H3 := fun d o hd e => by rw [k3 d (fun z => hd (.inr (.inr (.inr (by rw [z]; exact List.mem_of_getElem? ey)))))]; exact e
        have ps : PutS KK t (plK k) (plV v k.x) u { t with nds := t.nds.set i (some { x with val := u }) } := .fnd i x ni fd ex
        obtain ⟨w1, w2, w3, _⟩ := ps.ok KK ht.wf
        exact q H3 _ (.fnd i x ni fd ex) ⟨G, ht2.next L at3 fr w1 (ps.keys ht.wf) hk2 gk w3 w2, fr, Fsh.refl⟩
      | none =>
        refine g_iten (fun z => absurd rfl z) fun _ => ?_
        walk_at "t"
        refine g_iten (fun hu => ?_) fun hu => ?_
        · walk_at "t"
          refine ⟨a, dx2, _, rfl, ho2, rfl, ?_⟩
          walk_at "t"
          exact ⟨a, _, u, num, me, plK k, G, t, rfl, ht2, hk2, gk, hu, hrm, fun H3 t' pn lf => q H3 t' (.new ni fd hu pn) lf⟩
        · walk_at "t"
          exact q H2 t (.skip ni fd hu) ⟨G, ht2, Frm.refl, Fsh.refl⟩
end
end Up

set_option Elab.async false
set_option linter.all false
set_option pp.maxSteps 600
set_option maxRecDepth 100000
set_option maxHeartbeats 4000000
set_option exponentiation.threshold 200000
namespace Up
open PySem PySem.Spec PyProof.Rows L2
local macro_rules | `(tactic| walk_at "u") => `(tactic| first
  | with_reducible refine g_seq ?_
  | with_reducible refine g_asg ?_
  | with_reducible refine g_op ?_
  | ((with_reducible show tVar _ _ _ _); apply g_var; exact rfl)
  | with_reducible refine g_c ?_
  | with_reducible refine g_name ?_
  | with_reducible refine g_ifs ?_
  | with_reducible refine g_tt ?_
  | with_reducible refine g_tB ?_
  | with_reducible refine g_bl ?_
  | with_reducible refine g_ret ?_
  | with_reducible refine g_cb ?_
  | with_reducible refine g_cons ?_
  | with_reducible refine g_nil ?_
  | with_reducible refine g_call ?_
  | with_reducible refine g_and ?_
  | with_reducible refine g_or ?_
  | with_reducible refine g_not ?_
  | with_reducible refine g_andV ?_
  | with_reducible refine g_orV ?_
  | with_reducible refine g_notV ?_
  | with_reducible refine g_if ?_
  | with_reducible refine g_un ?_
  | with_reducible refine g_neg ?_
  | with_reducible refine g_addI ?_
  | with_reducible refine g_subI ?_
  | with_reducible refine g_subB ?_
  | with_reducible refine g_I0 ?_
  | with_reducible refine g_cmpI ?_
  | with_reducible refine g_eqI ?_
  | with_reducible refine g_neI ?_
  | with_reducible refine g_eqS ?_
  | with_reducible refine g_neS ?_
  | with_reducible refine g_eqB ?_
  | with_reducible refine g_neB ?_
  | with_reducible refine g_bits ?_
  | with_reducible refine g_bitsI ?_
  | with_reducible refine g_fld ?_
  | with_reducible refine g_tup ?_
  | with_reducible refine g_lst ?_
  | with_reducible refine g_gtup ?_
  | with_reducible refine g_make ?_
  | with_reducible refine g_lc ?_
  | with_reducible refine g_yesT ?_
  | with_reducible refine g_intI ?_
  | with_reducible refine g_intB ?_
  | with_reducible refine g_max2 ?_
  | with_reducible refine g_abs1 ?_
  | with_reducible refine g_for ?_
  | with_reducible refine g_iList ?_
  | with_reducible refine g_iTup ?_
  | with_reducible refine g_iRng1 ?_
  | with_reducible refine g_iEnum ?_
  | with_reducible refine g_slice ?_
  | with_reducible refine g_po0 ?_
  | with_reducible refine g_po1 ?_
  | with_reducible refine g_gsub ?_
  | with_reducible refine g_par ?_
  | with_reducible refine g_par2 ?_
  | with_reducible refine g_rfl ?_
  | with_reducible refine g_meth ?_
  | with_reducible refine g_gcons ?_
  | with_reducible refine g_gnil ?_
  | with_reducible refine g_gfld ?_
  | with_reducible refine g_sfld ?_
  | with_reducible refine g_drop ?_
  | with_reducible refine g_next ?_
  | with_reducible refine iteT ?_
  | with_reducible refine iteF ?_)
local macro_rules | `(tactic| walk_at "go") => `(tactic| (repeat walk_at "u"))
local macro_rules | `(tactic| walk_at "t") => `(tactic| (repeat (first
  | walk_at "u"
  | with_reducible refine g_chain ?_
  | with_reducible refine g_par3 ?_
  | with_reducible refine g_par3' ?_
  | with_reducible refine g_augS ?_
  | with_reducible refine g_nt ?_
  | with_reducible refine g_nf ?_
  | with_reducible refine g_methK ?_
  | with_reducible refine g_makeK ?_
  | with_reducible refine g_iRng2 ?_
  | with_reducible refine g_bm ?_
  | with_reducible refine g_fldaug ?_
  | with_reducible refine g_iStr ?_
  | with_reducible refine g_ipI ?_
  | ((with_reducible show tAug _ _ _ _ _ _); refine ⟨_, rfl, ?_⟩)
  | ((with_reducible refine show_exT ?_); first
    | refine rdT3 (by assumption) (by assumption) ?_
    | refine rdT4 (by assumption) (by assumption) ?_
    | refine rdT5 (by assumption) (by assumption) ?_
    | refine rdT1 (by assumption) (by assumption) ?_
    | refine rdT2 (by assumption) (by assumption) ?_
    | refine rdN1 (by assumption) (by assumption) ?_
    | refine rdN2 (by assumption) (by assumption) ?_
    | refine rdN3 (by assumption) (by assumption) ?_
    | refine rdN4 (by assumption) (by assumption) ?_))))

theorem liveA_snoc (a : Nat) (v : V) : ∀ l : List V, liveA KK a (l ++ [v]) = liveA KK a l ++ (if v = .non then [] else [(KK.ki (a + l.length + 1 : Nat), .int (a + l.length + 1 : Nat), v)]) := by
  intro l
  induction l generalizing a with
  | nil =>
    show (if v = .non then [] else [(KK.ki (a + 1 : Nat), V.int (a + 1 : Nat), v)]) = [] ++ _
    rw [List.nil_append]
    rfl
  | cons y l ih =>
    show liveA KK a (y :: (l ++ [v])) = liveA KK a (y :: l) ++ _
    unfold liveA
    have e : a + 1 + l.length + 1 = a + (y :: l).length + 1 := by simp only [List.length_cons]; omega
    split
    · rw [ih, e]
    · rw [ih, e]; rfl
theorem liveA_take {l : List V} {a i : Nat} {v : V} (h : l[i]? = some v) : liveA KK a (l.take (i + 1)) = liveA KK a (l.take i) ++ (if v = .non then [] else [(KK.ki (a + i + 1 : Nat), .int (a + i + 1 : Nat), v)]) := by
  have hi : i < l.length := by
    by_cases z : i < l.length
    · exact z
    · rw [List.getElem?_eq_none (by omega)] at h; cases h
  have e : l.take (i + 1) = l.take i ++ [v] := by rw [List.take_add_one, h]; rfl
  rw [e, liveA_snoc, List.length_take, Nat.min_eq_left (by omega)]
theorem liveA_le (a : Nat) (l : List V) : (liveA KK a l).length ≤ l.length := by
  induction l generalizing a with
  | nil => exact Nat.le_refl _
  | cons v l ih =>
    unfold liveA
    split
    · exact Nat.le_succ_of_le (ih _)
    · exact Nat.succ_le_succ (ih _)
theorem liveA_len_mono {a : Nat} {l : List V} {i : Nat} : (liveA KK a (l.take i)).length ≤ (liveA KK a l).length := by
  have e : ∀ l r : List V, (liveA KK a l).length ≤ (liveA KK a (l ++ r)).length := by
    intro l r
    induction l generalizing a with
    | nil => exact Nat.zero_le _
    | cons v l ih =>
      show (liveA KK a (v :: l)).length ≤ (liveA KK a (v :: (l ++ r))).length
      unfold liveA
      split
      · exact ih
      · exact Nat.succ_le_succ ih
  have := e (l.take i) (l.drop i)
  rw [List.take_append_drop] at this
  exact this
theorem liveN_take {l : Nds Ky} {i : Nat} {o : Option (Nd Ky)} (h : l[i]? = some o) : liveN (l.take (i + 1)) = liveN (l.take i) ++ liveN [o] := by
  have e : l.take (i + 1) = l.take i ++ [o] := by rw [List.take_add_one, h]; rfl
  rw [e]
  unfold liveN
  rw [List.filterMap_append]
theorem liveN_some {x : Nd Ky} : liveN [some x] = if x.val = .non then [] else [(x.key, x.kv, x.val)] := by
  unfold liveN
  by_cases h : x.val = .non <;> simp [h]
theorem outs_append (n : Nat) (l r : List (Ky × V × V)) : outs KK n (l ++ r) = outs KK n l + outs KK n r := by unfold outs; rw [List.countP_append]
theorem outs_take {l : Nds Ky} {i n : Nat} : outs KK n (liveN (l.take i)) ≤ outs KK n (liveN l) := by
  have : liveN l = liveN (l.take i) ++ liveN (l.drop i) := by
    unfold liveN
    rw [← List.filterMap_append, List.take_append_drop]
  rw [this, outs_append]
  omega
theorem cut_drop (xs : List V) (n : Nat) : cutV xs (some (n : Int)) none = xs.drop n := by
  unfold cutV
  rw [HT.sIx_none, HT.sIx_nat]
  by_cases h : n ≤ xs.length
  · rw [Nat.min_eq_left h, List.take_of_length_le (by simp)]
  · rw [Nat.min_eq_right (by omega), List.drop_of_length_le (Nat.le_refl _), List.drop_of_length_le (by omega), List.take_nil]
theorem cut_take (xs : List V) (n : Nat) : cutV xs none (some (n : Int)) = xs.take n := by
  unfold cutV
  rw [HT.sIx_none, HT.sIx_nat, List.drop_zero, Nat.sub_zero]
  by_cases h : n ≤ xs.length
  · rw [Nat.min_eq_left h]
  · rw [Nat.min_eq_right (by omega), List.take_of_length_le (Nat.le_refl _), List.take_of_length_le (by omega)]
section
variable {P : Program} {w : World} {K : PySem.W.Frag} {mg : Str → Option Value} {base : Heap} {C D N : Addr} {H H' : Hp} {a : Addr} {num me : V} {F F' : Fp} {t t' : Tb Ky}
theorem ky_int {i : Int} (h : i.natAbs < 2 ^ 5000) : KyAt C D H (.int i) (KK.ki i) := ⟨⟨rfl, h⟩, fun a e => nomatch e⟩
theorem gk_int (i : Int) : Gk (KK.ki i) := ⟨fun z => (nomatch z), rfl, rfl⟩
abbrev s_Table_resize : Stmt := inClass (top 37) 10
theorem sc_Table_resize : FnScope ["self", "array", "nodes", "old", "beyond", "at", "value", "node"] ["self", "array", "nodes"] (defScope s_Table_resize) := ⟨rfl, rfl, rfl, by decide +kernel, rfl, by decide +kernel, by decide +kernel⟩
def sp_resize (C D N : Addr) : Sp := fun vs H Q _ => ∃ (a : Addr) (num me : V) (n m : Nat) (F : Fp) (t : Tb Ky), vs = [.ref a, .int n, .int m] ∧ TbS C D N H a num me F t ∧ n ≤ 20000 ∧ m ≤ 20000 ∧ powF m ≤ 20000 ∧ (liveA KK n (t.arr.drop n)).length + outs KK n (liveN t.nds) ≤ powF m ∧
  ∀ H' t', Rsz KK t n (powF m) t' → Left C D N a num me F H H' t' → Q .non H'
def Room0 (t : Tb Ky) : Prop := ∃ i, i < t.nds.length ∧ nd t.nds i = none
abbrev CPutS (P : Program) (w : World) (K : PySem.W.Frag) (mg : Str → Option Value) (base : Heap) (C D N : Addr) : Prop := Mt P w K mg base CX0 6 D "put" ["self", "key", "value"] (sp_putG C D N (PutN KK) Room0)
theorem ok_resize {f : Addr} {fd : FuncData} (F : FunD K "resize" "Table.resize" (defArgs s_Table_resize) (defBody s_Table_resize) (defScope s_Table_resize) [] [] f fd) (B : Blt mg) (L : Cl3 C D N) (TT : TbC K mg D) (TN : NdC K mg N) (c_powerfor : Fn P w K mg base CX0 1 "power_for" ["count"] [] sp_powerfor) (c_put : CPutS P w K mg base C D N) : FnOk P w K mg base CX0 7 f fd ["self", "array", "nodes"] (sp_resize C D N) := by
  refine F.ok sc_Table_resize (fun vs H Q E h => ?_) (fun cdv A outer s H vs Q E hr h => ?_)
  · obtain ⟨_, _, _, _, _, _, _, rfl, _⟩ := h; rfl
  · obtain ⟨a, num, me, n, m, G, t, rfl, ht, hn, hm, hpm, hroom, q⟩ := h
    refine ⟨_, PSs.nox (pss_cons (ps_par (i := 3) (j := 4) rfl sc_Table_resize.nd rfl rfl (by decide) rfl rfl (pa_cons (pe_fld (pv 0) rfl) (pa_cons (pe_slice sl_lstN (pe_fld (pv 0) rfl) (po_some (pv 1)) po_none) pa_nil)) (by rfl))
  (pss_cons (ps_fld (pv 0) (pe_op op_oMul (pe_lstN (pa_cons pe_non pa_nil)) (pe_fn c_powerfor (hr.mono (by first | decide | omega)) pass0 (pa_cons (pv 2) pa_nil))) rfl)
  (pss_cons (ps_fld (pv 0) (pe_callB call_len_seq (by rfl) B.len (by decide +kernel) (pa_cons (pe_fld (pv 0) rfl) pa_nil)) rfl)
  (pss_cons (ps_fld (pv 0) (pe_slice sl_lstN (pe_fld (pv 0) rfl) po_none (po_some (pv 1))) rfl)
  (pss_cons (ps_for PassesOwn.never rfl (pi_enum (by rfl) B.enumerate (pa_cons (pv 4) pa_nil)) (pg_tup rfl (pgs_cons (pg_name (i := 5) sc_Table_resize.nd rfl (Or.inl rfl)) (pgs_cons (pg_name (i := 6) sc_Table_resize.nd rfl (Or.inl rfl)) pgs_nil)))
    (pss_one (ps_if (pt_cmpR op_notN (pv 6) pe_non (nomark _)) (pss_one (ps_expr (pe_mt c_put (hr.mono (by first | decide | omega)) pass0 (pv 0) (pa_cons (pe_op op_oAdd (pe_op op_oAdd (pv 1) (pv 5)) pe_int) (pa_cons (pv 6) pa_nil))))) pss_nil)))
  (pss_cons (ps_expr (pe_bm PySem.F.plainAttrs_list PySem.F.slot_list_extend PySem.F.type_list_extend mt_extend (pe_fld (pv 0) rfl) (pa_cons (pe_op op_oMul (pe_lstN (pa_cons pe_non pa_nil)) (pe_op op_oSub (pv 1) (pe_callB call_len_seq (by rfl) B.len (by decide +kernel) (pa_cons (pe_fld (pv 0) rfl) pa_nil)))) pa_nil)))
  (pss_one (ps_for PassesOwn.never rfl (pi_list (pv 3)) (pg_name (i := 7) sc_Table_resize.nd rfl (Or.inl rfl))
    (pss_one (ps_if (PW.pt (pw_and (pt_cmpR op_notN (pv 7) pe_non (nomark _)) (pw_and1 (pt_cmpR op_notN (pe_fld (pv 7) rfl) pe_non (nomark _))))) (pss_one (ps_expr (pe_mt c_put (hr.mono (by first | decide | omega)) pass0 (pv 0) (pa_cons (pe_fld (pv 7) rfl) (pa_cons (pe_fld (pv 7) rfl) pa_nil))))) pss_nil)))))))))), ?_⟩
    obtain ⟨⟨dx, ho⟩, ha, hl, hlen, _⟩ := id ht.at_
    walk_at "t"
    refine ⟨G.la, _, rfl, SqL.of ha, fun bl H1 n1 s1 h1 k1 => ?_⟩
    rw [cut_drop] at h1
    have ho1 := s1 _ _ ho
    walk_at "t"
    refine g_new (sz rfl) fun p2 H2 n2 s2 h2 _ => ?_
    walk_at "t"
    refine ⟨m, rfl, by omega, ?_⟩
    walk_at "t"
    refine ⟨_, h2, by omega, by omega, ?_, fun ln H3 n3 s3 h3 _ => ?_⟩
    · rw [Int.toNat_natCast]
      exact Nat.le_trans (show 1 * powF m ≤ 100000 by omega) (by decide)
    rw [Int.toNat_natCast, flat_non] at h3
    have s13 := s2.trans s3
    have ho3 := s13 _ _ ho1
    walk_at "t"
    refine ⟨a, D, dx, _, rfl, ho3, TT.own.cl, TT.n4, by show 5 < 1000; decide, ?_⟩
    have ho4 : upd H3 a (.ins D dx (putF "nodes" (.ref ln) (tbF num me G.la G.ln t.free))) a = some (.ins D dx (tbF num me G.la ln t.free)) := upd_same
    have k4 : ∀ b, b ≠ a → upd H3 a (.ins D dx (putF "nodes" (.ref ln) (tbF num me G.la G.ln t.free))) b = H3 b := fun b hb => upd_ne hb
    generalize upd H3 a (.ins D dx (putF "nodes" (.ref ln) (tbF num me G.la G.ln t.free))) = H4 at ho4 k4 ⊢
    have lna : ln ≠ a := fun z => by rw [z, s2 _ _ ho1] at n3; cases n3
    have laa : G.la ≠ a := fun z => by rw [z, ho] at ha; cases ha
    have hl4 : H4 ln = some (.lst (List.replicate (powF m) .non)) := by rw [k4 _ lna]; exact h3
    walk_at "t"
    refine g_lenL hl4 ?_
    rw [List.length_replicate]
    walk_at "t"
    refine ⟨a, D, dx, _, rfl, ho4, TT.own.cl, TT.n5, by show 5 < 1000; decide, ?_⟩
    have ho5 : upd H4 a (.ins D dx (putF "free" (.int (powF m : Nat)) (tbF num me G.la ln t.free))) a = some (.ins D dx (tbF num me G.la ln (powF m))) := upd_same
    have k5 : ∀ b, b ≠ a → upd H4 a (.ins D dx (putF "free" (.int (powF m : Nat)) (tbF num me G.la ln t.free))) b = H4 b := fun b hb => upd_ne hb
    generalize upd H4 a (.ins D dx (putF "free" (.int (powF m : Nat)) (tbF num me G.la ln t.free))) = H5 at ho5 k5 ⊢
    have ha5 : H5 G.la = some (.lst t.arr) := by rw [k5 _ laa, k4 _ laa]; exact s13 _ _ (s1 _ _ ha)
    walk_at "t"
    refine ⟨G.la, _, rfl, SqL.of ha5, fun la H6 n6 s6 h6 k6 => ?_⟩
    rw [cut_take] at h6
    have ho6 := s6 _ _ ho5
    walk_at "t"
    refine ⟨a, D, dx, _, rfl, ho6, TT.own.cl, TT.n3, by show 5 < 1000; decide, ?_⟩
    have ho7 : upd H6 a (.ins D dx (putF "array" (.ref la) (tbF num me G.la ln (powF m)))) a = some (.ins D dx (tbF num me la ln (powF m))) := upd_same
    have k7 : ∀ b, b ≠ a → upd H6 a (.ins D dx (putF "array" (.ref la) (tbF num me G.la ln (powF m)))) b = H6 b := fun b hb => upd_ne hb
    generalize upd H6 a (.ins D dx (putF "array" (.ref la) (tbF num me G.la ln (powF m)))) = H7 at ho7 k7 ⊢
    have la' : la ≠ a := fun z => by rw [z, ho5] at n6; cases n6
    have hl5 : H5 ln = some (.lst (List.replicate (powF m) .non)) := by rw [k5 _ lna]; exact hl4
    have laln : la ≠ ln := fun z => by rw [z, hl5] at n6; cases n6
    have keep7 : ∀ b o, b ≠ a → H1 b = some o → H7 b = some o := fun b o hb e => by
      rw [k7 b hb]
      refine s6 _ _ ?_
      rw [k5 b hb, k4 b hb]
      exact s13 _ _ e
    have nla : H1 la = none := by
      cases z : H1 la with
      | none => rfl
      | some o =>
        have := s13 _ _ z
        rw [k5 _ la', k4 _ la', this] at n6
        cases n6
    have nln : H1 ln = none := s2.free n3
    have at7 : TbAt D N H7 a num me ⟨la, ln, List.replicate (powF m) .non⟩ ⟨t.arr.take n, List.replicate (powF m) none, powF m⟩ := by
      refine ⟨⟨dx, ho7⟩, by show H7 la = _; rw [k7 _ la']; exact h6, by show H7 ln = _; rw [k7 _ lna]; exact s6 _ _ hl5, by simp, fun i v e => ?_, fun i j b e => ?_, laln⟩
      · show NvAt N H7 v (nd (List.replicate (powF m) none) i)
        rw [nd_new]
        exact List.eq_of_mem_replicate (List.mem_of_getElem? e)
      · have := List.eq_of_mem_replicate (List.mem_of_getElem? e)
        cases this
    have ts7 : TbS C D N H7 a num me ⟨la, ln, List.replicate (powF m) .non⟩ ⟨t.arr.take n, List.replicate (powF m) none, powF m⟩ := by
      refine ⟨at7, TW.new KK _ _, fun i x e => ?_, ?_, by simp; exact hpm⟩
      · have e : nd (List.replicate (powF m) none) i = some x := e
        rw [nd_new] at e; cases e
      · show (t.arr.take n).length ≤ 20000
        have := ht.sa
        rw [List.length_take]; omega
    have fr7 : ∀ b, Fp.In ⟨la, ln, List.replicate (powF m) .non⟩ a b → b = a ∨ H1 b = none := by
      rintro b (z | z | z | z)
      · exact .inl z
      · have z : b = la := z
        rw [z]; exact .inr nla
      · have z : b = ln := z
        rw [z]; exact .inr nln
      · cases List.eq_of_mem_replicate z
    have hbla : bl ≠ a := fun z => by rw [z, ho] at n1; cases n1
    have step : ∀ {H8 H9 : Hp} {F8 F9 : Fp}, (∀ b o, b ≠ a → H1 b = some o → H8 b = some o) → (∀ b, F8.In a b → b = a ∨ H1 b = none) → Frm a F8 H8 H9 → Fsh a F8 F9 H8 → (∀ b o, b ≠ a → H1 b = some o → H9 b = some o) ∧ (∀ b, F9.In a b → b = a ∨ H1 b = none) := by
      intro H8 H9 F8 F9 k8 f8 fr fs
      refine ⟨fun b o hb e => fr b o (fun z => ?_) (k8 b o hb e), fun b hb => ?_⟩
      · rcases f8 b z with z | z
        · exact hb z
        · rw [z] at e; cases e
      · rcases fs b hb with z | z
        · exact f8 b z
        · by_cases hba : b = a
          · exact .inl hba
          · refine .inr ?_
            cases e : H1 b with
            | none => rfl
            | some o => rw [k8 b o hba e] at z; cases z
    have W0 := TW.new KK (κ := Ky) (t.arr.take n) (powF m)
    have hdl : (t.arr.drop n).length ≤ 20000 := by have := ht.sa; rw [List.length_drop]; omega
    walk_at "t"
    refine ⟨bl, _, rfl, SqL.of (keep7 _ _ hbla h1), ?_⟩
    refine for_enum (K := K) (a := bl) (xs := t.arr.drop n) (fun i σ' H' => i ≤ (t.arr.drop n).length ∧ ∃ F8 t8 e5 e6 e7, σ' = [some (.ref a), some (.int n), some (.int m), some (.ref G.ln), some (.ref bl), e5, e6, e7] ∧ TbS C D N H' a num me F8 t8 ∧
      PutA KK ⟨t.arr.take n, List.replicate (powF m) none, powF m⟩ (liveA KK n ((t.arr.drop n).take i)) t8 ∧ (∀ b o, b ≠ a → H1 b = some o → H' b = some o) ∧ (∀ b, F8.In a b → b = a ∨ H1 b = none))
      ⟨Nat.zero_le _, _, _, _, _, _, rfl, ts7, .nil, keep7, fr7⟩ ?_ ?_ ?_
    · rintro i _ H' _ ⟨_, _, _, _, _, _, _, _, _, kp, _⟩
      exact SqL.of (kp _ _ hbla h1)
    · rintro i z _ H8 T hz ⟨hi, F8, t8, e5, e6, e7, rfl, ts8, pa8, kp8, f8⟩ hT
      have hil : i < (t.arr.drop n).length := by
        by_cases y : i < (t.arr.drop n).length
        · exact y
        · rw [List.getElem?_eq_none (by omega)] at hz; cases hz
      have s9 : Same H8 (upd H8 T (.tup [.int (i : Nat), z])) := fun b u e => by rw [upd_ne (ne_of_none e hT)]; exact e
      have hT9 : upd H8 T (.tup [.int (i : Nat), z]) T = some (.tup [.int (i : Nat), z]) := upd_same
      generalize upd H8 T (.tup [.int (i : Nat), z]) = H9 at s9 hT9 ⊢
      have ts9 := ts8.same s9
      obtain ⟨⟨dx9, ho9⟩, ha9, hl9, hlen9, _⟩ := id ts9.at_
      have kp9 : ∀ b o, b ≠ a → H1 b = some o → H9 b = some o := fun b o hb e => s9 _ _ (kp8 b o hb e)
      have el := liveA_take (a := n) hz
      walk_at "t"
      refine ⟨T, _, rfl, SqT.of hT9, rfl, ?_⟩
      walk_at "t"
      refine g_iten (fun hzn => ?_) fun hzn => ?_
      · rw [if_neg hzn] at el
        walk_at "t"
        refine ⟨a, dx9, _, rfl, ho9, rfl, ?_⟩
        walk_at "t"
        have ek : ((n : Int) + (i : Int) + 1) = ((n + i + 1 : Nat) : Int) := by omega
        rw [ek]
        have hb : (((n + i + 1 : Nat) : Int)).natAbs < 2 ^ 5000 := by
          have : n + i + 1 < 2 ^ 64 := by omega
          exact lt_pow_mono (a := 64) (by omega) (by decide)
        obtain ⟨w8, l8, r8, c8⟩ := pa8.ok KK W0
        have l8 : t8.nds.length = powF m := l8.trans (List.length_replicate ..)
        have r8 : t8.arr.length = (t.arr.take n).length := r8
        have c8 : powF m ≤ nn t8.nds + outs KK (t.arr.take n).length (liveA KK n ((t.arr.drop n).take i)) := by
          have := c8
          simp only [nn_new] at this
          exact this
        rw [outs_liveA KK n _ (by rw [List.length_take]; omega)] at c8
        have e8 := liveA_len_mono (a := n) (l := t.arr.drop n) (i := i + 1)
        rw [el, List.length_append] at e8
        have e8 : (liveA KK n ((t.arr.drop n).take i)).length + 1 ≤ (liveA KK n (t.arr.drop n)).length := e8
        refine ⟨a, _, z, num, me, KK.ki _, F8, t8, rfl, ts9, ky_int hb, (fun y => nomatch y), rfl, .inl (nn_ex (by omega)), fun H10 t10 px lf => ?_⟩
        obtain ⟨F10, ts10, fr10, fs10⟩ := lf
        obtain ⟨kp10, f10⟩ := step kp9 f8 fr10 fs10
        walk_at "t"
        refine ⟨hil, F10, t10, some (.int (i : Nat)), some z, e7, rfl, ts10, ?_, kp10, f10⟩
        rw [el]
        exact pa8.snoc KK px.S
      · subst hzn
        rw [if_pos rfl, List.append_nil] at el
        walk_at "t"
        refine ⟨hil, F8, t8, some (.int (i : Nat)), some .non, e7, rfl, ts9, ?_, kp9, f8⟩
        rw [el]
        exact pa8
    · rintro _ H8 ⟨_, F8, t8, e5, e6, e7, rfl, ts8, pa8, kp8, f8⟩
      rw [List.take_of_length_le (Nat.le_refl _)] at pa8
      obtain ⟨w8, l8, r8, c8⟩ := pa8.ok KK W0
      have l8 : t8.nds.length = powF m := l8.trans (List.length_replicate ..)
      have r8 : t8.arr.length = (t.arr.take n).length := r8
      have c8 : powF m ≤ nn t8.nds + outs KK (t.arr.take n).length (liveA KK n (t.arr.drop n)) := by
        have := c8
        simp only [nn_new] at this
        exact this
      rw [outs_liveA KK n _ (by rw [List.length_take]; omega)] at c8
      have r8n : t8.arr.length ≤ n := by rw [r8, List.length_take]; omega
      obtain ⟨⟨dx8, ho8⟩, ha8, hl8, hlen8, _⟩ := id ts8.at_
      walk_at "t"
      refine ⟨tyL ha8, ?_⟩
      walk_at "t"
      refine g_new (sz rfl) fun p9 H9 n9 s9 h9 _ => ?_
      have ho9 := s9 _ _ ho8
      have ha9 := s9 _ _ ha8
      walk_at "t"
      refine g_lenL ha9 ?_
      walk_at "t"
      refine ⟨_, h9, by omega, by omega, ?_, fun xl H10 n10 s10 h10 _ => ?_⟩
      · refine Nat.le_trans (show 1 * ((n : Int) - (t8.arr.length : Nat)).toNat ≤ 100000 by omega) (by decide)
      rw [flat_non] at h10
      have en : ((n : Int) - (t8.arr.length : Nat)).toNat = n - t8.arr.length := by omega
      rw [en] at h10
      walk_at "t"
      refine g_ext (s10 _ _ ha9) h10 (Nat.le_trans (show _ ≤ 100000 by rw [List.length_replicate]; omega) (by decide)) fun H11 h11 k11 => ?_
      have s8 := s9.trans s10
      have at11 := (ts8.same s8).at_.setArr h11 k11
      have fr11 : Frm a F8 H8 H11 := fun b o hb e => by rw [k11 b (fun z => hb (.inr (.inl z)))]; exact s8 _ _ e
      have epa : t8.arr ++ List.replicate (n - t8.arr.length) .non = padA t8.arr n := rfl
      rw [epa] at at11
      have elp : (padA t8.arr n).length = n := by unfold padA; rw [List.length_append, List.length_replicate]; omega
      have ts11 : TbS C D N H11 a num me F8 { t8 with arr := padA t8.arr n } := by
        refine ⟨at11, ts8.wf, fun i x e => ?_, by show (padA t8.arr n).length ≤ 20000; omega, ts8.sn⟩
        exact ⟨(ts8.keys i x e).1.frm L ts8.at_ at11 fr11, (ts8.keys i x e).2⟩
      obtain ⟨kp11, f11⟩ := step kp8 f8 fr11 Fsh.refl
      have glna : G.ln ≠ a := fun z => by rw [z, ho] at hl; cases hl
      have hgl : H1 G.ln = some (.lst G.vs) := s1 _ _ hl
      walk_at "t"
      refine ⟨G.ln, rfl, ⟨_, SqL.of (kp11 _ _ glna hgl)⟩, ?_⟩
      refine for_list (K := K) (a := G.ln) (xs := G.vs) (fun i σ' H' => i ≤ G.vs.length ∧ ∃ F12 t12 e5 e6 e7, σ' = [some (.ref a), some (.int n), some (.int m), some (.ref G.ln), some (.ref bl), e5, e6, e7] ∧ TbS C D N H' a num me F12 t12 ∧
        PutA KK { t8 with arr := padA t8.arr n } (liveN (t.nds.take i)) t12 ∧ (∀ b o, b ≠ a → H1 b = some o → H' b = some o) ∧ (∀ b, F12.In a b → b = a ∨ H1 b = none))
        ⟨Nat.zero_le _, _, _, _, _, _, rfl, ts11, .nil, kp11, f11⟩ ?_ ?_ ?_
      · rintro i _ H' _ ⟨_, _, _, _, _, _, _, _, _, kp, _⟩
        exact SqL.of (kp _ _ glna hgl)
      · rintro i z _ H12 hz ⟨hi, F12, t12, e5', e6', e7', rfl, ts12, pa12, kp12, f12⟩
        have hil : i < G.vs.length := by
          by_cases y : i < G.vs.length
          · exact y
          · rw [List.getElem?_eq_none (by omega)] at hz; cases hz
        have hin : i < t.nds.length := by rw [← hlen]; exact hil
        have hv := ht.at_.nds i z hz
        have eno := nd_at hin
        have el := liveN_take eno
        obtain ⟨⟨dx12, ho12⟩, ha12, hl12, hlen12, _⟩ := id ts12.at_
        cases en : nd t.nds i with
        | none =>
          rw [en] at hv el
          have hv : z = .non := hv
          subst hv
          have el : liveN (t.nds.take (i + 1)) = liveN (t.nds.take i) := by rw [el]; exact List.append_nil _
          walk_at "t"
          refine g_iten (fun y => absurd rfl y) fun _ => ?_
          walk_at "t"
          refine ⟨hil, F12, t12, e5', e6', some .non, rfl, ts12, ?_, kp12, f12⟩
          rw [el]
          exact pa12
        | some x =>
          rw [en] at hv el
          obtain ⟨b, dxb, rfl, hb⟩ := hv
          rw [liveN_some] at el
          have hba : b ≠ a := fun z => by
            rw [z, ho] at hb
            injection hb with hb
            injection hb with e1
            exact L.dn e1
          have hb12 := kp12 _ _ hba (s1 _ _ hb)
          obtain ⟨kx, gx⟩ := ht.keys i x en
          have frG : Frm a G H H12 := fun c o hc e => kp12 c o (fun z => hc (.inl z)) (s1 _ _ e)
          have kx12 := kx.frm L ht.at_ ts12.at_ frG
          walk_at "t"
          refine g_iten (fun _ => ?_) fun z => nomatch z
          walk_at "t"
          refine g_iten (fun hzn => ?_) fun hzn => ?_
          · rw [if_neg hzn] at el
            walk_at "t"
            refine ⟨a, dx12, _, rfl, ho12, rfl, ?_⟩
            walk_at "t"
            obtain ⟨w12, l12, r12, c12⟩ := pa12.ok KK ts8.wf
            have r12 : t12.arr.length = n := r12.trans elp
            have c12 : nn t8.nds ≤ nn t12.nds + outs KK n (liveN (t.nds.take i)) := by
              have := c12
              simp only [elp] at this
              exact this
            have o12 := outs_take (l := t.nds) (i := i + 1) (n := n)
            rw [el, outs_append] at o12
            have rm : Room0 t12 ∨ inside KK t12 x.key := by
              by_cases hin : inB KK n x.key = true
              · refine .inr ((inB_iff KK).mpr ?_)
                rw [r12]; exact hin
              · refine .inl (nn_ex ?_)
                have o1 : outs KK n [(x.key, x.kv, x.val)] = 1 := by
                  unfold outs
                  rw [List.countP_cons]
                  simp [hin]
                omega
            have epk : plK x.key = x.key := plK_self gx
            have epv : plV x.kv x.key.x = x.kv := plV_self kx12.1 gx.pl
            refine ⟨a, _, _, num, me, x.key, F12, t12, rfl, ts12, kx12, gx.nn, gx.nan, by rw [epk]; exact rm, fun H13 t13 px lf => ?_⟩
            rw [epk, epv] at px
            obtain ⟨F13, ts13, fr13, fs13⟩ := lf
            obtain ⟨kp13, f13⟩ := step kp12 f12 fr13 fs13
            walk_at "t"
            refine ⟨hil, F13, t13, e5', e6', some (.ref b), rfl, ts13, ?_, kp13, f13⟩
            rw [el]
            exact pa12.snoc KK px.S
          · rw [if_pos hzn, List.append_nil] at el
            walk_at "t"
            refine ⟨hil, F12, t12, e5', e6', some (.ref b), rfl, ts12, ?_, kp12, f12⟩
            rw [el]
            exact pa12
      · rintro _ H12 ⟨_, F12, t12, e5', e6', e7', rfl, ts12, pa12, kp12, f12⟩
        rw [List.take_of_length_le (by rw [hlen]; exact Nat.le_refl _)] at pa12
        walk_at "t"
        refine q H12 t12 (.mk pa8 pa12) ⟨F12, ts12, fun b o hb e => kp12 b o (fun z => hb (.inl z)) (s1 _ _ e), fun b hb => ?_⟩
        rcases f12 b hb with z | z
        · exact .inl (.inl z)
        · exact .inr (s1.free z)
end
end Up

set_option Elab.async false
set_option linter.all false
set_option pp.maxSteps 600
set_option maxRecDepth 100000
set_option maxHeartbeats 4000000
set_option exponentiation.threshold 200000
namespace Up
open PySem PySem.Spec PyProof.Rows L2
/-! ### how many keys are where: what grow counts -/
def slB (k : Ky) : Option Nat := match whA k.x with
  | some i => if 1 ≤ i ∧ i ≤ 2147483648 then some (bitsN (i - 1).toNat) else none
  | none => none
theorem slB_lt {k : Ky} {p : Nat} (h : slB k = some p) : p < 32 := by
  unfold slB at h
  split at h
  · rename_i i _
    split at h
    · rename_i hi
      injection h with h
      have : bitsN (i - 1).toNat ≤ 31 := bits_le (by
        have : (2 : Nat) ^ 31 = 2147483648 := by decide
        omega)
      omega
    · cases h
  · cases h
def slP (p : Nat) (k : Ky) : Bool := decide (slB k = some p)
def slL (p : Nat) (k : Ky) : Bool := match slB k with
  | some q => decide (q < p)
  | none => false
theorem inB_sl (k : Ky) {p : Nat} (hp : p ≤ 31) : inB KK (2 ^ p) k = slL (p + 1) k := by
  unfold inB slL slB
  show (match whA k.x with | some i => decide (1 ≤ i) && decide (i ≤ (2 ^ p : Nat)) | none => false) = _
  cases whA k.x with
  | none => rfl
  | some i =>
    have h2 : (2 : Nat) ^ p ≤ 2 ^ 31 := Nat.pow_le_pow_right (by decide) hp
    have h3 : (2 : Nat) ^ 31 = 2147483648 := by decide
    by_cases h : 1 ≤ i ∧ i ≤ 2147483648
    · simp only [h, and_self, if_true, decide_true, Bool.true_and]
      by_cases h4 : i ≤ ((2 ^ p : Nat) : Int)
      · have : bitsN (i - 1).toNat ≤ p := bits_le (by omega)
        rw [decide_eq_true h4, decide_eq_true (by omega)]
      · have : p + 1 ≤ bitsN (i - 1).toNat := le_bits (by omega)
        rw [decide_eq_false h4, decide_eq_false (by omega)]
    · simp only [h, if_false]
      by_cases h1 : 1 ≤ i
      · rw [decide_eq_false (p := i ≤ ((2 ^ p : Nat) : Int)) (by omega), Bool.and_false]
      · rw [decide_eq_false h1, Bool.false_and]
theorem cnt_sl (l : List Ky) (p : Nat) : l.countP (slL (p + 1)) = l.countP (slL p) + l.countP (slP p) := by
  induction l with
  | nil => rfl
  | cons k l ih =>
    rw [List.countP_cons, List.countP_cons, List.countP_cons, ih]
    have : (if slL (p + 1) k = true then 1 else 0) = (if slL p k = true then 1 else 0) + (if slP p k = true then 1 else 0) := by
      unfold slL slP
      cases slB k with
      | none => simp
      | some q =>
        simp only [Option.some.injEq, decide_eq_true_eq]
        by_cases h1 : q < p
        · simp [h1, show q < p + 1 by omega, show q ≠ p by omega]
        · by_cases h2 : q = p
          · simp [h2]
          · simp [h1, h2, show ¬ q < p + 1 by omega]
    omega
def csL (l : List Ky) : List Nat := (List.range 32).map fun p => l.countP (slP p)
theorem csL_len (l : List Ky) : (csL l).length = 32 := by unfold csL; simp
theorem csL_get (l : List Ky) {p : Nat} (h : p < 32) : (csL l).getD p 0 = l.countP (slP p) := by
  unfold csL
  rw [List.getD_eq_getElem?_getD, List.getElem?_map, List.getElem?_range h]
  rfl
theorem bs_eq (l : List Ky) : ∀ p, p ≤ 32 → (bsG (csL l) p).1 = l.countP (slL p) ∧ (bsG (csL l) p).2 = bestK KK l p := by
  intro p
  induction p with
  | zero =>
    intro _
    refine ⟨?_, rfl⟩
    show 0 = _
    symm
    rw [List.countP_eq_zero]
    intro k _
    unfold slL
    cases slB k <;> simp
  | succ p ih =>
    intro hp
    obtain ⟨h1, h2⟩ := ih (by omega)
    have e : cntIn KK (2 ^ p) l = l.countP (slL (p + 1)) := by
      unfold cntIn
      congr 1
      funext k
      exact inB_sl k (by omega)
    have e2 : (bsG (csL l) p).1 + (csL l).getD p 0 = l.countP (slL (p + 1)) := by rw [h1, csL_get l (by omega), cnt_sl]
    unfold bsG bestK
    rw [e, e2]
    split
    · exact ⟨rfl, rfl⟩
    · refine ⟨rfl, ?_⟩
      show ((bsG (csL l) p).2.1, (bsG (csL l) p).2.2) = _
      rw [← h2]
theorem bestK_le (l : List Ky) (p : Nat) : (bestK KK l p).1 ≤ 2 * l.length := by
  induction p with
  | zero => exact Nat.zero_le _
  | succ p ih =>
    unfold bestK
    split
    · rename_i h
      have : cntIn KK (2 ^ p) l ≤ l.length := List.countP_le_length
      show 2 ^ p ≤ _
      omega
    · exact ih
theorem bestK_cnt (l : List Ky) (p : Nat) : (bestK KK l p).2 ≤ l.length := by
  rw [bestK_in]
  exact List.countP_le_length
theorem powF_ge (n : Nat) : n ≤ powF n := by
  unfold powF
  split
  · omega
  · have := bits_lt (n - 1)
    omega
theorem powF_le (n : Nat) : powF n ≤ 2 * n := by
  unfold powF
  split
  · omega
  · by_cases h : n - 1 = 0
    · rw [h]; show 1 ≤ _; omega
    · have h1 := bits_ge h
      have h2 := bits_pos h
      have : 2 ^ bitsN (n - 1) = 2 * 2 ^ (bitsN (n - 1) - 1) := by
        rw [← Nat.pow_succ']
        congr 1
        omega
      omega
theorem cnt_not (l : List Ky) (n : Nat) : l.length = cntIn KK n l + l.countP (fun k => !inB KK n k) := by
  unfold cntIn
  induction l with
  | nil => rfl
  | cons k l ih =>
    rw [List.countP_cons, List.countP_cons, List.length_cons]
    cases inB KK n k <;> simp <;> omega
theorem arr_outs (b : Nat) : ∀ (l : List V) (a : Nat), (arrK KK a l).countP (fun k => !inB KK b k) = (liveA KK (max a b) (l.drop (b - a))).length := by
  intro l
  induction l with
  | nil => intro a; rw [List.drop_nil]; rfl
  | cons v l ih =>
    intro a
    have hin : inB KK b (KK.ki ((a + 1 : Nat) : Int)) = decide (a + 1 ≤ b) := by
      unfold inB
      rw [KK.wk]
      show (decide ((1 : Int) ≤ ((a + 1 : Nat) : Int)) && decide (((a + 1 : Nat) : Int) ≤ (b : Int))) = _
      rw [decide_eq_true (by omega), Bool.true_and]
      by_cases h : a + 1 ≤ b
      · rw [decide_eq_true h, decide_eq_true (by omega)]
      · rw [decide_eq_false h, decide_eq_false (by omega)]
    by_cases hab : a < b
    · have e1 : (v :: l).drop (b - a) = l.drop (b - (a + 1)) := by
        have : b - a = (b - (a + 1)) + 1 := by omega
        rw [this, List.drop_succ_cons]
      have e2 : max a b = max (a + 1) b := by omega
      rw [e1, e2, ← ih (a + 1)]
      show (if v = .non then arrK KK (a + 1) l else KK.ki (a + 1 : Nat) :: arrK KK (a + 1) l).countP _ = _
      split
      · rfl
      · rw [List.countP_cons, hin, decide_eq_true (by omega)]
        rfl
    · have e0 : b - a = 0 := by omega
      have e2 : max a b = a := by omega
      have e3 : b - (a + 1) = 0 := by omega
      have e4 : max (a + 1) b = a + 1 := by omega
      have := ih (a + 1)
      rw [e3, e4, List.drop_zero] at this
      rw [e0, e2, List.drop_zero]
      show (if v = .non then arrK KK (a + 1) l else KK.ki (a + 1 : Nat) :: arrK KK (a + 1) l).countP _ = (if v = .non then liveA KK (a + 1) l else (KK.ki (a + 1 : Nat), V.int (a + 1 : Nat), v) :: liveA KK (a + 1) l).length
      split
      · exact this
      · rw [List.countP_cons, hin, decide_eq_false (by omega), this]
        rfl
def grB (t : Tb Ky) (k : Ky) : Nat := (bestK KK (keysK KK t k) 32).1
def grM (t : Tb Ky) (k : Ky) : Nat := (keysK KK t k).length - (bestK KK (keysK KK t k) 32).2
def lv (t : Tb Ky) : Nat := (liveA KK 0 t.arr).length + (liveN t.nds).length
theorem keys_len (t : Tb Ky) (k : Ky) : (keysK KK t k).length = lv t + 1 := by
  unfold keysK lv ndK
  rw [arrK_live]
  simp only [List.length_append, List.length_map, List.length_cons, List.length_nil]
  omega
theorem gr_room (t : Tb Ky) (k : Ky) : (liveA KK (grB t k) (t.arr.drop (grB t k))).length + outs KK (grB t k) (liveN t.nds) + (if inB KK (grB t k) k = true then 0 else 1) ≤ powF (grM t k) := by
  refine Nat.le_trans ?_ (powF_ge _)
  unfold grM
  have h1 := bestK_in KK (keysK KK t k) 32
  have h2 := cnt_not (keysK KK t k) (grB t k)
  have h3 : ∀ b, (keysK KK t k).countP (fun q => !inB KK b q) = (liveA KK b (t.arr.drop b)).length + (if inB KK b k = true then 0 else 1) + outs KK b (liveN t.nds) := by
    intro b
    unfold keysK ndK
    rw [List.countP_append, List.countP_append, arr_outs]
    have e1 : max 0 b = b := by omega
    rw [e1, Nat.sub_zero, List.countP_map]
    have e2 : (List.countP (fun q => !inB KK b q) [k]) = (if inB KK b k = true then 0 else 1) := by
      rw [List.countP_cons, List.countP_nil]
      cases inB KK b k <;> rfl
    rw [e2]
    rfl
  rw [h3 (grB t k)] at h2
  have h4 : grB t k = (bestK KK (keysK KK t k) 32).1 := rfl
  rw [← h4] at h1
  omega
/-! how many values there are -/
theorem cnt_set_le {α : Type} {p : α → Bool} : ∀ {l : List α} {i : Nat} {x : α}, (l.set i x).countP p ≤ l.countP p + 1
  | [], _, _ => by simp
  | a :: l, 0, x => by simp only [List.set_cons_zero, List.countP_cons]; split <;> split <;> omega
  | a :: l, i + 1, x => by
    have := cnt_set_le (p := p) (l := l) (i := i) (x := x)
    simp only [List.set_cons_succ, List.countP_cons]
    omega
theorem cnt_set_dn {α : Type} {p : α → Bool} : ∀ {l : List α} {i : Nat} {x y : α}, l[i]? = some y → (p x = true → p y = true) → (l.set i x).countP p ≤ l.countP p
  | [], _, _, _, h, _ => by simp at h
  | a :: l, 0, x, y, h, e => by
    simp only [List.getElem?_cons_zero, Option.some.injEq] at h
    subst h
    simp only [List.set_cons_zero, List.countP_cons]
    by_cases hx : p x = true
    · simp [hx, e hx]
    · simp [hx]
  | a :: l, i + 1, x, y, h, e => by
    simp only [List.getElem?_cons_succ] at h
    have := cnt_set_dn (p := p) (l := l) (i := i) h e
    simp only [List.set_cons_succ, List.countP_cons]
    omega
def lvN (o : Option (Nd Ky)) : Bool := match o with
  | some x => !decide (x.val = .non)
  | none => false
def lvA (v : V) : Bool := !decide (v = .non)
theorem liveN_len (l : Nds Ky) : (liveN l).length = l.countP lvN := by
  induction l with
  | nil => rfl
  | cons o l ih =>
    rw [List.countP_cons, ← ih]
    cases o with
    | none =>
      show (liveN l).length = _
      simp [lvN]
    | some x =>
      by_cases h : x.val = .non
      · have : liveN (some x :: l) = liveN l := by unfold liveN; rw [List.filterMap_cons]; simp [h]
        rw [this]; simp [lvN, h]
      · have : liveN (some x :: l) = (x.key, x.kv, x.val) :: liveN l := by unfold liveN; rw [List.filterMap_cons]; simp [h]
        rw [this]; simp [lvN, h]
theorem liveA_len (a : Nat) (l : List V) : (liveA KK a l).length = l.countP lvA := by
  induction l generalizing a with
  | nil => rfl
  | cons v l ih =>
    rw [List.countP_cons]
    unfold liveA
    split
    · rename_i h
      rw [ih]; simp [lvA, h]
    · rename_i h
      rw [List.length_cons, ih]; simp [lvA, h]
theorem lv_eq (t : Tb Ky) : lv t = t.arr.countP lvA + t.nds.countP lvN := by unfold lv; rw [liveN_len, liveA_len]
theorem PutN.lv {t t' : Tb Ky} {k : Ky} {kv u : V} (W : TW KK t) (h : PutN KK t k kv u t') : lv t' ≤ lv t + 1 := by
  rw [lv_eq, lv_eq]
  cases h with
  | repl a ha hlt hv =>
    have := cnt_set_le (p := lvN) (l := t.nds) (i := a) (x := some ⟨k, kv, u, (nd t.nds a).bind (·.link), false⟩)
    show t.arr.countP lvA + (t.nds.set a _).countP lvN ≤ _
    omega
  | coll a f h ha F e hv hh =>
    have hf : f < t.nds.length := Nat.lt_of_lt_of_le F.lt W.frn
    have hal := nd_lt e
    have hfa : a ≠ f := fun z => by rw [z, F.none] at e; cases e
    have h1 := cnt_set_le (p := lvN) (l := t.nds) (i := f) (x := some ⟨k, kv, u, h.link, false⟩)
    have h2 := cnt_set_dn (p := lvN) (l := t.nds.set f (some ⟨k, kv, u, h.link, false⟩)) (i := a) (x := some { h with link := some f }) (y := some h) (by rw [nd_at (by rw [List.length_set]; exact hal), nd_set hf, fu_ne hfa, e]) (fun z => z)
    show t.arr.countP lvA + ((t.nds.set f _).set a _).countP lvN ≤ _
    omega
  | move a f p h q ha F e hv hh hp hq =>
    have hf : f < t.nds.length := Nat.lt_of_lt_of_le F.lt W.frn
    have hal := nd_lt e
    have hpl := nd_lt hp
    have hfa : a ≠ f := fun z => by rw [z, F.none] at e; cases e
    obtain ⟨rk, hr⟩ := W.rnk
    have hpa : a ≠ p := fun z => by have := hr _ _ ⟨q, hp, hq⟩; rw [z] at this; omega
    have h0 := cnt_set_dn (p := lvN) (l := t.nds) (i := p) (x := some { q with link := some f }) (y := some q) (by rw [nd_at hpl, hp]) (fun z => z)
    have h1 := cnt_set_le (p := lvN) (l := t.nds.set p (some { q with link := some f })) (i := f) (x := some h)
    have h2 := cnt_set_dn (p := lvN) (l := (t.nds.set p (some { q with link := some f })).set f (some h)) (i := a) (x := some ⟨k, kv, u, none, false⟩) (y := some h) (by rw [nd_at (by rw [List.length_set, List.length_set]; exact hal), nd_set (by rw [List.length_set]; exact hf), fu_ne hfa, nd_set hpl, fu_ne hpa, e]) (fun _ => by simp [lvN, hv])
    show t.arr.countP lvA + (((t.nds.set p _).set f _).set a _).countP lvN ≤ _
    omega
theorem PutS.lv {t t' : Tb Ky} {k : Ky} {kv u : V} (W : TW KK t) (h : PutS KK t k kv u t') : lv t' ≤ lv t + 1 := by
  cases h with
  | ins i e h1 h2 =>
    rw [lv_eq, lv_eq]
    have := cnt_set_le (p := lvA) (l := t.arr) (i := (i - 1).toNat) (x := u)
    show (t.arr.set _ _).countP lvA + t.nds.countP lvN ≤ _
    omega
  | fnd r x ni f e =>
    rw [lv_eq, lv_eq]
    have := cnt_set_le (p := lvN) (l := t.nds) (i := r) (x := some { x with val := u })
    show t.arr.countP lvA + (t.nds.set r _).countP lvN ≤ _
    omega
  | skip ni f e => omega
  | new ni f e h => exact h.lv W
theorem PutA.lv {t t' : Tb Ky} {l : List (Ky × V × V)} (h : PutA KK t l t') (W : TW KK t) : lv t' ≤ lv t + l.length := by
  induction h with
  | nil => simp
  | cons a _ ih =>
    have h1 := a.lv W
    have h2 := ih (a.ok KK W).1
    rw [List.length_cons]
    omega
theorem Rsz.lv {t t' : Tb Ky} {n m : Nat} (h : Rsz KK t n m t') : lv t' ≤ lv t := by
  cases h with
  | mk h1 h2 =>
    rename_i t1
    have W0 := TW.new KK (κ := Ky) (t.arr.take n) m
    have w1 := (h1.ok KK W0).1
    have a1 := h1.lv W0
    have a2 := h2.lv (show TW KK { t1 with arr := padA t1.arr n } from w1)
    rw [lv_eq] at a1 a2 ⊢
    rw [lv_eq] at a1 a2 ⊢
    have e1 : (padA t1.arr n).countP lvA = t1.arr.countP lvA := by
      unfold padA
      rw [List.countP_append]
      have : (List.replicate (n - t1.arr.length) V.non).countP lvA = 0 := by
        rw [List.countP_eq_zero]
        intro v hv
        rw [List.eq_of_mem_replicate hv]
        simp [lvA]
      omega
    have e2 : (List.replicate m (none : Option (Nd Ky))).countP lvN = 0 := by
      rw [List.countP_eq_zero]
      intro v hv
      rw [List.eq_of_mem_replicate hv]
      simp [lvN]
    have e3 : (liveA KK n (t.arr.drop n)).length = (t.arr.drop n).countP lvA := liveA_len _ _
    have e4 : (t.arr.take n).countP lvA + (t.arr.drop n).countP lvA = t.arr.countP lvA := by rw [← List.countP_append, List.take_append_drop]
    have e5 := liveN_len t.nds
    have a1 : t1.arr.countP lvA + t1.nds.countP lvN ≤ (t.arr.take n).countP lvA + (List.replicate m (none : Option (Nd Ky))).countP lvN + (liveA KK n (t.arr.drop n)).length := a1
    have a2 : t'.arr.countP lvA + t'.nds.countP lvN ≤ (padA t1.arr n).countP lvA + t1.nds.countP lvN + (liveN t.nds).length := a2
    omega
theorem Rsz.ok {t t' : Tb Ky} {n m : Nat} (h : Rsz KK t n m t') : TW KK t' ∧ t'.arr.length = n ∧ t'.nds.length = m ∧ m ≤ nn t'.nds + (liveA KK n (t.arr.drop n)).length + outs KK n (liveN t.nds) := by
  cases h with
  | mk h1 h2 =>
    rename_i t1
    have W0 := TW.new KK (κ := Ky) (t.arr.take n) m
    obtain ⟨w1, l1, r1, c1⟩ := h1.ok KK W0
    have r1 : t1.arr.length = (t.arr.take n).length := r1
    have l1 : t1.nds.length = m := l1.trans (List.length_replicate ..)
    have elp : (padA t1.arr n).length = n := by
      unfold padA
      rw [List.length_append, List.length_replicate, r1, List.length_take]
      omega
    obtain ⟨w2, l2, r2, c2⟩ := h2.ok KK (show TW KK { t1 with arr := padA t1.arr n } from w1)
    refine ⟨w2, r2.trans elp, l2.trans l1, ?_⟩
    have c1 : m ≤ nn t1.nds + outs KK (t.arr.take n).length (liveA KK n (t.arr.drop n)) := by
      have := c1
      simp only [nn_new] at this
      exact this
    rw [outs_liveA KK n _ (by rw [List.length_take]; omega)] at c1
    have c2 : nn t1.nds ≤ nn t'.nds + outs KK n (liveN t.nds) := by
      have := c2
      simp only [elp] at this
      exact this
    omega
end Up

set_option Elab.async false
set_option linter.all false
set_option pp.maxSteps 600
set_option maxRecDepth 100000
set_option maxHeartbeats 4000000
set_option exponentiation.threshold 200000
namespace Up
open PySem PySem.Spec PyProof.Rows L2
local macro_rules | `(tactic| walk_at "u") => `(tactic| first
  | with_reducible refine g_seq ?_
  | with_reducible refine g_asg ?_
  | with_reducible refine g_op ?_
  | ((with_reducible show tVar _ _ _ _); apply g_var; exact rfl)
  | with_reducible refine g_c ?_
  | with_reducible refine g_name ?_
  | with_reducible refine g_ifs ?_
  | with_reducible refine g_tt ?_
  | with_reducible refine g_tB ?_
  | with_reducible refine g_bl ?_
  | with_reducible refine g_ret ?_
  | with_reducible refine g_cb ?_
  | with_reducible refine g_cons ?_
  | with_reducible refine g_nil ?_
  | with_reducible refine g_call ?_
  | with_reducible refine g_and ?_
  | with_reducible refine g_or ?_
  | with_reducible refine g_not ?_
  | with_reducible refine g_andV ?_
  | with_reducible refine g_orV ?_
  | with_reducible refine g_notV ?_
  | with_reducible refine g_if ?_
  | with_reducible refine g_un ?_
  | with_reducible refine g_neg ?_
  | with_reducible refine g_addI ?_
  | with_reducible refine g_subI ?_
  | with_reducible refine g_subB ?_
  | with_reducible refine g_I0 ?_
  | with_reducible refine g_cmpI ?_
  | with_reducible refine g_eqI ?_
  | with_reducible refine g_neI ?_
  | with_reducible refine g_eqS ?_
  | with_reducible refine g_neS ?_
  | with_reducible refine g_eqB ?_
  | with_reducible refine g_neB ?_
  | with_reducible refine g_bits ?_
  | with_reducible refine g_bitsI ?_
  | with_reducible refine g_fld ?_
  | with_reducible refine g_tup ?_
  | with_reducible refine g_lst ?_
  | with_reducible refine g_gtup ?_
  | with_reducible refine g_make ?_
  | with_reducible refine g_lc ?_
  | with_reducible refine g_yesT ?_
  | with_reducible refine g_intI ?_
  | with_reducible refine g_intB ?_
  | with_reducible refine g_max2 ?_
  | with_reducible refine g_abs1 ?_
  | with_reducible refine g_for ?_
  | with_reducible refine g_iList ?_
  | with_reducible refine g_iTup ?_
  | with_reducible refine g_iRng1 ?_
  | with_reducible refine g_iEnum ?_
  | with_reducible refine g_slice ?_
  | with_reducible refine g_po0 ?_
  | with_reducible refine g_po1 ?_
  | with_reducible refine g_gsub ?_
  | with_reducible refine g_par ?_
  | with_reducible refine g_par2 ?_
  | with_reducible refine g_rfl ?_
  | with_reducible refine g_meth ?_
  | with_reducible refine g_gcons ?_
  | with_reducible refine g_gnil ?_
  | with_reducible refine g_gfld ?_
  | with_reducible refine g_sfld ?_
  | with_reducible refine g_drop ?_
  | with_reducible refine g_next ?_
  | with_reducible refine iteT ?_
  | with_reducible refine iteF ?_)
local macro_rules | `(tactic| walk_at "go") => `(tactic| (repeat walk_at "u"))
local macro_rules | `(tactic| walk_at "t") => `(tactic| (repeat (first
  | walk_at "u"
  | with_reducible refine g_chain ?_
  | with_reducible refine g_par3 ?_
  | with_reducible refine g_par3' ?_
  | with_reducible refine g_augS ?_
  | with_reducible refine g_nt ?_
  | with_reducible refine g_nf ?_
  | with_reducible refine g_methK ?_
  | with_reducible refine g_makeK ?_
  | with_reducible refine g_iRng2 ?_
  | with_reducible refine g_bm ?_
  | with_reducible refine g_fldaug ?_
  | with_reducible refine g_iStr ?_
  | with_reducible refine g_ipI ?_
  | ((with_reducible show tAug _ _ _ _ _ _); refine ⟨_, rfl, ?_⟩)
  | ((with_reducible refine show_exT ?_); first
    | refine rdT3 (by assumption) (by assumption) ?_
    | refine rdT4 (by assumption) (by assumption) ?_
    | refine rdT5 (by assumption) (by assumption) ?_
    | refine rdT1 (by assumption) (by assumption) ?_
    | refine rdT2 (by assumption) (by assumption) ?_
    | refine rdN1 (by assumption) (by assumption) ?_
    | refine rdN2 (by assumption) (by assumption) ?_
    | refine rdN3 (by assumption) (by assumption) ?_
    | refine rdN4 (by assumption) (by assumption) ?_))))

theorem map1_app (l r : List (Ky × V × V)) : (l ++ r).map (·.2.1) = l.map (·.2.1) ++ r.map (·.2.1) := List.map_append
section
variable {P : Program} {w : World} {K : PySem.W.Frag} {mg : Str → Option Value} {base : Heap} {C D N : Addr} {H H' : Hp} {a : Addr} {num me : V} {F F' : Fp} {t t' : Tb Ky}
/-- the items whose keys are counted -/
def grL (t : Tb Ky) (k : Ky) (v : V) : List (Ky × V × V) := liveA KK 0 t.arr ++ [(k, v, .non)] ++ liveN t.nds
theorem grL_keys (t : Tb Ky) (k : Ky) (v : V) : (grL t k v).map (·.1) = keysK KK t k := by
  unfold grL keysK ndK
  rw [arrK_live, List.map_append, List.map_append]
  rfl
theorem liveA_mem {a : Nat} {l : List V} {q : Ky × V × V} (h : q ∈ liveA KK a l) (hl : a + l.length ≤ 100000) : ∃ i : Nat, q.1 = KK.ki i ∧ q.2.1 = .int i ∧ i ≤ 100000 := by
  induction l generalizing a with
  | nil => cases h
  | cons v l ih =>
    rw [List.length_cons] at hl
    unfold liveA at h
    split at h
    · exact ih h (by omega)
    · rcases List.mem_cons.mp h with rfl | h
      · exact ⟨a + 1, rfl, rfl, by omega⟩
      · exact ih h (by omega)
theorem liveN_mem {l : Nds Ky} {q : Ky × V × V} (h : q ∈ liveN l) : ∃ i x, nd l i = some x ∧ q = (x.key, x.kv, x.val) := by
  unfold liveN at h
  rw [List.mem_filterMap] at h
  obtain ⟨o, ho, e⟩ := h
  cases o with
  | none => cases e
  | some x =>
    obtain ⟨i, hi, ei⟩ := List.getElem_of_mem ho
    refine ⟨i, x, ?_, ?_⟩
    · unfold nd
      rw [List.getElem?_eq_getElem hi, ei]
      rfl
    · have e : (if x.val = .non then none else some (x.key, x.kv, x.val)) = some q := e
      split at e
      · cases e
      · exact (Option.some.inj e).symm
theorem grL_at (ht : TbS C D N H a num me F t) {k : Ky} {v : V} (hk : KyAt C D H v k) {q : Ky × V × V} (h : q ∈ grL t k v) : KyAt C D H q.2.1 q.1 := by
  unfold grL at h
  rw [List.mem_append, List.mem_append] at h
  rcases h with (h | h) | h
  · obtain ⟨i, e1, e2, hi⟩ := liveA_mem h (by have := ht.sa; omega)
    rw [e1, e2]
    refine ky_int ?_
    have : i < 2 ^ 64 := by omega
    exact lt_pow_mono (a := 64) (by omega) (by decide)
  · simp only [List.mem_cons, List.not_mem_nil, or_false] at h
    rw [h]
    exact hk
  · obtain ⟨i, x, e, rfl⟩ := liveN_mem h
    exact (ht.keys i x e).1
theorem csL_step (l : List Ky) (k : Ky) {p : Nat} (h : slB k = some p) : csL (l ++ [k]) = (csL l).set p ((csL l).getD p 0 + 1) := by
  have hp := slB_lt h
  apply List.ext_getElem?
  intro i
  rw [List.getElem?_set]
  unfold csL
  rw [List.getElem?_map, List.getElem?_map]
  by_cases hi : i < 32
  · rw [List.getElem?_range hi]
    simp only [Option.map_some, List.countP_append, List.countP_cons, List.countP_nil]
    by_cases hpi : p = i
    · subst hpi
      have e := csL_get l hp
      unfold csL at e
      have this : slP p k = true := by unfold slP; rw [h]; simp
      rw [e]
      simp [this, hp]
    · rw [if_neg hpi]
      have : slP i k = false := by unfold slP; rw [h]; simp [hpi]
      simp [this]
  · have e1 : (List.range 32)[i]? = none := by rw [List.getElem?_eq_none]; simp; omega
    rw [e1]
    simp only [Option.map_none]
    by_cases hpi : p = i
    · omega
    · rw [if_neg hpi]
theorem csL_none (l : List Ky) (k : Ky) (h : slB k = none) : csL (l ++ [k]) = csL l := by
  unfold csL
  apply List.map_congr_left
  intro p _
  rw [List.countP_append, List.countP_cons, List.countP_nil]
  have : slP p k = false := by unfold slP; rw [h]; simp
  simp [this]
theorem csL_nil : csL [] = List.replicate 32 0 := by decide
/-! grow -/
abbrev s_Table_grow : Stmt := inClass (top 37) 9
theorem sc_Table_grow : FnScope ["self", "key", "counts", "keys", "at", "value", "node", "one", "array", "inside"] ["self", "key"] (defScope s_Table_grow) := ⟨rfl, rfl, rfl, by decide +kernel, rfl, by decide +kernel, by decide +kernel⟩
def Grw (t : Tb Ky) (k : Ky) (t' : Tb Ky) : Prop := Rsz KK t (grB t k) (powF (grM t k)) t'
def sp_grow (C D N : Addr) : Sp := fun vs H Q _ => ∃ (a : Addr) (v num me : V) (k : Ky) (F : Fp) (t : Tb Ky), vs = [.ref a, v] ∧ TbS C D N H a num me F t ∧ KyAt C D H v k ∧ lv t < 4000 ∧
  ∀ H' t', Grw t k t' → Left C D N a num me F H H' t' → Q .non H'
theorem ok_grow {f : Addr} {fd : FuncData} (F : FunD K "grow" "Table.grow" (defArgs s_Table_grow) (defBody s_Table_grow) (defScope s_Table_grow) [] [] f fd) (B : Blt mg) (L : Cl3 C D N) (TT : TbC K mg D) (TN : NdC K mg N) (T : FlC K mg C) (O : ObC K C D) (i_MOST_PLACE : ∃ t, mg "MOST_PLACE" = some (.int 2147483648 t)) (c_iswhole : Fn P w K mg base CX0 1 "is_whole" ["key"] [] (sp_iswhole K))
    (c_bestsize : Fn P w K mg base CX0 1 "best_size" ["counts"] [] sp_bestsize) (c_resize : Mt P w K mg base CX0 7 D "resize" ["self", "array", "nodes"] (sp_resize C D N)) : FnOk P w K mg base CX0 8 f fd ["self", "key"] (sp_grow C D N) := by
  refine F.ok sc_Table_grow (fun vs H Q E h => ?_) (fun cdv A outer s H vs Q E hr h => ?_)
  · obtain ⟨_, _, _, _, _, _, _, rfl, _⟩ := h; rfl
  · obtain ⟨a, v, num, me, k, G, t, rfl, ht, hk, hlv, q⟩ := h
    refine ⟨_, PSs.nox (pss_cons (ps_set (i := 2) sc_Table_grow.nd rfl (Or.inl rfl) (pe_op op_oMul (pe_lstN (pa_cons pe_int pa_nil)) pe_int))
  (pss_cons (ps_set (i := 3) sc_Table_grow.nd rfl (Or.inl rfl) (pe_op op_oAdd (pe_lc (own := [("at", 4), ("value", 5)]) (g := gTup K 2 (gCons (gName 4) (gCons (gName 5) gNil))) rfl sc_Table_grow.nd (pi_enum (by rfl) B.enumerate (pa_cons (pe_fld (pv 0) rfl) pa_nil)) (blkOk_by (own := [("at", 4), ("value", 5)]) (N := ["self", "key", "counts", "keys", "at", "value", "node", "one", "array", "inside"]) (sc := defScope s_Table_grow) (by decide +kernel)) (fun _ _ _ _ _ => pg_tupE K rfl rfl (pgs_cons (pg_name (i := 4) sc_Table_grow.nd rfl (Or.inl rfl)) (pgs_cons (pg_name (i := 5) sc_Table_grow.nd rfl (Or.inl rfl)) pgs_nil))) (fun _ _ _ _ _ => (pts_one (pt_cmpR op_notN (pv 5) pe_non (nomark _)))) (fun _ _ _ _ _ => (pe_op (op_oAddE K rfl) (pv 4) pe_int))) (pe_lstN (pa_cons (pv 1) pa_nil))))
  (pss_cons (ps_expr (pe_bm PySem.F.plainAttrs_list PySem.F.slot_list_extend PySem.F.type_list_extend mt_extend (pv 3) (pa_cons (pe_lc (own := [("node", 6)]) (g := gName 6) rfl sc_Table_grow.nd (pi_list (pe_fld (pv 0) rfl)) (blkOk_by (own := [("node", 6)]) (N := ["self", "key", "counts", "keys", "at", "value", "node", "one", "array", "inside"]) (sc := defScope s_Table_grow) (by decide +kernel)) (fun _ _ _ _ _ => pg_name (i := 6) sc_Table_grow.nd rfl (Or.inl rfl)) (fun _ _ _ _ _ => (pts_one (PW.pt (pw_and (pt_cmpR op_notN (pv 6) pe_non (nomark _)) (pw_and1 (pt_cmpR op_notN (pe_fldE K rfl (pv 6) rfl) pe_non (nomark _))))))) (fun _ _ _ _ _ => (pe_fldE K rfl (pv 6) rfl))) pa_nil)))
  (pss_cons (ps_for PassesOwn.never rfl (pi_list (pv 3)) (pg_name (i := 7) sc_Table_grow.nd rfl (Or.inl rfl))
    (pss_one (ps_if (PW.pt (pw_and (pt_val (pe_fn c_iswhole (hr.mono (by first | decide | omega)) pass0 (pa_cons (pv 7) pa_nil))) (pw_and1 (pt_chain op_oLe op_oLe pe_int (pv 7) (pe_gint i_MOST_PLACE))))) (pss_one (ps_augS (pv 2) (pe_bits (pe_op op_oSub (pv 7) pe_int)) pget_list pe_int ip_add set_list)) pss_nil)))
  (pss_cons (ps_asg (pe_fn c_bestsize (hr.mono (by first | decide | omega)) pass0 (pa_cons (pv 2) pa_nil)) (pg_tup rfl (pgs_cons (pg_name (i := 8) sc_Table_grow.nd rfl (Or.inl rfl)) (pgs_cons (pg_name (i := 9) sc_Table_grow.nd rfl (Or.inl rfl)) pgs_nil))))
  (pss_one (ps_expr (pe_mt c_resize (hr.mono (by first | decide | omega)) pass0 (pv 0) (pa_cons (pv 8) (pa_cons (pe_op op_oSub (pe_callB call_len_seq (by rfl) B.len (by decide +kernel) (pa_cons (pv 3) pa_nil)) (pv 9)) pa_nil)))))))))), ?_⟩
    have hsa := ht.sa
    have hsn := ht.sn
    have hll : (liveA KK 0 t.arr).length ≤ 20000 := Nat.le_trans (liveA_le _ _) hsa
    have hln : (liveN t.nds).length ≤ 20000 := by rw [liveN_len]; exact Nat.le_trans List.countP_le_length hsn
    walk_at "t"
    refine g_new (sz rfl) fun p1 H1 n1 s1 h1 _ => ?_
    walk_at "t"
    refine ⟨_, h1, by decide, by decide, sz rfl, fun cl H2 n2 s2 h2 _ => ?_⟩
    have e32 : (List.replicate (32 : Int).toNat [V.int 0]).flatten = (csL []).map fun (c : Nat) => V.int c := by rw [csL_nil]; rfl
    rw [e32] at h2
    have s02 := s1.trans s2
    have ht2 := ht.same s02
    obtain ⟨⟨dx2, ho2⟩, ha2, hl2, hlen2, _⟩ := id ht2.at_
    walk_at "t"
    refine ⟨G.la, _, rfl, SqL.of ha2, fun D1 nD1 => ?_⟩
    refine lc_enum (K := K) (a := G.la) (xs := t.arr) (fun i H' => i ≤ t.arr.length ∧ Same H2 H' ∧ H' D1 = some (.lst ((liveA KK 0 (t.arr.take i)).map (·.2.1)))) ⟨Nat.zero_le _, fun b u e => by rw [upd_ne (ne_of_none e nD1)]; exact e, upd_same⟩ ?_ ?_ ?_
    · rintro i H' _ ⟨_, s3, _⟩
      exact SqL.of (s3 _ _ ha2)
    · rintro i z H3 T1 hz ⟨hi, s3, hD3⟩ hT
      have hil : i < t.arr.length := by
        by_cases y : i < t.arr.length
        · exact y
        · rw [List.getElem?_eq_none (by omega)] at hz; cases hz
      have el := liveA_take (a := 0) hz
      have s4 : Same H3 (upd H3 T1 (.tup [.int (i : Nat), z])) := fun b u e => by rw [upd_ne (ne_of_none e hT)]; exact e
      have hT4 : upd H3 T1 (.tup [.int (i : Nat), z]) T1 = some (.tup [.int (i : Nat), z]) := upd_same
      generalize upd H3 T1 (.tup [.int (i : Nat), z]) = H4 at s4 hT4 ⊢
      walk_at "t"
      refine ⟨T1, _, rfl, SqT.of hT4, rfl, ?_⟩
      walk_at "t"
      refine ⟨rfl, ?_⟩
      walk_at "t"
      refine g_iten (fun hzn => ?_) fun hzn => ?_
      · rw [if_neg hzn] at el
        walk_at "t"
        refine ⟨_, s4 _ _ hD3, Nat.lt_of_le_of_lt (show _ ≤ 100000 by rw [List.length_map]; exact Nat.le_trans (liveA_le _ _) (by rw [List.length_take]; omega)) (by decide), hil, fun b u e => ?_, ?_⟩
        · rw [upd_ne (fun z => by rw [z, nD1] at e; cases e)]
          exact s4 _ _ (s3 _ _ e)
        · rw [upd_same, el, List.map_append]
          have ei : ((i : Nat) : Int) + 1 = ((0 + i + 1 : Nat) : Int) := by omega
          rw [ei]
          rfl
      · rw [if_pos hzn, List.append_nil] at el
        refine ⟨hil, s3.trans s4, ?_⟩
        rw [el]
        exact s4 _ _ hD3
    · rintro H3 ⟨_, s3, hD3⟩
      rw [List.take_of_length_le (Nat.le_refl _)] at hD3
      have s03 := s02.trans s3
      walk_at "t"
      refine g_new (sz rfl) fun p4 H4 n4 s4 h4 _ => ?_
      refine .inl ⟨D1, p4, _, _, rfl, rfl, SqL.of (s4 _ _ hD3), SqL.of h4, Nat.le_trans (show _ ≤ 100000 by rw [List.length_map]; show (liveA KK 0 t.arr).length + 1 ≤ 100000; omega) (by decide), fun kl H5 n5 s5 h5 _ => ?_⟩
      have s35 := s4.trans s5
      have s05 := s03.trans s35
      have ht5 := ht.same s05
      obtain ⟨⟨dx5, ho5⟩, ha5, hl5, hlen5, _⟩ := id ht5.at_
      walk_at "t"
      refine ⟨tyL h5, ?_⟩
      walk_at "t"
      refine ⟨G.ln, rfl, ⟨_, SqL.of hl5⟩, fun D2 nD2 => ?_⟩
      refine lc_list (K := K) (a := G.ln) (xs := G.vs) (fun i H' => i ≤ G.vs.length ∧ Same H5 H' ∧ H' D2 = some (.lst ((liveN (t.nds.take i)).map (·.2.1)))) ⟨Nat.zero_le _, fun b u e => by rw [upd_ne (ne_of_none e nD2)]; exact e, upd_same⟩ ?_ ?_ ?_
      · rintro i H' _ ⟨_, s6, _⟩
        exact SqL.of (s6 _ _ hl5)
      · rintro i z H6 hz ⟨hi, s6, hD6⟩
        have hil : i < G.vs.length := by
          by_cases y : i < G.vs.length
          · exact y
          · rw [List.getElem?_eq_none (by omega)] at hz; cases hz
        have hin : i < t.nds.length := by rw [← hlen2]; exact hil
        have hv := ht5.at_.nds i z hz
        have el := liveN_take (nd_at hin)
        cases en : nd t.nds i with
        | none =>
          rw [en] at hv el
          have hv : z = .non := hv
          subst hv
          have el : liveN (t.nds.take (i + 1)) = liveN (t.nds.take i) := by rw [el]; exact List.append_nil _
          walk_at "t"
          refine ⟨rfl, ?_⟩
          walk_at "t"
          refine g_iten (fun y => absurd rfl y) fun _ => ?_
          refine ⟨hil, s6, ?_⟩
          rw [el]
          exact hD6
        | some x =>
          rw [en] at hv el
          obtain ⟨b, dxb, rfl, hb⟩ := hv
          rw [liveN_some] at el
          have hb6 := s6 _ _ hb
          walk_at "t"
          refine ⟨rfl, ?_⟩
          walk_at "t"
          refine g_iten (fun _ => ?_) fun z => nomatch z
          walk_at "t"
          refine g_iten (fun hzn => ?_) fun hzn => ?_
          · rw [if_neg hzn] at el
            walk_at "t"
            refine ⟨_, hD6, Nat.lt_of_le_of_lt (show _ ≤ 100000 by rw [List.length_map, liveN_len]; exact Nat.le_trans List.countP_le_length (by rw [List.length_take]; omega)) (by decide), hil, fun b u e => ?_, ?_⟩
            · rw [upd_ne (fun z => by rw [z, nD2] at e; cases e)]
              exact s6 _ _ e
            · rw [upd_same, el, List.map_append]
              rfl
          · rw [if_pos hzn, List.append_nil] at el
            refine ⟨hil, s6, ?_⟩
            rw [el]
            exact hD6
      · rintro H6 ⟨_, s6, hD6⟩
        rw [List.take_of_length_le (by rw [hlen2]; exact Nat.le_refl _)] at hD6
        walk_at "t"
        refine g_ext (s6 _ _ h5) hD6 (Nat.le_trans (show _ ≤ 100000 by rw [List.length_append, List.length_map, List.length_map]; show (liveA KK 0 t.arr).length + 1 + (liveN t.nds).length ≤ 100000; omega) (by decide)) fun H7 h7 k7 => ?_
        have ekl : ((liveA KK 0 t.arr).map (·.2.1) ++ [v]) ++ (liveN t.nds).map (·.2.1) = (grL t k v).map (·.2.1) := by
          unfold grL
          rw [List.map_append, List.map_append]
          rfl
        rw [ekl] at h7
        have nkl : H3 kl = none := s4.free n5
        have s07 : Same H H7 := fun b o e => by
          have hb : b ≠ kl := fun z => by
            have := s03 _ _ e
            rw [z, nkl] at this; cases this
          rw [k7 b hb]
          exact s6 _ _ (s05 _ _ e)
        have hcl7 : H7 cl = some (.lst ((csL []).map fun (c : Nat) => V.int c)) := by
          have hb : cl ≠ kl := fun z => by
            have := s3 _ _ h2
            rw [z, nkl] at this; cases this
          rw [k7 cl hb]
          exact s6 _ _ (s35 _ _ (s3 _ _ h2))
        have hclk : cl ≠ kl := fun z => by rw [z, h7] at hcl7; have := congrArg (fun x : Option HO => x) hcl7; exact absurd (s3 _ _ h2) (by rw [z, nkl]; exact fun y => nomatch y)
        have ncl : H cl = none := s1.free n2
        have hgl : (grL t k v).length = lv t + 1 := by
          have := keys_len t k
          rw [← grL_keys t k v, List.length_map] at this
          exact this
        walk_at "t"
        refine ⟨kl, rfl, ⟨_, SqL.of h7⟩, ?_⟩
        refine for_list (K := K) (a := kl) (xs := (grL t k v).map (·.2.1)) (fun i σ' H' => i ≤ (grL t k v).length ∧ Same H H' ∧ H' kl = some (.lst ((grL t k v).map (·.2.1))) ∧ H' cl = some (.lst ((csL (((grL t k v).take i).map (·.1))).map fun (c : Nat) => V.int c)) ∧
          ∃ e4 e5 e6 e7 e8 e9, σ' = [some (.ref a), some v, some (.ref cl), some (.ref kl), e4, e5, e6, e7, e8, e9]) ⟨Nat.zero_le _, s07, h7, hcl7, _, _, _, _, _, _, rfl⟩ ?_ ?_ ?_
        · rintro i _ H' _ ⟨_, _, hk', _⟩
          exact SqL.of hk'
        · rintro i z _ H8 hz ⟨hi, s8, hk8, hc8, e4, e5, e6, e7, e8, e9, rfl⟩
          have hil : i < (grL t k v).length := by
            by_cases y : i < (grL t k v).length
            · exact y
            · rw [List.getElem?_eq_none (by rw [List.length_map]; omega)] at hz; cases hz
          obtain ⟨qk, eq⟩ : ∃ qk, (grL t k v)[i]? = some qk := ⟨_, List.getElem?_eq_getElem hil⟩
          have ez : z = qk.2.1 := by rw [List.getElem?_map, eq] at hz; exact (Option.some.inj hz).symm
          have hq := (grL_at ht hk (List.mem_of_getElem? eq)).same s8
          rw [← ez] at hq
          obtain ⟨tt, hkn⟩ := hq.1.kf2 T O
          have et : ((grL t k v).take (i + 1)).map (·.1) = ((grL t k v).take i).map (·.1) ++ [qk.1] := by
            rw [List.take_add_one, eq, List.map_append]
            rfl
          walk_at "t"
          refine ⟨z, tt, rfl, hkn.kn, ?_⟩
          rw [hq.1.isI]
          walk_at "t"
          cases ew : whA qk.1.x with
          | none =>
            refine iteF ?_
            refine iteF ?_
            walk_at "t"
            refine ⟨hil, s8, hk8, ?_, e4, e5, e6, some z, e8, e9, rfl⟩
            rw [et, csL_none _ _ (by unfold slB; rw [ew])]
            exact hc8
          | some j =>
            have ev : z = .int j := hq.1.int_of ew
            subst ev
            refine iteT ?_
            walk_at "t"
            have stay : slB qk.1 = none → (i + 1 ≤ (grL t k v).length ∧ Same H H8 ∧ H8 kl = some (.lst ((grL t k v).map (·.2.1))) ∧ H8 cl = some (.lst ((csL (((grL t k v).take (i + 1)).map (·.1))).map fun (c : Nat) => V.int c)) ∧
                ∃ e4' e5' e6' e7' e8' e9', [some (.ref a), some v, some (.ref cl), some (.ref kl), e4, e5, e6, some (.int j), e8, e9] = [some (.ref a), some v, some (.ref cl), some (.ref kl), e4', e5', e6', e7', e8', e9']) := fun z => by
              refine ⟨hil, s8, hk8, ?_, e4, e5, e6, some (.int j), e8, e9, rfl⟩
              rw [et, csL_none _ _ z]
              exact hc8
            refine g_ite (fun h1 => ?_) fun h1 => ?_
            · walk_at "t"
              refine g_ite (fun h2 => ?_) fun h2 => ?_
              · have es : slB qk.1 = some (bitsN (j - 1).toNat) := by unfold slB; rw [ew]; exact if_pos ⟨h1, h2⟩
                have hp := slB_lt es
                have eb : Builtin.Int.intBits (j - 1) = bitsN (j - 1).toNat := by
                  have : (j - 1) = (((j - 1).toNat : Nat) : Int) := by omega
                  rw [this, intBits_nat, Int.toNat_natCast]
                walk_at "t"
                rw [eb]
                have hcz : ((csL (((grL t k v).take i).map (·.1))).map fun (c : Nat) => V.int c)[bitsN (j - 1).toNat]? = some (.int (((csL (((grL t k v).take i).map (·.1))).getD (bitsN (j - 1).toNat) 0 : Nat) : Int)) := by
                  rw [List.getElem?_map, List.getD_eq_getElem?_getD, List.getElem?_eq_getElem (by rw [csL_len]; exact hp)]
                  rfl
                refine g_getL hc8 (Int.natCast_nonneg _) (atI_of (Int.natCast_nonneg _) (by rw [Int.toNat_natCast]; exact hcz)) ?_
                walk_at "t"
                refine g_setL hc8 (ixN_of (Int.natCast_nonneg _) (by rw [List.length_map, csL_len]; omega)) fun H9 h9 k9 => ?_
                rw [Int.toNat_natCast] at h9
                walk_at "t"
                refine ⟨hil, fun b o e => ?_, ?_, ?_, e4, e5, e6, some (.int j), e8, e9, rfl⟩
                · rw [k9 b (fun z => by rw [z, ncl] at e; cases e)]
                  exact s8 _ _ e
                · rw [k9 kl (fun z => hclk z.symm)]
                  exact hk8
                · rw [h9, et, csL_step _ _ es, List.map_set]
                  rfl
              · walk_at "t"
                exact stay (by unfold slB; rw [ew]; exact if_neg (fun z => h2 z.2))
            · walk_at "t"
              exact stay (by unfold slB; rw [ew]; exact if_neg (fun z => h1 z.1))
        · rintro _ H8 ⟨_, s8, hk8, hc8, e4, e5, e6, e7, e8, e9, rfl⟩
          rw [List.length_map, List.take_of_length_le (Nat.le_refl _), grL_keys] at hc8
          have ht8 := ht.same s8
          walk_at "t"
          refine ⟨cl, _, rfl, hc8, by rw [csL_len]; decide, fun H9 tp n9 s9 h9 => ?_⟩
          rw [csL_len] at h9
          obtain ⟨_, eb⟩ := bs_eq (keysK KK t k) 32 (Nat.le_refl _)
          rw [eb] at h9
          walk_at "t"
          refine ⟨tp, _, rfl, SqT.of h9, rfl, ?_⟩
          have ht9 := ht8.same s9
          obtain ⟨⟨dx9, ho9⟩, ha9, hl9, hlen9, _⟩ := id ht9.at_
          walk_at "t"
          refine ⟨a, dx9, _, rfl, ho9, rfl, ?_⟩
          walk_at "t"
          refine g_lenL (s9 _ _ hk8) ?_
          walk_at "t"
          rw [List.length_map, hgl]
          have hbc := bestK_cnt (keysK KK t k) 32
          rw [keys_len] at hbc
          have em : (((lv t + 1 : Nat) : Int) - ((bestK KK (keysK KK t k) 32).2 : Nat)) = ((grM t k : Nat) : Int) := by unfold grM; rw [keys_len]; omega
          rw [em]
          have hgb : grB t k ≤ 8000 := by have := bestK_le (keysK KK t k) 32; rw [keys_len] at this; unfold grB; omega
          have hgm : grM t k ≤ 4000 := by unfold grM; rw [keys_len]; omega
          have hpm := powF_le (grM t k)
          have hrm := gr_room t k
          refine ⟨a, num, me, grB t k, grM t k, G, t, rfl, ht9, by omega, by omega, by omega, by omega, fun H10 t10 rz lf => ?_⟩
          walk_at "t"
          obtain ⟨F10, x1, x2, x3⟩ := lf
          have s09 := s8.trans s9
          exact q H10 t10 rz ⟨F10, x1, fun b o hb e => x2 b o hb (s09 _ _ e), fun b hb => (x3 b hb).imp id s09.free⟩
end
end Up

set_option Elab.async false
set_option linter.all false
set_option pp.maxSteps 600
set_option maxRecDepth 100000
set_option maxHeartbeats 4000000
set_option exponentiation.threshold 200000
namespace Up
open PySem PySem.Spec PyProof.Rows L2
local macro_rules | `(tactic| walk_at "u") => `(tactic| first
  | with_reducible refine g_seq ?_
  | with_reducible refine g_asg ?_
  | with_reducible refine g_op ?_
  | ((with_reducible show tVar _ _ _ _); apply g_var; exact rfl)
  | with_reducible refine g_c ?_
  | with_reducible refine g_name ?_
  | with_reducible refine g_ifs ?_
  | with_reducible refine g_tt ?_
  | with_reducible refine g_tB ?_
  | with_reducible refine g_bl ?_
  | with_reducible refine g_ret ?_
  | with_reducible refine g_cb ?_
  | with_reducible refine g_cons ?_
  | with_reducible refine g_nil ?_
  | with_reducible refine g_call ?_
  | with_reducible refine g_and ?_
  | with_reducible refine g_or ?_
  | with_reducible refine g_not ?_
  | with_reducible refine g_andV ?_
  | with_reducible refine g_orV ?_
  | with_reducible refine g_notV ?_
  | with_reducible refine g_if ?_
  | with_reducible refine g_un ?_
  | with_reducible refine g_neg ?_
  | with_reducible refine g_addI ?_
  | with_reducible refine g_subI ?_
  | with_reducible refine g_subB ?_
  | with_reducible refine g_I0 ?_
  | with_reducible refine g_cmpI ?_
  | with_reducible refine g_eqI ?_
  | with_reducible refine g_neI ?_
  | with_reducible refine g_eqS ?_
  | with_reducible refine g_neS ?_
  | with_reducible refine g_eqB ?_
  | with_reducible refine g_neB ?_
  | with_reducible refine g_bits ?_
  | with_reducible refine g_bitsI ?_
  | with_reducible refine g_fld ?_
  | with_reducible refine g_tup ?_
  | with_reducible refine g_lst ?_
  | with_reducible refine g_gtup ?_
  | with_reducible refine g_make ?_
  | with_reducible refine g_lc ?_
  | with_reducible refine g_yesT ?_
  | with_reducible refine g_intI ?_
  | with_reducible refine g_intB ?_
  | with_reducible refine g_max2 ?_
  | with_reducible refine g_abs1 ?_
  | with_reducible refine g_for ?_
  | with_reducible refine g_iList ?_
  | with_reducible refine g_iTup ?_
  | with_reducible refine g_iRng1 ?_
  | with_reducible refine g_iEnum ?_
  | with_reducible refine g_slice ?_
  | with_reducible refine g_po0 ?_
  | with_reducible refine g_po1 ?_
  | with_reducible refine g_gsub ?_
  | with_reducible refine g_par ?_
  | with_reducible refine g_par2 ?_
  | with_reducible refine g_rfl ?_
  | with_reducible refine g_meth ?_
  | with_reducible refine g_gcons ?_
  | with_reducible refine g_gnil ?_
  | with_reducible refine g_gfld ?_
  | with_reducible refine g_sfld ?_
  | with_reducible refine g_drop ?_
  | with_reducible refine g_next ?_
  | with_reducible refine iteT ?_
  | with_reducible refine iteF ?_)
local macro_rules | `(tactic| walk_at "go") => `(tactic| (repeat walk_at "u"))
local macro_rules | `(tactic| walk_at "t") => `(tactic| (repeat (first
  | walk_at "u"
  | with_reducible refine g_chain ?_
  | with_reducible refine g_par3 ?_
  | with_reducible refine g_par3' ?_
  | with_reducible refine g_augS ?_
  | with_reducible refine g_nt ?_
  | with_reducible refine g_nf ?_
  | with_reducible refine g_methK ?_
  | with_reducible refine g_makeK ?_
  | with_reducible refine g_iRng2 ?_
  | with_reducible refine g_bm ?_
  | with_reducible refine g_fldaug ?_
  | with_reducible refine g_iStr ?_
  | with_reducible refine g_ipI ?_
  | ((with_reducible show tAug _ _ _ _ _ _); refine ⟨_, rfl, ?_⟩)
  | ((with_reducible refine show_exT ?_); first
    | refine rdT3 (by assumption) (by assumption) ?_
    | refine rdT4 (by assumption) (by assumption) ?_
    | refine rdT5 (by assumption) (by assumption) ?_
    | refine rdT1 (by assumption) (by assumption) ?_
    | refine rdT2 (by assumption) (by assumption) ?_
    | refine rdN1 (by assumption) (by assumption) ?_
    | refine rdN2 (by assumption) (by assumption) ?_
    | refine rdN3 (by assumption) (by assumption) ?_
    | refine rdN4 (by assumption) (by assumption) ?_))))

section
variable {P : Program} {w : World} {K : PySem.W.Frag} {mg : Str → Option Value} {base : Heap} {C D N : Addr} {H H' : Hp} {a : Addr} {num me : V} {F F' : Fp} {t t' : Tb Ky}
/-! put_new, put as they are -/
def Stk (t : Tb Ky) (k : Ky) : Prop := t.nds.length = 0 ∨ ∃ h, nd t.nds (KK.mp k t.nds.length) = some h ∧ h.val ≠ .non ∧ ∀ i, i < t.free → ∃ y, nd t.nds i = some y
def PutNF : PNt := fun t k kv u t' => PutN KK t k kv u t' ∨ (Stk t k ∧ ∃ t1, Grw t k t1 ∧ PutS KK t1 k kv u t')
def Rm4 (t : Tb Ky) : Prop := lv t < 4000
theorem grw_room {k : Ky} (h : Grw t k t') : Room0 t' ∨ inside KK t' k := by
  obtain ⟨_, e1, e2, e3⟩ := Rsz.ok h
  have hr := gr_room t k
  by_cases hi : inB KK (grB t k) k = true
  · refine .inr ((inB_iff KK).mpr ?_)
    rw [e1]; exact hi
  · rw [if_neg hi] at hr
    exact .inl (nn_ex (by omega))
theorem grw_free {k : Ky} {m : Nat} (h : Grw { t with free := m } k t') : Grw t k t' := by
  have h : Rsz KK { t with free := m } (grB t k) (powF (grM t k)) t' := h
  cases h with
  | mk h1 h2 => exact .mk h1 h2
theorem ok_putnewF {f : Addr} {fd : FuncData} (F : FunD K "put_new" "Table.put_new" (defArgs s_Table_putnew) (defBody s_Table_putnew) (defScope s_Table_putnew) [] [] f fd) (B : Blt mg) (L : Cl3 C D N) (TT : TbC K mg D) (TN : NdC K mg N) (c_placeoftables : Fn P w K mg base CX0 3 "place_of_tables" ["key", "size"] [] (sp_placeofT C D)) (c_Node : CnN P w K mg base N)
    (c_grow : Mt P w K mg base CX0 8 D "grow" ["self", "key"] (sp_grow C D N)) (c_putS : CPutS P w K mg base C D N) (c_freeplace : Mt P w K mg base CX0 1 D "free_place" ["self"] (sp_freeplace D N)) (c_aheadof : Mt P w K mg base CX0 4 D "ahead_of" ["self", "key", "at"] (sp_aheadof C D N)) : FnOk P w K mg base CX0 9 f fd ["self", "key", "value"] (sp_putnewG C D N PutNF Rm4) := by
  refine F.ok sc_Table_putnew (fun vs H Q E h => ?_) (fun cdv A outer s H vs Q E hr h => ?_)
  · obtain ⟨_, _, _, _, _, _, _, _, rfl, _⟩ := h; rfl
  · obtain ⟨a, v, u, num, me, k, G, t, rfl, ht, hk, gk, hu, hlv, q⟩ := h
    have hlv : lv t < 4000 := hlv
    refine ⟨_, PSs.nox (pss_cons (ps_if (pt_cmpR (op_eqE hr.units) (pe_fld (pv 0) rfl) (pe_lstN pa_nil) (nomark _)) (pss_cons (ps_expr (pe_mt c_grow (hr.mono (by first | decide | omega)) pass0 (pv 0) (pa_cons (pv 1) pa_nil)))
  (pss_cons (ps_expr (pe_mt c_putS (hr.mono (by first | decide | omega)) pass0 (pv 0) (pa_cons (pv 1) (pa_cons (pv 2) pa_nil))))
  (pss_one ps_retN))) pss_nil)
  (pss_cons (ps_set (i := 3) sc_Table_putnew.nd rfl (Or.inl rfl) (pe_fn c_placeoftables (hr.mono (by first | decide | omega)) pass0 (pa_cons (pv 1) (pa_cons (pe_callB call_len_seq (by rfl) B.len (by decide +kernel) (pa_cons (pe_fld (pv 0) rfl) pa_nil)) pa_nil))))
  (pss_cons (ps_set (i := 4) sc_Table_putnew.nd rfl (Or.inl rfl) (pe_ix ix_seq (pe_fld (pv 0) rfl) (pv 3) (fun _ _ => rfl)))
  (pss_cons (ps_if (pt_cut (PW.pt (pw_or (pt_cmpR op_isN (pv 4) pe_non (nomark _)) (pw_or1 (pt_cmpR op_isN (pe_fld (pv 4) rfl) pe_non (nomark _)))))) (pss_cons (ps_asg (pe_cn c_Node (hr.mono (by first | decide | omega)) pass0 (pa_cons (pv 1) (pa_cons (pv 2) (pa_cons (pe_cut (pe_ifExp (pt_cmpR op_isN (pv 4) pe_non (nomark _)) pe_non (pe_fld (pv 4) rfl))) pa_nil)))) (pg_sub (pe_fld (pv 0) rfl) (pv 3) set_list))
  (pss_one ps_retN)) pss_nil)
  (pss_cons (ps_set (i := 5) sc_Table_putnew.nd rfl (Or.inl rfl) (pe_mt0 c_freeplace (hr.mono (by first | decide | omega)) pass0 (pv 0)))
  (pss_one (ps_if (pt_cmpR op_isN (pv 5) pe_non (nomark _)) (pss_cons (ps_expr (pe_mt c_grow (hr.mono (by first | decide | omega)) pass0 (pv 0) (pa_cons (pv 1) pa_nil)))
  (pss_one (ps_expr (pe_mt c_putS (hr.mono (by first | decide | omega)) pass0 (pv 0) (pa_cons (pv 1) (pa_cons (pv 2) pa_nil)))))) (pss_one (ps_if (pt_cmpR (op_oEq hr.units) (pe_fn c_placeoftables (hr.mono (by first | decide | omega)) pass0 (pa_cons (pe_fld (pv 4) rfl) (pa_cons (pe_callB call_len_seq (by rfl) B.len (by decide +kernel) (pa_cons (pe_fld (pv 0) rfl) pa_nil)) pa_nil))) (pv 3) (nomark _)) (pss_cons (ps_asg (pe_cn c_Node (hr.mono (by first | decide | omega)) pass0 (pa_cons (pv 1) (pa_cons (pv 2) (pa_cons (pe_fld (pv 4) rfl) pa_nil)))) (pg_sub (pe_fld (pv 0) rfl) (pv 5) set_list))
  (pss_one (ps_fld (pv 4) (pv 5) rfl))) (pss_cons (ps_fld (pe_ix ix_seq (pe_fld (pv 0) rfl) (pe_mt c_aheadof (hr.mono (by first | decide | omega)) pass0 (pv 0) (pa_cons (pe_fld (pv 4) rfl) (pa_cons (pv 3) pa_nil))) (fun _ _ => rfl)) (pv 5) rfl)
  (pss_cons (ps_asg (pv 4) (pg_sub (pe_fld (pv 0) rfl) (pv 5) set_list))
  (pss_one (ps_asg (pe_cn c_Node (hr.mono (by first | decide | omega)) pass0 (pa_cons (pv 1) (pa_cons (pv 2) (pa_cons pe_non pa_nil)))) (pg_sub (pe_fld (pv 0) rfl) (pv 3) set_list)))))))))))))), ?_⟩
    walk_at "t"
    obtain ⟨⟨dx, ho⟩, ha, hl, hlen, _⟩ := id ht.at_
    walk_at "t"
    refine g_new (sz rfl) fun p1 H1 n1 s1 h1 _ => ?_
    refine g_eqE (s1 _ _ hl) h1 ?_
    walk_at "t"
    have ht0 := ht
    have q : ∀ H' t', PutNF t k v u t' → Left C D N a num me G H1 H' t' → Q .non H' := fun H' t' p ⟨F', x1, x2, x3⟩ => q H' t' p ⟨F', x1, fun b o hb e => x2 b o hb (s1 _ _ e), fun b hb => (x3 b hb).imp id s1.free⟩
    have ht := ht.same s1
    have hk := hk.same s1
    clear ha hl ho
    obtain ⟨⟨dx, ho⟩, ha, hl, hlen, _⟩ := id ht.at_
    by_cases n0 : t.nds.length = 0
    · have ev : G.vs.isEmpty = true := by
        cases e : G.vs with
        | nil => rfl
        | cons _ _ => rw [e, n0] at hlen; cases hlen
      rw [ev]
      refine iteT ?_
      obtain ⟨⟨dxg, hog⟩, _⟩ := id ht.at_
      walk_at "t"
      refine ⟨a, dxg, _, rfl, hog, rfl, ?_⟩
      walk_at "t"
      refine ⟨a, v, num, me, k, G, t, rfl, ht, hk, hlv, fun Hg tg gr lf => ?_⟩
      obtain ⟨Fg, tsg, frg, fsg⟩ := lf
      obtain ⟨⟨dxh, hoh⟩, _⟩ := id tsg.at_
      have hkg := hk.frm L ht.at_ tsg.at_ frg
      walk_at "t"
      refine ⟨a, dxh, _, rfl, hoh, rfl, ?_⟩
      walk_at "t"
      refine ⟨a, v, u, num, me, k, Fg, tg, rfl, tsg, hkg, gk.nn, gk.nan, by rw [plK_self gk]; exact grw_room gr, fun Hh th px lf => ?_⟩
      rw [plK_self gk, plV_self hkg.1 gk.pl] at px
      obtain ⟨Fh, tsh, frh, fsh⟩ := lf
      walk_at "t"
      exact q Hh th (.inr ⟨.inl n0, tg, gr, px.S⟩) ⟨Fh, tsh, frg.trans fsg frh, fsg.trans frg fsh⟩
    have n0 : 0 < t.nds.length := by omega
    have ev : G.vs.isEmpty = false := by
      cases e : G.vs with
      | nil => rw [e] at hlen; exact absurd hlen (by show ¬ 0 = _; omega)
      | cons _ _ => rfl
    rw [ev]
    refine iteF ?_
    walk_at "t"
    refine g_lenL hl ?_
    walk_at "t"
    rw [hlen]
    refine ⟨v, k, _, rfl, hk, gk.nn, n0, ?_⟩
    walk_at "t"
    have hat := KK.lt k t.nds.length n0
    obtain ⟨y, ey, hy⟩ := ht.at_.get hat
    refine g_ixL hl (atI_of (by omega) (by rw [Int.toNat_natCast]; exact ey)) ?_
    walk_at "t"
    generalize eat : KK.mp k t.nds.length = at_ at *
    refine g_cutT (fun b H' => H1 = H' ∧ b = (match nd t.nds at_ with | none => true | some x => decide (x.val = .non))) ?_ ?_
    · cases en : nd t.nds at_ with
      | none =>
        rw [en] at hy
        have hy : y = .non := hy
        subst hy
        walk_at "t"
        refine g_ite (fun _ => ?_) fun z => absurd rfl z
        exact ⟨rfl, rfl⟩
      | some x =>
        rw [en] at hy
        obtain ⟨b, dxb, rfl, hb⟩ := hy
        walk_at "t"
        refine g_ite (fun z => nomatch z) fun _ => ?_
        walk_at "t"
        exact ⟨rfl, rfl⟩
    · rintro _ _ ⟨rfl, rfl⟩
      refine g_iteb (fun hb => ?_) fun hb => ?_
      · -- unused, or without a value
        have hv : ∀ x, nd t.nds at_ = some x → x.val = .non := fun x e => by rw [e] at hb; simpa using hb
        walk_at "t"
        refine g_cutE (fun z H' => z = lkV ((nd t.nds at_).bind (·.link)) ∧ H1 = H') ?_ ?_
        · cases en : nd t.nds at_ with
          | none =>
            rw [en] at hy
            have hy : y = .non := hy
            subst hy
            walk_at "t"
            refine g_ite (fun _ => ?_) fun z => absurd rfl z
            walk_at "t"
            exact ⟨rfl, rfl⟩
          | some x =>
            rw [en] at hy
            obtain ⟨b, dxb, rfl, hb⟩ := hy
            walk_at "t"
            refine g_ite (fun z => nomatch z) fun _ => ?_
            walk_at "t"
            exact ⟨rfl, rfl⟩
        · rintro _ _ ⟨rfl, rfl⟩
          walk_at "t"
          refine mkN fun H2 b dxb nb s2 hb2 => ?_
          have ho2 := s2 _ _ ho
          have hl2 := s2 _ _ hl
          walk_at "t"
          refine g_setL hl2 (ixN_of (by omega) (by rw [hlen]; omega)) fun H3 hl3 k3 => ?_
          rw [Int.toNat_natCast] at hl3
          walk_at "t"
          have at3 := ht.at_.setNew (x := ⟨k, v, u, (nd t.nds at_).bind (·.link), false⟩) (H' := H3) hat nb s2 hb2 hl3 k3
          have pn : PutN KK t k v u { t with nds := t.nds.set at_ (some ⟨k, v, u, (nd t.nds at_).bind (·.link), false⟩) } := .repl at_ eat.symm hat hv
          have fr : Frm a G H1 H3 := fun c o hc e => by rw [k3 c (fun z => hc (.inr (.inr (.inl z))))]; exact s2 _ _ e
          obtain ⟨w1, w2, w3, _⟩ := pn.ok KK ht.wf
          refine q H3 _ (.inl pn) ⟨_, ht.next L at3 fr w1 (pn.keys ht.wf) hk gk (by rw [w3]) w2, fr, fun c hc => ?_⟩
          rcases hc with z | z | z | z
          · exact .inl (.inl z)
          · exact .inl (.inr (.inl z))
          · exact .inl (.inr (.inr (.inl z)))
          · rcases List.mem_or_eq_of_mem_set z with z | z
            · exact .inl (.inr (.inr (.inr z)))
            · cases z; exact .inr nb
      · -- used
        cases en : nd t.nds at_ with
        | none => rw [en] at hb; cases hb
        | some x =>
          rw [en] at hb hy
          have hv : x.val ≠ .non := by simpa using hb
          obtain ⟨b, dxb, rfl, hbn⟩ := hy
          obtain ⟨kx, gx⟩ := ht.keys _ _ en
          walk_at "t"
          refine ⟨a, dx, _, rfl, ho, rfl, ?_⟩
          walk_at "t"
          refine ⟨a, num, me, G, t, rfl, ht.at_, ht.wf.frn, fun fr H2 FA k2 at2 => ?_, fun H2 hall k2 at2 => ?_⟩
          rotate_left
          · have fr2 : Frm a G H1 H2 := fun c o hc e => by rw [k2 c (fun z => hc (.inl z))]; exact e
            have ts2 : TbS C D N H2 a num me G { t with free := 0 } := ⟨at2, ht.wf.like (fun _ => rfl) (Nat.zero_le _) (fun i _ h2 => hall i h2), fun i x e => ⟨(ht.keys i x e).1.frm L ht.at_ at2 fr2, (ht.keys i x e).2⟩, ht.sa, ht.sn⟩
            have hk2 := hk.frm L ht.at_ at2 fr2
            walk_at "t"
            refine g_ite (fun _ => ?_) fun z => absurd rfl z
            obtain ⟨⟨dxg, hog⟩, _⟩ := id ts2.at_
            walk_at "t"
            refine ⟨a, dxg, _, rfl, hog, rfl, ?_⟩
            walk_at "t"
            refine ⟨a, v, num, me, k, G, { t with free := 0 }, rfl, ts2, hk2, hlv, fun Hg tg gr lf => ?_⟩
            obtain ⟨Fg, tsg, frg, fsg⟩ := lf
            obtain ⟨⟨dxh, hoh⟩, _⟩ := id tsg.at_
            have hkg := hk2.frm L ts2.at_ tsg.at_ frg
            walk_at "t"
            refine ⟨a, dxh, _, rfl, hoh, rfl, ?_⟩
            walk_at "t"
            refine ⟨a, v, u, num, me, k, Fg, tg, rfl, tsg, hkg, gk.nn, gk.nan, by rw [plK_self gk]; exact grw_room gr, fun Hh th px lf => ?_⟩
            rw [plK_self gk, plV_self hkg.1 gk.pl] at px
            obtain ⟨Fh, tsh, frh, fsh⟩ := lf
            walk_at "t"
            exact q Hh th (.inr ⟨.inr ⟨x, by rw [eat]; exact en, hv, hall⟩, tg, grw_free gr, px.S⟩) ⟨Fh, tsh, (fr2.trans Fsh.refl frg).trans (Fsh.refl.trans fr2 fsg) frh, (Fsh.refl.trans fr2 fsg).trans (fr2.trans Fsh.refl frg) fsh⟩
          have hfn : fr < t.nds.length := Nat.lt_of_lt_of_le FA.lt ht.wf.frn
          have hfa : fr ≠ at_ := fun z => by rw [← z, FA.none] at en; cases en
          obtain ⟨⟨dx2, ho2⟩, ha2, hl2, hlen2, _⟩ := id at2
          have k2f : Frm a G H1 H2 := fun c o hc e => by rw [k2 c (fun z => hc (.inl z))]; exact e
          have hba : b ≠ a := fun z => by
            rw [z, ho] at hbn
            injection hbn with hbn
            injection hbn with e1
            exact L.dn e1
          have hbn2 : H2 b = some (.ins N dxb (ndV x.kv x.val (lkV x.link) x.dead)) := by rw [k2 b hba]; exact hbn
          have kx2 := kx.frm L ht.at_ at2 k2f
          walk_at "t"
          refine g_ite (fun z => nomatch z) fun _ => ?_
          walk_at "t"
          refine g_lenL hl2 ?_
          walk_at "t"
          rw [hlen]
          refine ⟨x.kv, x.key, _, rfl, kx2, gx.nn, n0, ?_⟩
          walk_at "t"
          refine g_ite (fun hm => ?_) fun hm => ?_
          · have hm : KK.mp x.key t.nds.length = at_ := by omega
            walk_at "t"
            refine mkN fun H3 c dxc nc s3 hc3 => ?_
            have ho3 := s3 _ _ ho2
            have hl3 := s3 _ _ hl2
            walk_at "t"
            refine g_setL hl3 (ixN_of (by omega) (by rw [hlen]; omega)) fun H4 hl4 k4 => ?_
            rw [Int.toNat_natCast] at hl4
            have at4 := at2.setNew (x := ⟨k, v, u, x.link, false⟩) (H' := H4) hfn nc s3 hc3 hl4 k4
            have hbl : b ≠ G.ln := fun z => by rw [z, hl2] at hbn2; cases hbn2
            have hb4 : H4 b = some (.ins N dxb (ndV x.kv x.val (lkV x.link) x.dead)) := by rw [k4 b hbl]; exact s3 _ _ hbn2
            walk_at "t"
            refine ⟨b, N, dxb, _, rfl, hb4, TN.cl, TN.n3, by show 4 < 1000; decide, ?_⟩
            have hb5 : upd H4 b (.ins N dxb (putF "link" (.int (fr : Nat)) (ndV x.kv x.val (lkV x.link) x.dead))) b = some (.ins N dxb (ndV x.kv x.val (lkV (some fr)) x.dead)) := upd_same
            have k5 : ∀ d, d ≠ b → upd H4 b (.ins N dxb (putF "link" (.int (fr : Nat)) (ndV x.kv x.val (lkV x.link) x.dead))) d = H4 d := fun d hd => upd_ne hd
            generalize upd H4 b (.ins N dxb (putF "link" (.int (fr : Nat)) (ndV x.kv x.val (lkV x.link) x.dead))) = H5 at hb5 k5 ⊢
            walk_at "t"
            have ey4 : (G.vs.set fr (.ref c))[at_]? = some (V.ref b) := by
              rw [List.getElem?_set, if_neg hfa]; exact ey
            have at5 := at4.setNode L (x := { x with link := some fr }) (H' := H5) ey4 (by simp; exact hat) hb5 k5
            have pn : PutN KK t k v u { t with nds := (t.nds.set fr (some ⟨k, v, u, x.link, false⟩)).set at_ (some { x with link := some fr }), free := fr } := .coll at_ fr x eat.symm FA en hv hm
            have frm : Frm a G H1 H5 := fun d o hd e => by
              rw [k5 d (fun z => hd (.inr (.inr (.inr (by rw [z]; exact List.mem_of_getElem? ey))))), k4 d (fun z => hd (.inr (.inr (.inl z))))]
              exact s3 _ _ (k2f d o hd e)
            obtain ⟨w1, w2, w3, _⟩ := pn.ok KK ht.wf
            have nc1 : H1 c = none := by
              by_cases z : c = a
              · rw [z, ho2] at nc; cases nc
              · rw [k2 c z] at nc; exact nc
            refine q H5 _ (.inl pn) ⟨_, ht.next L at5 frm w1 (pn.keys ht.wf) hk gk (by rw [w3]) w2, frm, fun d hd => ?_⟩
            rcases hd with z | z | z | z
            · exact .inl (.inl z)
            · exact .inl (.inr (.inl z))
            · exact .inl (.inr (.inr (.inl z)))
            · rcases List.mem_or_eq_of_mem_set z with z | z
              · exact .inl (.inr (.inr (.inr z)))
              · cases z; exact .inr nc1
          · have hm : KK.mp x.key t.nds.length ≠ at_ := fun z => hm (by omega)
            walk_at "t"
            refine ⟨a, dx2, _, rfl, ho2, rfl, ?_⟩
            walk_at "t"
            refine ⟨a, x.kv, num, me, x.key, at_, G, { t with free := fr }, rfl, at2, ht.wf.rnk, kx2, gx.nn, n0, hm, ht.wf.rch _ _ en, fun p hp => ?_⟩
            obtain ⟨y, hy, hyl⟩ := id hp
            obtain ⟨c, dxc, ec, hc⟩ := at2.getS (show nd t.nds p = some y from hy)
            refine g_ixL hl2 (atI_of (by omega) (by rw [Int.toNat_natCast]; exact ec)) ?_
            walk_at "t"
            refine ⟨c, N, dxc, _, rfl, hc, TN.cl, TN.n3, by show 4 < 1000; decide, ?_⟩
            have hb3 : upd H2 c (.ins N dxc (putF "link" (.int (fr : Nat)) (ndV y.kv y.val (lkV y.link) y.dead))) c = some (.ins N dxc (ndV y.kv y.val (lkV (some fr)) y.dead)) := upd_same
            have k3 : ∀ d, d ≠ c → upd H2 c (.ins N dxc (putF "link" (.int (fr : Nat)) (ndV y.kv y.val (lkV y.link) y.dead))) d = H2 d := fun d hd => upd_ne hd
            generalize upd H2 c (.ins N dxc (putF "link" (.int (fr : Nat)) (ndV y.kv y.val (lkV y.link) y.dead))) = H3 at hb3 k3 ⊢
            have at3 := at2.setNode L (x := { y with link := some fr }) (H' := H3) ec (nd_lt hy) hb3 k3
            obtain ⟨⟨dx3, ho3⟩, ha3, hl3, hlen3, _⟩ := id at3
            walk_at "t"
            refine g_setL hl3 (ixN_of (by omega) (by rw [hlen]; omega)) fun H4 hl4 k4 => ?_
            rw [Int.toNat_natCast] at hl4
            have hal : a ≠ G.ln := fun z => by rw [z, hl3] at ho3; cases ho3
            have ho4 : H4 a = some (.ins D dx3 (tbF num me G.la G.ln fr)) := by rw [k4 a hal]; exact ho3
            walk_at "t"
            refine mkN fun H5 e dxe ne s5 he5 => ?_
            have ho5 := s5 _ _ ho4
            have hl5 := s5 _ _ hl4
            walk_at "t"
            refine g_setL hl5 (ixN_of (by omega) (by rw [List.length_set, hlen]; omega)) fun H6 hl6 k6 => ?_
            rw [Int.toNat_natCast] at hl6
            walk_at "t"
            have hpa : at_ ≠ p := fun z => by
              obtain ⟨rk, hr⟩ := ht.wf.rnk
              have := hr _ _ hp
              rw [z] at this; omega
            have hpl := nd_lt hy
            -- the heap without the stores into the list of nodes
            have ne3 : H3 e = none := by
              by_cases z : e = G.ln
              · rw [z, hl4] at ne; cases ne
              · rw [k4 e z] at ne; exact ne
            have s35 : ∀ d, d ≠ G.ln → ∀ o, H3 d = some o → H5 d = some o := fun d hd o eo => s5 _ _ (by rw [k4 d hd]; exact eo)
            have enx : nd (t.nds.set p (some { y with link := some fr })) at_ = some x := by rw [nd_set hpl, fu_ne hpa]; exact en
            have nfx : nd (t.nds.set p (some { y with link := some fr })) fr = none := by
              rw [nd_set hpl, fu_ne (fun z => by have := FA.none; rw [z] at this; rw [show nd t.nds p = some y from hy] at this; cases this)]; exact FA.none
            have at6 := at3.setMove (H1 := fun d => if d = G.ln then H3 d else H5 d) (H' := H6) (b := e) (x := ⟨k, v, u, none, false⟩) ey enx (by show fr < (t.nds.set p _).length; rw [List.length_set]; exact hfn) nfx ne3 (fun d o eo => by
                by_cases z : d = G.ln
                · simp only [z, if_true]; rw [z] at eo; exact eo
                · simp only [z, if_false]; exact s35 d z o eo) (by
                  have z : e ≠ G.ln := fun z => by rw [z, hl4] at ne; cases ne
                  simp only [z, if_false]; exact he5) hl6 (fun d hd => by
                  simp only [hd, if_false]; exact k6 d hd)
            have pn : PutN KK t k v u { t with nds := ((t.nds.set p (some { y with link := some fr })).set fr (some x)).set at_ (some ⟨k, v, u, none, false⟩), free := fr } := .move at_ fr p x y eat.symm FA en hv hm hy hyl
            have frm : Frm a G H1 H6 := fun d o hd eo => by
              have dl : d ≠ G.ln := fun z => hd (.inr (.inr (.inl z)))
              rw [k6 d dl]
              refine s35 d dl o ?_
              rw [k3 d (fun z => hd (.inr (.inr (.inr (by rw [z]; exact List.mem_of_getElem? ec)))))]
              exact k2f d o hd eo
            obtain ⟨w1, w2, w3, _⟩ := pn.ok KK ht.wf
            have ne1 : H1 e = none := by
              cases z : H1 e with
              | none => rfl
              | some o =>
                exfalso
                by_cases hin : G.In a e
                · rcases hin with z | z | z | z
                  · rw [z, ho3] at ne3; cases ne3
                  · rw [z, ha3] at ne3; cases ne3
                  · rw [z, hl3] at ne3; cases ne3
                  · obtain ⟨_, _, _, _, _, he⟩ := at3.inN z
                    rw [he] at ne3; cases ne3
                · have h2 := k2f e o hin z
                  rw [k3 e (fun z => hin (.inr (.inr (.inr (by rw [z]; exact List.mem_of_getElem? ec))))), h2] at ne3
                  cases ne3
            refine q H6 _ (.inl pn) ⟨_, ht.next L at6 frm w1 (pn.keys ht.wf) hk gk (by rw [w3]) w2, frm, fun d hd => ?_⟩
            rcases hd with z | z | z | z
            · exact .inl (.inl z)
            · exact .inl (.inr (.inl z))
            · exact .inl (.inr (.inr (.inl z)))
            · rcases List.mem_or_eq_of_mem_set z with z | z
              · rcases List.mem_or_eq_of_mem_set z with z | z
                · exact .inl (.inr (.inr (.inr z)))
                · cases z
                  exact .inl (.inr (.inr (.inr (List.mem_of_getElem? ey))))
              · cases z; exact .inr ne1
theorem PutNF.lv {k : Ky} {kv u : V} (W : TW KK t) (h : PutNF t k kv u t') : lv t' ≤ lv t + 1 := by
  rcases h with h | ⟨_, t1, g, h⟩
  · exact h.lv W
  · have h1 := Rsz.lv g
    have h2 := h.lv (Rsz.ok g).1
    omega
abbrev PutF : PNt := PutX PutNF
theorem PutF.lv {k : Ky} {kv u : V} (W : TW KK t) (h : PutF t k kv u t') : lv t' ≤ lv t + 1 := by
  cases h with
  | ins i a b c => exact (PutS.ins (O := KK) (t := t) (kv := kv) (u := u) (k := k) i a b c).lv W
  | fnd r x a b c => exact (PutS.fnd (O := KK) (t := t) (kv := kv) (u := u) (k := k) r x a b c).lv W
  | skip a b c => omega
  | new a b c d => exact PutNF.lv W d
/-! make_room -/
abbrev s_Table_makeroom : Stmt := inClass (top 37) 11
theorem sc_Table_makeroom : FnScope ["self", "count"] ["self", "count"] (defScope s_Table_makeroom) := ⟨rfl, rfl, rfl, by decide +kernel, rfl, by decide +kernel, by decide +kernel⟩
def sp_makeroom (C D N : Addr) : Sp := fun vs H Q _ => ∃ (a : Addr) (num me : V) (n : Nat) (F : Fp) (t : Tb Ky), vs = [.ref a, .int n] ∧ TbS C D N H a num me F t ∧ n ≤ 20000 ∧ (t.nds.length = 0 ∨ ∃ p, t.nds.length = 2 ^ p) ∧
  ∀ H' t', ((t.arr.length < n ∧ Rsz KK t n t.nds.length t') ∨ (n ≤ t.arr.length ∧ t' = t)) → Left C D N a num me F H H' t' → Q .non H'
theorem powF_pow {n : Nat} (h : n = 0 ∨ ∃ p, n = 2 ^ p) : powF n = n := by
  unfold powF
  rcases h with rfl | ⟨p, rfl⟩
  · rfl
  · have hp : 0 < 2 ^ p := Nat.two_pow_pos p
    rw [if_neg (by omega)]
    congr 1
    by_cases h0 : p = 0
    · subst h0; rfl
    · have h1 : bitsN (2 ^ p - 1) ≤ p := bits_le (by omega)
      have h2 : 2 ^ (p - 1) ≤ 2 ^ p - 1 := by
        have : 2 ^ p = 2 * 2 ^ (p - 1) := by rw [← Nat.pow_succ']; congr 1; omega
        have := Nat.two_pow_pos (p - 1)
        omega
      have := le_bits h2
      omega
theorem ok_makeroom {f : Addr} {fd : FuncData} (F : FunD K "make_room" "Table.make_room" (defArgs s_Table_makeroom) (defBody s_Table_makeroom) (defScope s_Table_makeroom) [] [] f fd) (B : Blt mg) (TT : TbC K mg D) (c_resize : Mt P w K mg base CX0 7 D "resize" ["self", "array", "nodes"] (sp_resize C D N)) : FnOk P w K mg base CX0 8 f fd ["self", "count"] (sp_makeroom C D N) := by
  refine F.ok sc_Table_makeroom (fun vs H Q E h => ?_) (fun cdv A outer s H vs Q E hr h => ?_)
  · obtain ⟨_, _, _, _, _, _, rfl, _⟩ := h; rfl
  · obtain ⟨a, num, me, n, G, t, rfl, ht, hn, hp, q⟩ := h
    obtain ⟨⟨dx, ho⟩, ha, hl, hlen, _⟩ := id ht.at_
    refine ⟨_, PSs.nox (pss_one (ps_if (pt_cmpR op_oGt (pv 1) (pe_callB call_len_seq (by rfl) B.len (by decide +kernel) (pa_cons (pe_fld (pv 0) rfl) pa_nil)) (nomark _)) (pss_one (ps_expr (pe_mt c_resize (hr.mono (by first | decide | omega)) pass0 (pv 0) (pa_cons (pv 1) (pa_cons (pe_callB call_len_seq (by rfl) B.len (by decide +kernel) (pa_cons (pe_fld (pv 0) rfl) pa_nil)) pa_nil))))) pss_nil)), ?_⟩
    walk_at "t"
    refine g_lenL ha ?_
    walk_at "t"
    refine g_ite (fun h1 => ?_) fun h1 => ?_
    · walk_at "t"
      refine ⟨a, dx, _, rfl, ho, rfl, ?_⟩
      walk_at "t"
      refine g_lenL hl ?_
      walk_at "t"
      rw [hlen]
      have hpw := powF_pow hp
      have hsn := ht.sn
      refine ⟨a, num, me, n, t.nds.length, G, t, rfl, ht, hn, hsn, by omega, ?_, fun H1 t1 rz lf => ?_⟩
      · rw [List.drop_of_length_le (by omega), hpw]
        show 0 + _ ≤ _
        have h1 : outs KK n (liveN t.nds) ≤ (liveN t.nds).length := List.countP_le_length
        have h2 : (liveN t.nds).length ≤ t.nds.length := by rw [liveN_len]; exact List.countP_le_length
        omega
      · rw [hpw] at rz
        walk_at "t"
        exact q H1 t1 (.inl ⟨by omega, rz⟩) lf
    · walk_at "t"
      exact q H t (.inr ⟨by omega, rfl⟩) ⟨G, ht, Frm.refl, Fsh.refl⟩
end
end Up

set_option Elab.async false
set_option linter.all false
set_option pp.maxSteps 600
set_option maxRecDepth 100000
set_option maxHeartbeats 4000000
set_option exponentiation.threshold 200000
namespace Up
open PySem PySem.Spec PyProof.Rows L2
local macro_rules | `(tactic| walk_at "u") => `(tactic| first
  | with_reducible refine g_seq ?_
  | with_reducible refine g_asg ?_
  | with_reducible refine g_op ?_
  | ((with_reducible show tVar _ _ _ _); apply g_var; exact rfl)
  | with_reducible refine g_c ?_
  | with_reducible refine g_name ?_
  | with_reducible refine g_ifs ?_
  | with_reducible refine g_tt ?_
  | with_reducible refine g_tB ?_
  | with_reducible refine g_bl ?_
  | with_reducible refine g_ret ?_
  | with_reducible refine g_cb ?_
  | with_reducible refine g_cons ?_
  | with_reducible refine g_nil ?_
  | with_reducible refine g_call ?_
  | with_reducible refine g_and ?_
  | with_reducible refine g_or ?_
  | with_reducible refine g_not ?_
  | with_reducible refine g_andV ?_
  | with_reducible refine g_orV ?_
  | with_reducible refine g_notV ?_
  | with_reducible refine g_if ?_
  | with_reducible refine g_un ?_
  | with_reducible refine g_neg ?_
  | with_reducible refine g_addI ?_
  | with_reducible refine g_subI ?_
  | with_reducible refine g_subB ?_
  | with_reducible refine g_I0 ?_
  | with_reducible refine g_cmpI ?_
  | with_reducible refine g_eqI ?_
  | with_reducible refine g_neI ?_
  | with_reducible refine g_eqS ?_
  | with_reducible refine g_neS ?_
  | with_reducible refine g_eqB ?_
  | with_reducible refine g_neB ?_
  | with_reducible refine g_bits ?_
  | with_reducible refine g_bitsI ?_
  | with_reducible refine g_fld ?_
  | with_reducible refine g_tup ?_
  | with_reducible refine g_lst ?_
  | with_reducible refine g_gtup ?_
  | with_reducible refine g_make ?_
  | with_reducible refine g_lc ?_
  | with_reducible refine g_yesT ?_
  | with_reducible refine g_intI ?_
  | with_reducible refine g_intB ?_
  | with_reducible refine g_max2 ?_
  | with_reducible refine g_abs1 ?_
  | with_reducible refine g_for ?_
  | with_reducible refine g_iList ?_
  | with_reducible refine g_iTup ?_
  | with_reducible refine g_iRng1 ?_
  | with_reducible refine g_iEnum ?_
  | with_reducible refine g_slice ?_
  | with_reducible refine g_po0 ?_
  | with_reducible refine g_po1 ?_
  | with_reducible refine g_gsub ?_
  | with_reducible refine g_par ?_
  | with_reducible refine g_par2 ?_
  | with_reducible refine g_rfl ?_
  | with_reducible refine g_meth ?_
  | with_reducible refine g_gcons ?_
  | with_reducible refine g_gnil ?_
  | with_reducible refine g_gfld ?_
  | with_reducible refine g_sfld ?_
  | with_reducible refine g_drop ?_
  | with_reducible refine g_next ?_
  | with_reducible refine iteT ?_
  | with_reducible refine iteF ?_)
local macro_rules | `(tactic| walk_at "go") => `(tactic| (repeat walk_at "u"))
local macro_rules | `(tactic| walk_at "t") => `(tactic| (repeat (first
  | walk_at "u"
  | with_reducible refine g_chain ?_
  | with_reducible refine g_par3 ?_
  | with_reducible refine g_par3' ?_
  | with_reducible refine g_augS ?_
  | with_reducible refine g_nt ?_
  | with_reducible refine g_nf ?_
  | with_reducible refine g_methK ?_
  | with_reducible refine g_makeK ?_
  | with_reducible refine g_iRng2 ?_
  | with_reducible refine g_bm ?_
  | with_reducible refine g_fldaug ?_
  | with_reducible refine g_iStr ?_
  | with_reducible refine g_ipI ?_
  | ((with_reducible show tAug _ _ _ _ _ _); refine ⟨_, rfl, ?_⟩)
  | ((with_reducible refine show_exT ?_); first
    | refine rdT3 (by assumption) (by assumption) ?_
    | refine rdT4 (by assumption) (by assumption) ?_
    | refine rdT5 (by assumption) (by assumption) ?_
    | refine rdT1 (by assumption) (by assumption) ?_
    | refine rdT2 (by assumption) (by assumption) ?_
    | refine rdN1 (by assumption) (by assumption) ?_
    | refine rdN2 (by assumption) (by assumption) ?_
    | refine rdN3 (by assumption) (by assumption) ?_
    | refine rdN4 (by assumption) (by assumption) ?_))))

/-! ### borders, in plain Lean -/
def halve (p : Nat → Bool) (lo hi : Nat) : Nat := if h : hi - lo > 1 then (if p ((lo + hi) / 2) = true then halve p lo ((lo + hi) / 2) else halve p ((lo + hi) / 2) hi) else lo
termination_by hi - lo
decreasing_by all_goals omega
def dbl (p : Nat → Bool) (lo hi : Nat) : Nat := if p hi = true then halve p lo hi else if h : hi = 0 ∨ 4611686018427387903 < hi then (if p 9223372036854775807 = true then halve p hi 9223372036854775807 else 9223372036854775807) else dbl p hi (2 * hi)
termination_by 9223372036854775808 - hi
decreasing_by omega
def brd (p : Nat → Bool) (n : Nat) (has : Bool) : Nat := if 0 < n ∧ p n = true then halve p 0 n else if has = false ∨ p (n + 1) = true then n else dbl p (max 1 n) (max 1 n)
theorem halve_stop {p : Nat → Bool} {lo hi : Nat} (h : ¬ hi - lo > 1) : halve p lo hi = lo := by rw [halve]; exact dif_neg h
theorem halve_lo {p : Nat → Bool} {lo hi : Nat} (h : hi - lo > 1) (hp : p ((lo + hi) / 2) = true) : halve p lo hi = halve p lo ((lo + hi) / 2) := by rw [halve, dif_pos h, if_pos hp]
theorem halve_hi {p : Nat → Bool} {lo hi : Nat} (h : hi - lo > 1) (hp : p ((lo + hi) / 2) = false) : halve p lo hi = halve p ((lo + hi) / 2) hi := by rw [halve, dif_pos h, if_neg (by rw [hp]; decide)]
theorem halve_ok {p : Nat → Bool} (n : Nat) : ∀ lo hi, hi - lo ≤ n → lo < hi → (lo = 0 ∨ p lo = false) → p hi = true → (halve p lo hi = 0 ∨ p (halve p lo hi) = false) ∧ p (halve p lo hi + 1) = true ∧ lo ≤ halve p lo hi ∧ halve p lo hi < hi := by
  induction n with
  | zero => intro lo hi h1 h2; omega
  | succ n ih =>
    intro lo hi h1 h2 h3 h4
    by_cases h : hi - lo > 1
    · cases hp : p ((lo + hi) / 2) with
      | true =>
        rw [halve_lo h hp]
        obtain ⟨a, b, c, d⟩ := ih lo ((lo + hi) / 2) (by omega) (by omega) h3 hp
        exact ⟨a, b, c, by omega⟩
      | false =>
        rw [halve_hi h hp]
        obtain ⟨a, b, c, d⟩ := ih ((lo + hi) / 2) hi (by omega) (by omega) (.inr hp) h4
        exact ⟨a, b, by omega, d⟩
    · rw [halve_stop h]
      have : hi = lo + 1 := by omega
      rw [← this]
      exact ⟨h3, h4, Nat.le_refl _, h2⟩
theorem dbl_ok {p : Nat → Bool} (n : Nat) : ∀ lo hi, 9223372036854775808 - hi ≤ n → (0 < lo ∧ lo < hi ∧ p lo = false ∨ p hi = false) → 0 < hi → hi < 9223372036854775807 → (p (dbl p lo hi) = false) ∧ (dbl p lo hi = 9223372036854775807 ∨ p (dbl p lo hi + 1) = true) ∧ 0 < dbl p lo hi ∧ dbl p lo hi ≤ 9223372036854775807 := by
  induction n with
  | zero => intro lo hi h1 _ _ h4; omega
  | succ n ih =>
    intro lo hi h1 h2 h3 h4
    rw [dbl]
    by_cases hp : p hi = true
    · rw [if_pos hp]
      rcases h2 with ⟨h7, h5, h6⟩ | h5
      · obtain ⟨a, b, c, d⟩ := halve_ok (p := p) (hi - lo) lo hi (Nat.le_refl _) h5 (.inr h6) hp
        exact ⟨a.resolve_left (by omega), .inr b, by omega, by omega⟩
      · rw [hp] at h5; cases h5
    · have hp : p hi = false := by simpa using hp
      rw [if_neg (by rw [hp]; decide)]
      by_cases h6 : hi = 0 ∨ 4611686018427387903 < hi
      · rw [dif_pos h6]
        by_cases hl : p 9223372036854775807 = true
        · rw [if_pos hl]
          obtain ⟨a, b, c, d⟩ := halve_ok (p := p) (9223372036854775807 - hi) hi 9223372036854775807 (Nat.le_refl _) h4 (.inr hp) hl
          exact ⟨a.resolve_left (by omega), .inr b, by omega, by omega⟩
        · rw [if_neg hl]
          exact ⟨by simpa using hl, .inl rfl, by omega, by omega⟩
      · rw [dif_neg h6]
        exact ih hi (2 * hi) (by omega) (.inl ⟨by omega, by omega, hp⟩) (by omega) (by omega)
section
variable {P : Program} {w : World} {K : PySem.W.Frag} {mg : Str → Option Value} {base : Heap} {C D N : Addr} {H H' : Hp} {a : Addr} {num me : V} {F F' : Fp} {t t' : Tb Ky}
noncomputable def pN (t : Tb Ky) (m : Nat) : Bool := decide (gtT t (KK.ki (m : Int)) = .non)
noncomputable def brT (t : Tb Ky) : Nat := brd (pN t) t.arr.length (!t.nds.isEmpty)
theorem gt_arr {m : Nat} {v : V} (h1 : 0 < m) (h : t.arr[m - 1]? = some v) : gtT t (KK.ki (m : Int)) = v := by
  have hl : m - 1 < t.arr.length := by
    by_cases y : m - 1 < t.arr.length
    · exact y
    · rw [List.getElem?_eq_none (by omega)] at h; cases h
  refine GetR.eq (.inl ⟨(m : Int), rfl, by omega, by omega, ?_⟩)
  have e : ((m : Int) - 1).toNat = m - 1 := by omega
  rw [e]
  exact h
theorem gt_beyond {m : Nat} (h0 : t.nds = []) (h : t.arr.length < m) : gtT t (KK.ki (m : Int)) = .non := by
  refine GetR.eq (.inr ⟨?_, .inr ⟨fun z => (nomatch z), rfl, none, ?_, .inl ⟨rfl, rfl⟩⟩⟩)
  · rintro ⟨i, e, h1, h2⟩
    have e : some (m : Int) = some i := e
    injection e with e
    omega
  · have : st0 KK (plK (KK.ki (m : Int))) t.nds.length = none := by unfold st0; rw [h0]; rfl
    rw [this]
    exact .non
theorem brT_ok (hs : t.arr.length ≤ 20000) : (brT t = 0 ∨ pN t (brT t) = false) ∧ (brT t = 9223372036854775807 ∨ pN t (brT t + 1) = true) ∧ brT t ≤ 9223372036854775807 := by
  unfold brT brd
  by_cases h1 : 0 < t.arr.length ∧ pN t t.arr.length = true
  · rw [if_pos h1]
    obtain ⟨a, b, c, d⟩ := halve_ok (p := pN t) t.arr.length 0 t.arr.length (by omega) h1.1 (.inl rfl) h1.2
    exact ⟨a, .inr b, by omega⟩
  · rw [if_neg h1]
    have h3 : t.arr.length = 0 ∨ pN t t.arr.length = false := by
      by_cases z : 0 < t.arr.length
      · right
        cases e : pN t t.arr.length with
        | false => rfl
        | true => exact absurd ⟨z, e⟩ h1
      · left; omega
    by_cases h2 : (!t.nds.isEmpty) = false ∨ pN t (t.arr.length + 1) = true
    · rw [if_pos h2]
      refine ⟨h3, .inr ?_, by omega⟩
      rcases h2 with h2 | h2
      · have e : t.nds = [] := by simpa using h2
        unfold pN
        rw [gt_beyond e (by omega)]
        rfl
      · exact h2
    · rw [if_neg h2]
      have h4 : pN t (t.arr.length + 1) = false := by
        cases e : pN t (t.arr.length + 1) with
        | false => rfl
        | true => exact absurd (.inr e) h2
      have h5 : pN t (max 1 t.arr.length) = false := by
        by_cases z : t.arr.length = 0
        · rw [z] at h4 ⊢
          exact h4
        · have : max 1 t.arr.length = t.arr.length := by omega
          rw [this]
          exact h3.resolve_left z
      obtain ⟨a, b, c, d⟩ := dbl_ok (p := pN t) 9223372036854775808 (max 1 t.arr.length) (max 1 t.arr.length) (by omega) (.inr h5) (by omega) (by omega)
      exact ⟨.inr a, b, d⟩
theorem bigN {m : Nat} (h : m < 2 ^ 64) : ((m : Nat) : Int).natAbs < 2 ^ 5000 := lt_pow_mono (a := 64) (by omega) (by decide)
abbrev CGet (P : Program) (w : World) (K : PySem.W.Frag) (mg : Str → Option Value) (base : Heap) (C D N : Addr) : Prop := Mt P w K mg base CX0 6 D "get" ["self", "key"] (sp_get C D N)
theorem g_getN {H : Hp} {Q : VK} {E : XK} (ht : TbS C D N H a num me F t) {m : Nat} (hm : m < 2 ^ 64) (q : ∀ H', Same H H' → Q (gtT t (KK.ki (m : Int))) H') : sp_get C D N (V.ref a :: ([.int (m : Nat)] ++ [])) H Q E :=
  ⟨a, _, num, me, KK.ki (m : Int), F, t, rfl, ht, ky_int (bigN hm), fun H' s _ => q H' s⟩
/-! between -/
abbrev s_Table_between : Stmt := inClass (top 37) 14
theorem sc_Table_between : FnScope ["self", "low", "high", "middle"] ["self", "low", "high"] (defScope s_Table_between) := ⟨rfl, rfl, rfl, by decide +kernel, rfl, by decide +kernel, by decide +kernel⟩
def sp_between (C D N : Addr) : Sp := fun vs H Q _ => ∃ (a : Addr) (num me : V) (lo hi : Nat) (F : Fp) (t : Tb Ky), vs = [.ref a, .int lo, .int hi] ∧ TbS C D N H a num me F t ∧ hi < 2 ^ 64 ∧ lo < 2 ^ 64 ∧ ∀ H', Same H H' → Q (.int (halve (pN t) lo hi : Nat)) H'
theorem ok_between {f : Addr} {fd : FuncData} (F : FunD K "between" "Table.between" (defArgs s_Table_between) (defBody s_Table_between) (defScope s_Table_between) [] [] f fd) (B : Blt mg) (TT : TbC K mg D) (c_get : CGet P w K mg base C D N) : FnOk P w K mg base CX0 7 f fd ["self", "low", "high"] (sp_between C D N) := by
  refine F.ok sc_Table_between (fun vs H Q E h => ?_) (fun cdv A outer s H vs Q E hr h => ?_)
  · obtain ⟨_, _, _, _, _, _, _, rfl, _⟩ := h; rfl
  · obtain ⟨a, num, me, lo, hi, G, t, rfl, ht, hh, hlo, q⟩ := h
    refine ⟨_, PSs.nox (pss_cons (ps_while PassesOwn.never (pt_cmpR op_oGt (pe_op op_oSub (pv 2) (pv 1)) pe_int (nomark _))
    (pss_cons (ps_set (i := 3) sc_Table_between.nd rfl (Or.inl rfl) (pe_op op_oDiv (pe_op op_oAdd (pv 1) (pv 2)) pe_int))
  (pss_one (ps_if (pt_cmpR op_isN (pe_mt c_get (hr.mono (by first | decide | omega)) pass0 (pv 0) (pa_cons (pv 3) pa_nil)) pe_non (nomark _)) (pss_one (ps_set (i := 2) sc_Table_between.nd rfl (Or.inl rfl) (pv 3))) (pss_one (ps_set (i := 1) sc_Table_between.nd rfl (Or.inl rfl) (pv 3)))))))
  (pss_one (ps_ret (pv 1)))), ?_⟩
    walk_at "t"
    refine g_while (fun m σ' H' => ∃ l h : Nat, ∃ e3, σ' = [some (.ref a), some (.int l), some (.int h), e3] ∧ Same H H' ∧ l < 2 ^ 64 ∧ h < 2 ^ 64 ∧ halve (pN t) l h = halve (pN t) lo hi ∧ m = h - l) _ ⟨lo, hi, _, rfl, Same.refl _, hlo, hh, rfl, rfl⟩ ?_
    rintro m _ H1 ⟨l, h, e3, rfl, s1, l1, l2, eh, rfl⟩
    have ht1 := ht.same s1
    obtain ⟨⟨dx, ho⟩, _⟩ := id ht1.at_
    walk_at "t"
    refine g_ite (fun h1 => ?_) fun h1 => ?_
    · refine g_wbody ?_
      walk_at "t"
      refine g_divI (by decide) (by decide) ?_
      have em : ((l : Int) + (h : Int)).fdiv 2 = (((l + h) / 2 : Nat) : Int) := by
        have := fdiv_nat (l + h) 2
        rw [← this]
        rfl
      rw [em]
      walk_at "t"
      refine ⟨a, dx, _, rfl, ho, rfl, ?_⟩
      walk_at "t"
      refine g_getN ht1 (by omega) fun H2 s2 => ?_
      walk_at "t"
      refine g_iteb (fun h2 => ?_) fun h2 => ?_
      · walk_at "t"
        exact ⟨(l + h) / 2 - l, by omega, l, (l + h) / 2, some (.int (((l + h) / 2 : Nat) : Int)), rfl, s1.trans s2, l1, by omega, (halve_lo (by omega) h2).symm.trans eh, rfl⟩
      · walk_at "t"
        exact ⟨h - (l + h) / 2, by omega, (l + h) / 2, h, some (.int (((l + h) / 2 : Nat) : Int)), rfl, s1.trans s2, by omega, l2, (halve_hi (by omega) h2).symm.trans eh, rfl⟩
    · walk_at "t"
      rw [halve_stop (by omega)] at eh
      rw [eh]
      exact q _ s1
/-! border_beyond -/
abbrev s_Table_borderbeyond : Stmt := inClass (top 37) 13
theorem sc_Table_borderbeyond : FnScope ["self", "low", "high"] ["self", "low"] (defScope s_Table_borderbeyond) := ⟨rfl, rfl, rfl, by decide +kernel, rfl, by decide +kernel, by decide +kernel⟩
def sp_beyond (C D N : Addr) : Sp := fun vs H Q _ => ∃ (a : Addr) (num me : V) (F : Fp) (t : Tb Ky), vs = [.ref a, .int (t.arr.length : Nat)] ∧ TbS C D N H a num me F t ∧ ∀ H', Same H H' → Q (.int ((if (!t.nds.isEmpty) = false ∨ pN t (t.arr.length + 1) = true then t.arr.length else dbl (pN t) (max 1 t.arr.length) (max 1 t.arr.length) : Nat) : Int)) H'
abbrev CBetween (P : Program) (w : World) (K : PySem.W.Frag) (mg : Str → Option Value) (base : Heap) (C D N : Addr) : Prop := Mt P w K mg base CX0 7 D "between" ["self", "low", "high"] (sp_between C D N)
theorem vs_empty (h : TbAt D N H a num me F t) : F.vs.isEmpty = t.nds.isEmpty := by
  have e := h.len
  cases h1 : F.vs with
  | nil =>
    rw [h1] at e
    have : t.nds = [] := List.length_eq_zero_iff.mp e.symm
    rw [this]; rfl
  | cons _ _ =>
    cases h2 : t.nds with
    | nil => rw [h1, h2] at e; cases e
    | cons _ _ => rfl
theorem ok_beyond {f : Addr} {fd : FuncData} (F : FunD K "border_beyond" "Table.border_beyond" (defArgs s_Table_borderbeyond) (defBody s_Table_borderbeyond) (defScope s_Table_borderbeyond) [] [] f fd) (B : Blt mg) (TT : TbC K mg D) (i_MOST_WHOLE : ∃ t, mg "MOST_WHOLE" = some (.int 9223372036854775807 t)) (c_get : CGet P w K mg base C D N) (c_between : CBetween P w K mg base C D N) : FnOk P w K mg base CX0 8 f fd ["self", "low"] (sp_beyond C D N) := by
  refine F.ok sc_Table_borderbeyond (fun vs H Q E h => ?_) (fun cdv A outer s H vs Q E hr h => ?_)
  · obtain ⟨_, _, _, _, _, rfl, _⟩ := h; rfl
  · obtain ⟨a, num, me, G, t, rfl, ht, q⟩ := h
    have hsa := ht.sa
    refine ⟨_, PSs.nox (pss_cons (ps_if (pt_cut (PW.pt (pw_or (pt_cmpR (op_eqE hr.units) (pe_fld (pv 0) rfl) (pe_lstN pa_nil) (nomark _)) (pw_or1 (pt_cmpR op_isN (pe_mt c_get (hr.mono (by first | decide | omega)) pass0 (pv 0) (pa_cons (pe_op op_oAdd (pv 1) pe_int) pa_nil)) pe_non (nomark _)))))) (pss_one (ps_ret (pv 1))) pss_nil)
  (pss_cons (ps_set (i := 1) sc_Table_borderbeyond.nd rfl (Or.inl rfl) (pe_callB (call_max2 rfl) (by rfl) B.max (by decide +kernel) (pa_cons pe_int (pa_cons (pv 1) pa_nil))))
  (pss_cons (ps_set (i := 2) sc_Table_borderbeyond.nd rfl (Or.inl rfl) (pv 1))
  (pss_cons (ps_while PassesOwn.never (pt_cmpR op_notN (pe_mt c_get (hr.mono (by first | decide | omega)) pass0 (pv 0) (pa_cons (pv 2) pa_nil)) pe_non (nomark _))
    (pss_cons (ps_set (i := 1) sc_Table_borderbeyond.nd rfl (Or.inl rfl) (pv 2))
  (pss_cons (ps_if (pt_cmpR op_oGt (pv 2) (pe_op op_oDiv (pe_gint i_MOST_WHOLE) pe_int) (nomark _)) (pss_one (ps_ret (pe_ifExp (pt_cmpR op_notN (pe_mt c_get (hr.mono (by first | decide | omega)) pass0 (pv 0) (pa_cons (pe_gint i_MOST_WHOLE) pa_nil)) pe_non (nomark _)) (pe_gint i_MOST_WHOLE) (pe_mt c_between (hr.mono (by first | decide | omega)) pass0 (pv 0) (pa_cons (pv 1) (pa_cons (pe_gint i_MOST_WHOLE) pa_nil)))))) pss_nil)
  (pss_one (ps_aug (i := 2) sc_Table_borderbeyond.nd rfl (.inl rfl) pe_int ip_mul)))))
  (pss_one (ps_ret (pe_mt c_between (hr.mono (by first | decide | omega)) pass0 (pv 0) (pa_cons (pv 1) (pa_cons (pv 2) pa_nil))))))))), ?_⟩
    obtain ⟨⟨dx, ho⟩, _, hl, _⟩ := id ht.at_
    walk_at "t"
    refine g_cutT (fun b H' => Same H H' ∧ b = decide ((!t.nds.isEmpty) = false ∨ pN t (t.arr.length + 1) = true)) ?_ ?_
    · walk_at "t"
      refine g_new (sz rfl) fun p1 H1 n1 s1 h1 _ => ?_
      refine g_eqE (s1 _ _ hl) h1 ?_
      rw [vs_empty ht.at_]
      have ho1 := s1 _ _ ho
      walk_at "t"
      refine g_iteb (fun h2 => ?_) fun h2 => ?_
      · refine ⟨s1, ?_⟩
        rw [decide_eq_true (.inl (by rw [h2]; rfl))]
      · walk_at "t"
        refine ⟨a, dx, _, rfl, ho1, rfl, ?_⟩
        walk_at "t"
        have em : ((t.arr.length : Nat) : Int) + 1 = ((t.arr.length + 1 : Nat) : Int) := by omega
        rw [em]
        refine g_getN (ht.same s1) (by omega) fun H2 s2 => ?_
        walk_at "t"
        refine ⟨s1.trans s2, ?_⟩
        show pN t (t.arr.length + 1) = _
        rw [h2]
        cases pN t (t.arr.length + 1) <;> rfl
    · rintro _ H1 ⟨s1, rfl⟩
      refine g_ite (fun h1 => ?_) fun h1 => ?_
      · rw [if_pos h1] at q
        walk_at "t"
        exact q _ s1
      · rw [if_neg h1] at q
        walk_at "t"
        have em : (if ((t.arr.length : Nat) : Int) > 1 then ((t.arr.length : Nat) : Int) else 1) = ((max 1 t.arr.length : Nat) : Int) := by split <;> omega
        rw [em]
        walk_at "t"
        refine g_while (fun m σ' H' => ∃ l h : Nat, σ' = [some (.ref a), some (.int l), some (.int h)] ∧ Same H H' ∧ 0 < h ∧ l ≤ h ∧ h < 9223372036854775807 ∧ dbl (pN t) l h = dbl (pN t) (max 1 t.arr.length) (max 1 t.arr.length) ∧ m = 9223372036854775808 - h) _ ⟨_, _, rfl, s1, by omega, Nat.le_refl _, by omega, rfl, rfl⟩ ?_
        rintro m _ H2 ⟨l, h, rfl, s2, h0, hlh, hh, ed, rfl⟩
        have ht2 := ht.same s2
        obtain ⟨⟨dx2, ho2⟩, _⟩ := id ht2.at_
        walk_at "t"
        refine ⟨a, dx2, _, rfl, ho2, rfl, ?_⟩
        walk_at "t"
        refine g_getN ht2 (by omega) fun H3 s3 => ?_
        have ht3 := ht2.same s3
        have s03 := s2.trans s3
        obtain ⟨⟨dx3, ho3⟩, _⟩ := id ht3.at_
        walk_at "t"
        rw [dbl] at ed
        have epn : pN t h = decide (gtT t (KK.ki (h : Int)) = .non) := rfl
        refine g_iteb (fun h2 => ?_) fun h2 => ?_
        · have h2 : pN t h = false := by rw [epn]; simpa using h2
          rw [if_neg (by rw [h2]; decide)] at ed
          refine g_wbody ?_
          walk_at "t"
          refine g_divI (by decide) (by decide) ?_
          walk_at "t"
          have e2 : (9223372036854775807 : Int).fdiv 2 = 4611686018427387903 := by decide
          rw [e2]
          refine g_ite (fun h3 => ?_) fun h3 => ?_
          · rw [dif_pos (.inr (by omega))] at ed
            walk_at "t"
            refine ⟨a, dx3, _, rfl, ho3, rfl, ?_⟩
            walk_at "t"
            refine g_getN (m := 9223372036854775807) ht3 (by decide) fun H4 s4 => ?_
            have ht4 := ht3.same s4
            obtain ⟨⟨dx4, ho4⟩, _⟩ := id ht4.at_
            walk_at "t"
            refine g_iteb (fun h4 => ?_) fun h4 => ?_
            · have h4 : pN t 9223372036854775807 = false := by
                have : pN t 9223372036854775807 = decide (gtT t (KK.ki ((9223372036854775807 : Nat) : Int)) = .non) := rfl
                rw [this]; simpa using h4
              rw [if_neg (by rw [h4]; decide)] at ed
              rw [← ed] at q
              walk_at "t"
              exact q _ (s03.trans s4)
            · have h4 : pN t 9223372036854775807 = true := by
                have : pN t 9223372036854775807 = decide (gtT t (KK.ki ((9223372036854775807 : Nat) : Int)) = .non) := rfl
                rw [this]; simpa using h4
              rw [if_pos h4] at ed
              rw [← ed] at q
              walk_at "t"
              refine ⟨a, dx4, _, rfl, ho4, rfl, ?_⟩
              walk_at "t"
              exact ⟨a, num, me, h, 9223372036854775807, G, t, rfl, ht4, by decide, by omega, fun H5 s5 => q _ ((s03.trans s4).trans s5)⟩
          · rw [dif_neg (fun z => z.elim (by omega) (by omega))] at ed
            walk_at "t"
            refine g_ipM (.of_right (by decide)) ?_
            walk_at "t"
            have e5 : ((h : Int) * 2) = ((2 * h : Nat) : Int) := by omega
            rw [e5]
            exact ⟨_, by show 9223372036854775808 - 2 * h < _; omega, h, 2 * h, rfl, s03, by omega, by omega, by omega, ed, rfl⟩
        · have h2 : pN t h = true := by rw [epn]; simpa using h2
          rw [if_pos h2] at ed
          rw [← ed] at q
          walk_at "t"
          refine ⟨a, dx3, _, rfl, ho3, rfl, ?_⟩
          walk_at "t"
          exact ⟨a, num, me, l, h, G, t, rfl, ht3, by omega, by omega, fun H5 s5 => q _ (s03.trans s5)⟩
/-! border -/
abbrev s_Table_border : Stmt := inClass (top 37) 12
theorem sc_Table_border : FnScope ["self", "low", "high", "middle"] ["self"] (defScope s_Table_border) := ⟨rfl, rfl, rfl, by decide +kernel, rfl, by decide +kernel, by decide +kernel⟩
def sp_border (C D N : Addr) : Sp := fun vs H Q _ => ∃ (a : Addr) (num me : V) (F : Fp) (t : Tb Ky), vs = [.ref a] ∧ TbS C D N H a num me F t ∧ ∀ H', Same H H' → Q (.int (brT t : Nat)) H'
theorem ok_border {f : Addr} {fd : FuncData} (F : FunD K "border" "Table.border" (defArgs s_Table_border) (defBody s_Table_border) (defScope s_Table_border) [] [] f fd) (B : Blt mg) (TT : TbC K mg D) (c_borderbeyond : Mt P w K mg base CX0 8 D "border_beyond" ["self", "low"] (sp_beyond C D N)) : FnOk P w K mg base CX0 9 f fd ["self"] (sp_border C D N) := by
  refine F.ok sc_Table_border (fun vs H Q E h => ?_) (fun cdv A outer s H vs Q E hr h => ?_)
  · obtain ⟨_, _, _, _, _, rfl, _⟩ := h; rfl
  · obtain ⟨a, num, me, G, t, rfl, ht, q⟩ := h
    have hsa := ht.sa
    refine ⟨_, PSs.nox (pss_cons (ps_par (i := 1) (j := 2) rfl sc_Table_border.nd rfl rfl (by decide) rfl rfl (pa_cons pe_int (pa_cons (pe_callB call_len_seq (by rfl) B.len (by decide +kernel) (pa_cons (pe_fld (pv 0) rfl) pa_nil)) pa_nil)) (by rfl))
  (pss_cons (ps_if (PW.pt (pw_or (pt_cmpR (op_oEq hr.units) (pv 2) pe_int (nomark _)) (pw_or1 (pt_cmpR op_notN (pe_ix ix_seq (pe_fld (pv 0) rfl) (pe_op op_oSub (pv 2) pe_int) (fun _ _ => rfl)) pe_non (nomark _))))) (pss_one (ps_ret (pe_mt c_borderbeyond (hr.mono (by first | decide | omega)) pass0 (pv 0) (pa_cons (pv 2) pa_nil)))) pss_nil)
  (pss_cons (ps_while PassesOwn.never (pt_cmpR op_oGt (pe_op op_oSub (pv 2) (pv 1)) pe_int (nomark _))
    (pss_cons (ps_set (i := 3) sc_Table_border.nd rfl (Or.inl rfl) (pe_op op_oDiv (pe_op op_oAdd (pv 1) (pv 2)) pe_int))
  (pss_one (ps_if (pt_cmpR op_isN (pe_ix ix_seq (pe_fld (pv 0) rfl) (pe_op op_oSub (pv 3) pe_int) (fun _ _ => rfl)) pe_non (nomark _)) (pss_one (ps_set (i := 2) sc_Table_border.nd rfl (Or.inl rfl) (pv 3))) (pss_one (ps_set (i := 1) sc_Table_border.nd rfl (Or.inl rfl) (pv 3)))))))
  (pss_one (ps_ret (pv 1)))))), ?_⟩
    obtain ⟨⟨dx, ho⟩, ha, hl, _⟩ := id ht.at_
    walk_at "t"
    refine g_lenL ha ?_
    walk_at "t"
    have arr_p : ∀ m : Nat, 0 < m → m ≤ t.arr.length → ∃ v, t.arr[m - 1]? = some v ∧ pN t m = decide (v = .non) := fun m h1 h2 => by
      refine ⟨_, List.getElem?_eq_getElem (show m - 1 < t.arr.length by omega), ?_⟩
      unfold pN
      rw [gt_arr h1 (List.getElem?_eq_getElem (show m - 1 < t.arr.length by omega))]
    have beyond : ¬ (0 < t.arr.length ∧ pN t t.arr.length = true) → ∀ {Q' : VK} {E' : XK}, Q' = Q → sp_beyond C D N (V.ref a :: ([.int (t.arr.length : Nat)] ++ [])) H Q' E' := fun hb Q' E' eq => by
      subst eq
      refine ⟨a, num, me, G, t, rfl, ht, fun H' s' => ?_⟩
      have q := q H' s'
      unfold brT brd at q
      rw [if_neg hb] at q
      exact q
    by_cases h0 : t.arr.length = 0
    · refine g_yes (by omega) ?_
      refine iteT ?_
      walk_at "t"
      refine ⟨a, dx, _, rfl, ho, rfl, ?_⟩
      walk_at "t"
      exact beyond (by omega) rfl
    · refine g_no (by omega) ?_
      walk_at "t"
      obtain ⟨v, ev, hp⟩ := arr_p t.arr.length (by omega) (Nat.le_refl _)
      refine g_ixL ha (atI_of (by omega) (by rw [show (((t.arr.length : Nat) : Int) - 1).toNat = t.arr.length - 1 by omega]; exact ev)) ?_
      walk_at "t"
      refine g_iten (fun h1 => ?_) fun h1 => ?_
      · walk_at "t"
        refine ⟨a, dx, _, rfl, ho, rfl, ?_⟩
        walk_at "t"
        exact beyond (by rw [hp]; simp [h1]) rfl
      · walk_at "t"
        have eb : brT t = halve (pN t) 0 t.arr.length := by unfold brT brd; rw [if_pos ⟨by omega, by rw [hp]; simp [h1]⟩]
        rw [eb] at q
        refine g_while (fun m σ' H' => H' = H ∧ ∃ l h : Nat, ∃ e3, σ' = [some (.ref a), some (.int l), some (.int h), e3] ∧ h ≤ t.arr.length ∧ halve (pN t) l h = halve (pN t) 0 t.arr.length ∧ m = h - l) _ ⟨rfl, 0, t.arr.length, _, rfl, Nat.le_refl _, rfl, rfl⟩ ?_
        rintro m _ _ ⟨rfl, l, h, e3, rfl, l2, eh, rfl⟩
        walk_at "t"
        refine g_ite (fun h1 => ?_) fun h1 => ?_
        · refine g_wbody ?_
          walk_at "t"
          refine g_divI (by decide) (by decide) ?_
          have em : ((l : Int) + (h : Int)).fdiv 2 = (((l + h) / 2 : Nat) : Int) := by
            have := fdiv_nat (l + h) 2
            rw [← this]
            rfl
          rw [em]
          walk_at "t"
          obtain ⟨u, eu, hpu⟩ := arr_p ((l + h) / 2) (by omega) (by omega)
          refine g_ixL ha (atI_of (by omega) (by rw [show ((((l + h) / 2 : Nat) : Int) - 1).toNat = (l + h) / 2 - 1 by omega]; exact eu)) ?_
          walk_at "t"
          refine g_ite (fun h2 => ?_) fun h2 => ?_
          · walk_at "t"
            exact ⟨(l + h) / 2 - l, by omega, rfl, l, (l + h) / 2, some (.int (((l + h) / 2 : Nat) : Int)), rfl, by omega, (halve_lo (by omega) (by rw [hpu]; simp [h2])).symm.trans eh, rfl⟩
          · walk_at "t"
            exact ⟨h - (l + h) / 2, by omega, rfl, (l + h) / 2, h, some (.int (((l + h) / 2 : Nat) : Int)), rfl, l2, (halve_hi (by omega) (by rw [hpu]; simp [h2])).symm.trans eh, rfl⟩
        · walk_at "t"
          rw [halve_stop (by omega)] at eh
          rw [eh]
          exact q _ (Same.refl _)
end
end Up

set_option Elab.async false
set_option linter.all false
set_option pp.maxSteps 600
set_option maxRecDepth 100000
set_option maxHeartbeats 4000000
set_option exponentiation.threshold 200000
namespace Up
open PySem PySem.Spec PyProof.Rows L2
local macro_rules | `(tactic| walk_at "u") => `(tactic| first
  | with_reducible refine g_seq ?_
  | with_reducible refine g_asg ?_
  | with_reducible refine g_op ?_
  | ((with_reducible show tVar _ _ _ _); apply g_var; exact rfl)
  | with_reducible refine g_c ?_
  | with_reducible refine g_name ?_
  | with_reducible refine g_ifs ?_
  | with_reducible refine g_tt ?_
  | with_reducible refine g_tB ?_
  | with_reducible refine g_bl ?_
  | with_reducible refine g_ret ?_
  | with_reducible refine g_cb ?_
  | with_reducible refine g_cons ?_
  | with_reducible refine g_nil ?_
  | with_reducible refine g_call ?_
  | with_reducible refine g_and ?_
  | with_reducible refine g_or ?_
  | with_reducible refine g_not ?_
  | with_reducible refine g_andV ?_
  | with_reducible refine g_orV ?_
  | with_reducible refine g_notV ?_
  | with_reducible refine g_if ?_
  | with_reducible refine g_un ?_
  | with_reducible refine g_neg ?_
  | with_reducible refine g_addI ?_
  | with_reducible refine g_subI ?_
  | with_reducible refine g_subB ?_
  | with_reducible refine g_I0 ?_
  | with_reducible refine g_cmpI ?_
  | with_reducible refine g_eqI ?_
  | with_reducible refine g_neI ?_
  | with_reducible refine g_eqS ?_
  | with_reducible refine g_neS ?_
  | with_reducible refine g_eqB ?_
  | with_reducible refine g_neB ?_
  | with_reducible refine g_bits ?_
  | with_reducible refine g_bitsI ?_
  | with_reducible refine g_fld ?_
  | with_reducible refine g_tup ?_
  | with_reducible refine g_lst ?_
  | with_reducible refine g_gtup ?_
  | with_reducible refine g_make ?_
  | with_reducible refine g_lc ?_
  | with_reducible refine g_yesT ?_
  | with_reducible refine g_intI ?_
  | with_reducible refine g_intB ?_
  | with_reducible refine g_max2 ?_
  | with_reducible refine g_abs1 ?_
  | with_reducible refine g_for ?_
  | with_reducible refine g_iList ?_
  | with_reducible refine g_iTup ?_
  | with_reducible refine g_iRng1 ?_
  | with_reducible refine g_iEnum ?_
  | with_reducible refine g_slice ?_
  | with_reducible refine g_po0 ?_
  | with_reducible refine g_po1 ?_
  | with_reducible refine g_gsub ?_
  | with_reducible refine g_par ?_
  | with_reducible refine g_par2 ?_
  | with_reducible refine g_rfl ?_
  | with_reducible refine g_meth ?_
  | with_reducible refine g_gcons ?_
  | with_reducible refine g_gnil ?_
  | with_reducible refine g_gfld ?_
  | with_reducible refine g_sfld ?_
  | with_reducible refine g_drop ?_
  | with_reducible refine g_next ?_
  | with_reducible refine iteT ?_
  | with_reducible refine iteF ?_)
local macro_rules | `(tactic| walk_at "go") => `(tactic| (repeat walk_at "u"))
local macro_rules | `(tactic| walk_at "t") => `(tactic| (repeat (first
  | walk_at "u"
  | with_reducible refine g_chain ?_
  | with_reducible refine g_par3 ?_
  | with_reducible refine g_par3' ?_
  | with_reducible refine g_augS ?_
  | with_reducible refine g_nt ?_
  | with_reducible refine g_nf ?_
  | with_reducible refine g_methK ?_
  | with_reducible refine g_makeK ?_
  | with_reducible refine g_iRng2 ?_
  | with_reducible refine g_bm ?_
  | with_reducible refine g_fldaug ?_
  | with_reducible refine g_iStr ?_
  | with_reducible refine g_ipI ?_
  | ((with_reducible show tAug _ _ _ _ _ _); refine ⟨_, rfl, ?_⟩)
  | ((with_reducible refine show_exT ?_); first
    | refine rdT3 (by assumption) (by assumption) ?_
    | refine rdT4 (by assumption) (by assumption) ?_
    | refine rdT5 (by assumption) (by assumption) ?_
    | refine rdT1 (by assumption) (by assumption) ?_
    | refine rdT2 (by assumption) (by assumption) ?_
    | refine rdN1 (by assumption) (by assumption) ?_
    | refine rdN2 (by assumption) (by assumption) ?_
    | refine rdN3 (by assumption) (by assumption) ?_
    | refine rdN4 (by assumption) (by assumption) ?_))))

section
variable {P : Program} {w : World} {K : PySem.W.Frag} {mg : Str → Option Value} {base : Heap} {C D N : Addr} {H H' : Hp} {a : Addr} {num me : V} {F F' : Fp} {t t' : Tb Ky}
/-! room -/
abbrev s_Table_room : Stmt := inClass (top 37) 17
theorem sc_Table_room : FnScope ["self"] ["self"] (defScope s_Table_room) := ⟨rfl, rfl, rfl, by decide +kernel, rfl, by decide +kernel, by decide +kernel⟩
def sp_room (D N : Addr) : Sp := fun vs H Q _ => ∃ (a : Addr) (num me : V) (F : Fp) (t : Tb Ky), vs = [.ref a] ∧ TbAt D N H a num me F t ∧ RetT H [.int (t.arr.length : Nat), .int (t.nds.length : Nat)] Q
theorem ok_room {f : Addr} {fd : FuncData} (F : FunD K "room" "Table.room" (defArgs s_Table_room) (defBody s_Table_room) (defScope s_Table_room) [] [] f fd) (B : Blt mg) (TT : TbC K mg D) : FnOk P w K mg base CX0 1 f fd ["self"] (sp_room D N) := by
  refine F.ok sc_Table_room (fun vs H Q E h => ?_) (fun cdv A outer s H vs Q E hr h => ?_)
  · obtain ⟨_, _, _, _, _, rfl, _⟩ := h; rfl
  · obtain ⟨a, num, me, G, t, rfl, ht, q⟩ := h
    obtain ⟨⟨dx, ho⟩, ha, hl, hlen, _⟩ := id ht
    refine ⟨_, PSs.nox (pss_one (ps_ret (pe_tupN (pa_cons (pe_callB call_len_seq (by rfl) B.len (by decide +kernel) (pa_cons (pe_fld (pv 0) rfl) pa_nil)) (pa_cons (pe_callB call_len_seq (by rfl) B.len (by decide +kernel) (pa_cons (pe_fld (pv 0) rfl) pa_nil)) pa_nil))))), ?_⟩
    walk_at "t"
    refine g_lenL ha ?_
    walk_at "t"
    refine g_lenL hl ?_
    walk_at "t"
    rw [hlen]
    exact g_new (sz rfl) fun p H1 n1 s1 h1 _ => q _ _ n1 s1 h1
/-! index_of -/
def IxR (t : Tb Ky) (k : Ky) (i : Nat) : Prop := (k.x = .non ∧ i = 0) ∨ (∃ j, whA (plA k.x) = some j ∧ 1 ≤ j ∧ j ≤ t.arr.length ∧ (i : Int) = j) ∨
  (k.x ≠ .non ∧ ¬ inside KK t (plK k) ∧ isNanA k.x = false ∧ ∃ r, Fd KK (nd t.nds) (plK k) true (st0 KK (plK k) t.nds.length) (some r) ∧ r < t.nds.length ∧ i = t.arr.length + r + 1)
def HasIx (t : Tb Ky) (k : Ky) : Prop := k.x = .non ∨ inside KK t (plK k) ∨ (isNanA k.x = false ∧ ∃ r, Fd KK (nd t.nds) (plK k) true (st0 KK (plK k) t.nds.length) (some r))
theorem IxR.le {k : Ky} {i : Nat} (h : IxR t k i) : i ≤ t.arr.length + t.nds.length := by
  rcases h with ⟨_, rfl⟩ | ⟨j, _, _, h, e⟩ | ⟨_, _, _, r, _, h, rfl⟩ <;> omega
abbrev s_Table_indexof : Stmt := inClass (top 37) 15
theorem sc_Table_indexof : FnScope ["self", "key", "at"] ["self", "key"] (defScope s_Table_indexof) := ⟨rfl, rfl, rfl, by decide +kernel, rfl, by decide +kernel, by decide +kernel⟩
def sp_indexof (C D N : Addr) : Sp := fun vs H Q _ => ∃ (a : Addr) (v num me : V) (k : Ky) (F : Fp) (t : Tb Ky), vs = [.ref a, v] ∧ TbS C D N H a num me F t ∧ KyAt C D H v k ∧ HasIx t k ∧ ∀ H' i, Same H H' → IxR t k i → Q (.int (i : Nat)) H'
theorem ok_indexof {f : Addr} {fd : FuncData} (F : FunD K "index_of" "Table.index_of" (defArgs s_Table_indexof) (defBody s_Table_indexof) (defScope s_Table_indexof) [] [] f fd) (B : Blt mg) (TT : TbC K mg D) (c_plainkey : CPlain P w K mg base C D) (c_isinside : CInside P w K mg base C D N) (c_isnan : CNan P w K mg base C D) (c_find : CFind P w K mg base C D N) : FnOk P w K mg base CX0 6 f fd ["self", "key"] (sp_indexof C D N) := by
  refine F.ok sc_Table_indexof (fun vs H Q E h => ?_) (fun cdv A outer s H vs Q E hr h => ?_)
  · obtain ⟨_, _, _, _, _, _, _, rfl, _⟩ := h; rfl
  · obtain ⟨a, v, num, me, k, G, t, rfl, ht, hk, hx, q⟩ := h
    refine ⟨_, PSs.nox (pss_cons (ps_set (i := 1) sc_Table_indexof.nd rfl (Or.inl rfl) (pe_fn c_plainkey (hr.mono (by first | decide | omega)) pass0 (pa_cons (pv 1) pa_nil)))
  (pss_cons (ps_if (pt_cmpR op_isN (pv 1) pe_non (nomark _)) (pss_one (ps_ret pe_int)) pss_nil)
  (pss_cons (ps_if (pt_val (pe_mt c_isinside (hr.mono (by first | decide | omega)) pass0 (pv 0) (pa_cons (pv 1) pa_nil))) (pss_one (ps_ret (pv 1))) pss_nil)
  (pss_cons (ps_set (i := 2) sc_Table_indexof.nd rfl (Or.inl rfl) (pe_ifExp (pt_val (pe_fn c_isnan (hr.mono (by first | decide | omega)) pass0 (pa_cons (pv 1) pa_nil))) pe_non (pe_mt c_find (hr.mono (by first | decide | omega)) pass0 (pv 0) (pa_cons (pv 1) (pa_cons pe_bl pa_nil)))))
  (pss_cons (ps_if (pt_cmpR op_isN (pv 2) pe_non (nomark _)) (pss_one ps_never) pss_nil)
  (pss_one (ps_ret (pe_op op_oAdd (pe_op op_oAdd (pe_callB call_len_seq (by rfl) B.len (by decide +kernel) (pa_cons (pe_fld (pv 0) rfl) pa_nil)) (pv 2)) pe_int)))))))), ?_⟩
    walk_at "t"
    refine ⟨v, k.x, rfl, hk.1, fun H1 s1 => ?_⟩
    have ht := ht.same s1
    have hk := (hk.same s1).pl
    obtain ⟨⟨dx, ho⟩, ha, hl, hlen, _⟩ := id ht.at_
    walk_at "t"
    by_cases hn : k.x = .non
    · have e : plA k.x = .non := by rw [hn]; rfl
      have h2 : AnyAt C D H1 (plV v k.x) (plA k.x) := hk.1
      rw [e] at h2
      refine g_yes h2 ?_
      walk_at "t"
      exact q _ 0 s1 (.inl ⟨hn, rfl⟩)
    · refine g_no (hk.1.nn (plA_non hn)) ?_
      walk_at "t"
      refine ⟨a, dx, _, rfl, ho, rfl, ?_⟩
      walk_at "t"
      refine ⟨a, _, num, me, plK k, G, t, rfl, ht.at_, hk.1, ht.sa, ?_⟩
      walk_at "t"
      refine g_iteb (fun h1 => ?_) fun h1 => ?_
      · obtain ⟨i, ei, i1, i2⟩ := (inB_iff KK).mpr h1
        have ev : plV v k.x = .int i := hk.1.int_of ei
        rw [ev]
        walk_at "t"
        have e : i = ((i.toNat : Nat) : Int) := by omega
        have q := q H1 i.toNat s1 (.inr (.inl ⟨i, ei, i1, i2, by omega⟩))
        rw [← e] at q
        exact q
      · have ni : ¬ inside KK t (plK k) := fun z => by rw [(inB_iff KK).mp z] at h1; cases h1
        obtain ⟨hna, r0, f0⟩ := (hx.resolve_left hn).resolve_left ni
        walk_at "t"
        refine ⟨_, plA k.x, rfl, hk.1, ?_⟩
        have e : isNanA (plA k.x) = false := plA_nan.trans hna
        rw [e]
        walk_at "t"
        refine ⟨a, dx, _, rfl, ho, rfl, ?_⟩
        walk_at "t"
        refine ⟨a, _, num, me, true, plK k, G, t, rfl, ht, hk, plA_non hn, fun H2 r s2 fd hr2 => ?_⟩
        have := fd.det KK f0
        subst this
        have ha2 := s2 _ _ ha
        have ho2 := s2 _ _ ho
        walk_at "t"
        refine g_ite (fun z => nomatch z) fun _ => ?_
        walk_at "t"
        refine g_lenL ha2 ?_
        walk_at "t"
        have e : ((t.arr.length : Nat) : Int) + (r0 : Int) + 1 = ((t.arr.length + r0 + 1 : Nat) : Int) := by omega
        show Q (.int (((t.arr.length : Nat) : Int) + (r0 : Int) + 1)) H2
        rw [e]
        exact q _ _ (s1.trans s2) (.inr (.inr ⟨hn, ni, hna, r0, f0, hr2 r0 rfl, rfl⟩))
/-! next_after -/
def ent (t : Tb Ky) (j : Nat) : Option (V × V) := if j < t.arr.length then (if t.arr.getD j .non = .non then none else some (.int ((j + 1 : Nat) : Int), t.arr.getD j .non)) else match nd t.nds (j - t.arr.length) with
  | some x => if x.val = .non then none else some (x.kv, x.val)
  | none => none
def nxt (t : Tb Ky) : Nat → Nat → Option (V × V)
  | 0, _ => none
  | c + 1, i => match ent t i with
    | some p => some p
    | none => nxt t c (i + 1)
def nxtT (t : Tb Ky) (i : Nat) : Option (V × V) := nxt t (t.arr.length + t.nds.length - i) i
def NxR (o : Option (V × V)) (H : Hp) (Q : VK) : Prop := match o with
  | none => Q .non H
  | some (x, y) => RetT H [x, y] Q
abbrev s_Table_nextafter : Stmt := inClass (top 37) 16
theorem sc_Table_nextafter : FnScope ["self", "key", "at", "node"] ["self", "key"] (defScope s_Table_nextafter) := ⟨rfl, rfl, rfl, by decide +kernel, rfl, by decide +kernel, by decide +kernel⟩
def sp_nextafter (C D N : Addr) : Sp := fun vs H Q _ => ∃ (a : Addr) (v num me : V) (k : Ky) (F : Fp) (t : Tb Ky), vs = [.ref a, v] ∧ TbS C D N H a num me F t ∧ KyAt C D H v k ∧ HasIx t k ∧ ∀ H' i, Same H H' → IxR t k i → NxR (nxtT t i) H' Q
theorem ok_nextafter {f : Addr} {fd : FuncData} (F : FunD K "next_after" "Table.next_after" (defArgs s_Table_nextafter) (defBody s_Table_nextafter) (defScope s_Table_nextafter) [] [] f fd) (B : Blt mg) (TT : TbC K mg D) (TN : NdC K mg N) (c_indexof : Mt P w K mg base CX0 6 D "index_of" ["self", "key"] (sp_indexof C D N)) : FnOk P w K mg base CX0 7 f fd ["self", "key"] (sp_nextafter C D N) := by
  refine F.ok sc_Table_nextafter (fun vs H Q E h => ?_) (fun cdv A outer s H vs Q E hr h => ?_)
  · obtain ⟨_, _, _, _, _, _, _, rfl, _⟩ := h; rfl
  · obtain ⟨a, v, num, me, k, G, t, rfl, ht, hk, hx, q⟩ := h
    have hsa := ht.sa
    have hsn := ht.sn
    refine ⟨_, PSs.nox (pss_cons (ps_for PassesOwn.never rfl (pi_range2 (by rfl) B.range (pa_cons (pe_mt c_indexof (hr.mono (by first | decide | omega)) pass0 (pv 0) (pa_cons (pv 1) pa_nil)) (pa_cons (pe_op op_oAdd (pe_callB call_len_seq (by rfl) B.len (by decide +kernel) (pa_cons (pe_fld (pv 0) rfl) pa_nil)) (pe_callB call_len_seq (by rfl) B.len (by decide +kernel) (pa_cons (pe_fld (pv 0) rfl) pa_nil))) pa_nil))) (pg_name (i := 2) sc_Table_nextafter.nd rfl (Or.inl rfl))
    (pss_one (ps_if (pt_cmpR op_oLt (pv 2) (pe_callB call_len_seq (by rfl) B.len (by decide +kernel) (pa_cons (pe_fld (pv 0) rfl) pa_nil)) (nomark _)) (pss_one (ps_if (pt_cmpR op_notN (pe_ix ix_seq (pe_fld (pv 0) rfl) (pv 2) (fun _ _ => rfl)) pe_non (nomark _)) (pss_one (ps_ret (pe_tupN (pa_cons (pe_op op_oAdd (pv 2) pe_int) (pa_cons (pe_ix ix_seq (pe_fld (pv 0) rfl) (pv 2) (fun _ _ => rfl)) pa_nil))))) pss_nil)) (pss_cons (ps_set (i := 3) sc_Table_nextafter.nd rfl (Or.inl rfl) (pe_ix ix_seq (pe_fld (pv 0) rfl) (pe_op op_oSub (pv 2) (pe_callB call_len_seq (by rfl) B.len (by decide +kernel) (pa_cons (pe_fld (pv 0) rfl) pa_nil))) (fun _ _ => rfl)))
  (pss_one (ps_if (PW.pt (pw_and (pt_cmpR op_notN (pv 3) pe_non (nomark _)) (pw_and1 (pt_cmpR op_notN (pe_fld (pv 3) rfl) pe_non (nomark _))))) (pss_one (ps_ret (pe_tupN (pa_cons (pe_fld (pv 3) rfl) (pa_cons (pe_fld (pv 3) rfl) pa_nil))))) pss_nil))))))
  (pss_one (ps_ret pe_non))), ?_⟩
    obtain ⟨⟨dx, ho⟩, _⟩ := id ht.at_
    walk_at "t"
    refine ⟨a, dx, _, rfl, ho, rfl, ?_⟩
    walk_at "t"
    refine ⟨a, v, num, me, k, G, t, rfl, ht, hk, hx, fun H1 i s1 ix => ?_⟩
    have q := q H1 i s1 ix
    have hle := ix.le
    have ht := ht.same s1
    clear ho
    obtain ⟨⟨dx, ho⟩, ha, hl, hlen, _⟩ := id ht.at_
    walk_at "t"
    refine g_lenL ha ?_
    walk_at "t"
    refine g_lenL hl ?_
    walk_at "t"
    rw [hlen]
    refine ⟨⟨by omega, by omega, by omega, by omega⟩, ?_⟩
    have en : (((t.arr.length : Nat) : Int) + ((t.nds.length : Nat) : Int) - (i : Int)).toNat = t.arr.length + t.nds.length - i := by omega
    rw [en]
    refine for_range (lo := (i : Int)) (n := t.arr.length + t.nds.length - i) (fun j σ' H' => H' = H1 ∧ j ≤ t.arr.length + t.nds.length - i ∧ nxt t (t.arr.length + t.nds.length - i - j) (i + j) = nxtT t i ∧ ∃ e2 e3, σ' = [some (.ref a), some v, e2, e3]) ⟨rfl, Nat.zero_le _, rfl, _, _, rfl⟩ ?_ ?_
    · rintro j _ _ hj ⟨rfl, _, e, e2, e3, rfl⟩
      have ec : t.arr.length + t.nds.length - i - j = (t.arr.length + t.nds.length - i - (j + 1)) + 1 := by omega
      have ei : (i : Int) + (j : Int) = ((i + j : Nat) : Int) := by omega
      rw [ec] at e
      have e : (match ent t (i + j) with | some p => some p | none => nxt t (t.arr.length + t.nds.length - i - (j + 1)) (i + j + 1)) = nxtT t i := e
      rw [ei]
      walk_at "t"
      refine g_lenL ha ?_
      walk_at "t"
      refine g_ite (fun h1 => ?_) fun h1 => ?_
      · have hlt : i + j < t.arr.length := by omega
        have eg : t.arr[i + j]? = some (t.arr.getD (i + j) .non) := by rw [List.getD_eq_getElem?_getD, List.getElem?_eq_getElem hlt]; rfl
        walk_at "t"
        refine g_ixL ha (atI_of (by omega) (by rw [Int.toNat_natCast]; exact eg)) ?_
        walk_at "t"
        refine g_iten (fun h2 => ?_) fun h2 => ?_
        · have ee : ent t (i + j) = some (.int ((i + j + 1 : Nat) : Int), t.arr.getD (i + j) .non) := by unfold ent; rw [if_pos hlt, if_neg h2]
          rw [ee] at e
          rw [← e] at q
          walk_at "t"
          refine g_ixL ha (atI_of (by omega) (by rw [Int.toNat_natCast]; exact eg)) ?_
          walk_at "t"
          exact g_new (sz rfl) fun p H2 n2 s2 h2 _ => q _ _ n2 s2 h2
        · have ee : ent t (i + j) = none := by unfold ent; rw [if_pos hlt, if_pos h2]
          rw [ee] at e
          walk_at "t"
          exact ⟨rfl, by omega, e, some (.int ((i + j : Nat) : Int)), e3, rfl⟩
      · have hge : ¬ i + j < t.arr.length := by omega
        walk_at "t"
        refine g_lenL ha ?_
        walk_at "t"
        have hin : i + j - t.arr.length < t.nds.length := by omega
        have em : ((i + j : Nat) : Int) - ((t.arr.length : Nat) : Int) = ((i + j - t.arr.length : Nat) : Int) := by omega
        rw [em]
        obtain ⟨y, ey, hy⟩ := ht.at_.get hin
        refine g_ixL hl (atI_of (by omega) (by rw [Int.toNat_natCast]; exact ey)) ?_
        walk_at "t"
        cases en : nd t.nds (i + j - t.arr.length) with
        | none =>
          rw [en] at hy
          have hy : y = .non := hy
          subst hy
          have ee : ent t (i + j) = none := by unfold ent; rw [if_neg hge, en]
          rw [ee] at e
          refine g_iten (fun z => absurd rfl z) fun _ => ?_
          walk_at "t"
          exact ⟨rfl, by omega, e, some (.int ((i + j : Nat) : Int)), some .non, rfl⟩
        | some x =>
          rw [en] at hy
          obtain ⟨b, dxb, rfl, hb⟩ := hy
          refine g_iten (fun _ => ?_) fun z => nomatch z
          walk_at "t"
          refine g_iten (fun h2 => ?_) fun h2 => ?_
          · have ee : ent t (i + j) = some (x.kv, x.val) := by
              unfold ent; rw [if_neg hge, en]
              show (if x.val = .non then none else some (x.kv, x.val)) = _
              rw [if_neg h2]
            rw [ee] at e
            rw [← e] at q
            walk_at "t"
            exact g_new (sz rfl) fun p H2 n2 s2 h2 _ => q _ _ n2 s2 h2
          · have ee : ent t (i + j) = none := by
              unfold ent; rw [if_neg hge, en]
              show (if x.val = .non then none else some (x.kv, x.val)) = _
              rw [if_pos h2]
            rw [ee] at e
            walk_at "t"
            exact ⟨rfl, by omega, e, some (.int ((i + j : Nat) : Int)), some (.ref b), rfl⟩
    · rintro _ _ ⟨rfl, _, e, e2, e3, rfl⟩
      rw [Nat.sub_self] at e
      have e : none = nxtT t i := e
      rw [← e] at q
      walk_at "t"
      exact q
/-! a new table -/
def newT (ar n : Nat) : Tb Ky := ⟨List.replicate ar .non, List.replicate (powF n) none, powF n⟩
theorem newT_at {dx la ln : Addr} {ar n : Nat} (ho : H a = some (.ins D dx (tbF num me la ln (powF n)))) (h1 : H la = some (.lst (List.replicate ar .non))) (h2 : H ln = some (.lst (List.replicate (powF n) .non))) (ne : la ≠ ln) (z1 : ar ≤ 20000) (z2 : powF n ≤ 20000) :
    TbS C D N H a num me ⟨la, ln, List.replicate (powF n) .non⟩ (newT ar n) := by
  have at7 : TbAt D N H a num me ⟨la, ln, List.replicate (powF n) .non⟩ (newT ar n) := by
    refine ⟨⟨dx, ho⟩, h1, h2, by show (List.replicate _ _).length = (List.replicate _ _).length; simp, fun i v e => ?_, fun i j b e => ?_, ne⟩
    · show NvAt N H v (nd (List.replicate (powF n) none) i)
      rw [nd_new]
      exact List.eq_of_mem_replicate (List.mem_of_getElem? e)
    · have := List.eq_of_mem_replicate (List.mem_of_getElem? e)
      cases this
  refine ⟨at7, TW.new KK _ _, fun i x e => ?_, by show (List.replicate _ _).length ≤ _; simp; exact z1, by show (List.replicate _ _).length ≤ _; simp; exact z2⟩
  have e : nd (List.replicate (powF n) none) i = some x := e
  rw [nd_new] at e; cases e
theorem newT_lv (ar n : Nat) : lv (newT ar n) = 0 := by
  rw [lv_eq]
  have e1 : (List.replicate ar V.non).countP lvA = 0 := by
    rw [List.countP_eq_zero]
    intro v hv
    rw [List.eq_of_mem_replicate hv]
    simp [lvA]
  have e2 : (List.replicate (powF n) (none : Option (Nd Ky))).countP lvN = 0 := by
    rw [List.countP_eq_zero]
    intro v hv
    rw [List.eq_of_mem_replicate hv]
    simp [lvN]
  show (List.replicate ar V.non).countP lvA + (List.replicate (powF n) (none : Option (Nd Ky))).countP lvN = 0
  omega
/-- the promise of Table(..): a new table, whose own objects are all new -/
def NewTb (C D N : Addr) (num me : V) (ar n : Nat) (H : Hp) (Q : VK) : Prop := ∀ H' a F, H a = none → Same H H' → TbS C D N H' a num me F (newT ar n) → (∀ b, F.In a b → H b = none) → Q (.ref a) H'
theorem mkT_of {Q : VK} {E : XK} {x dx : Addr} {H1 : Hp} {num me : V} {ar n : Nat} (n1 : H x = none) (n2 : H dx = none) (s1 : Same H H1) (h1 : H1 x = some (.ins D dx [])) (k1 : ∀ b, b ≠ x → b ≠ dx → H1 b = H b) (z1 : ar ≤ 20000) (z3 : n ≤ 10000) (q : NewTb C D N num me ar n H Q) :
    sp_Tinit D [.ref x, num, .int ar, .int n, me] H1 (fun v H2 => v = .non ∧ Q (.ref x) H2) E := by
  have hp := powF_le n
  refine ⟨x, dx, num, me, ar, n, rfl, h1, by omega, by omega, by omega, fun H2 la ln k2 nla nln ne h2 hla hln => ⟨rfl, ?_⟩⟩
  have fr : ∀ b, H1 b = none → H b = none := fun b e => by
    cases z : H b with
    | none => rfl
    | some o => rw [s1 _ _ z] at e; cases e
  refine q H2 x ⟨la, ln, List.replicate (powF n) .non⟩ n1 (fun b o e => k2 b o (fun z => by rw [z, n1] at e; cases e) (s1 _ _ e)) (newT_at h2 hla hln ne z1 (by omega)) ?_
  rintro b (z | z | z | z)
  · rw [z]; exact n1
  · rw [z]; exact fr _ nla
  · rw [z]; exact fr _ nln
  · cases List.eq_of_mem_replicate z
abbrev psT : List Str := ["self", "number", "array", "nodes", "meta"]
abbrev CT1 (P : Program) (w : World) (K : PySem.W.Frag) (mg : Str → Option Value) (base : Heap) (D : Addr) : Prop := Cn P w K mg base CX0 2 "Table" D psT [.int 0, .int 0, .non] (sp_Tinit D)
abbrev CT3 (P : Program) (w : World) (K : PySem.W.Frag) (mg : Str → Option Value) (base : Heap) (D : Addr) : Prop := Cn P w K mg base CX0 2 "Table" D psT [.non] (sp_Tinit D)
theorem mkT1 {Q : VK} {E : XK} {num : V} (q : NewTb C D N num .non 0 0 H Q) : MakeR D (sp_Tinit D) ([num] ++ [.int 0, .int 0, .non]) H Q E := fun x dx H1 n1 n2 ne s1 h1 k1 => mkT_of (ar := 0) (n := 0) n1 n2 s1 h1 k1 (by decide) (by decide) q
theorem mkT3 {Q : VK} {E : XK} {num : V} {ar n : Nat} (z1 : ar ≤ 20000) (z2 : n ≤ 10000) (q : NewTb C D N num .non ar n H Q) : MakeR D (sp_Tinit D) ([num, .int ar, .int n] ++ [.non]) H Q E := fun x dx H1 n1 n2 ne s1 h1 k1 => mkT_of n1 n2 s1 h1 k1 z1 z2 q
end
end Up

set_option Elab.async false
set_option linter.all false
set_option pp.maxSteps 600
set_option maxRecDepth 100000
set_option maxHeartbeats 4000000
set_option exponentiation.threshold 200000
namespace Up
open PySem PySem.Spec PyProof.Rows L2
local macro_rules | `(tactic| walk_at "u") => `(tactic| first
  | with_reducible refine g_seq ?_
  | with_reducible refine g_asg ?_
  | with_reducible refine g_op ?_
  | ((with_reducible show tVar _ _ _ _); apply g_var; exact rfl)
  | with_reducible refine g_c ?_
  | with_reducible refine g_name ?_
  | with_reducible refine g_ifs ?_
  | with_reducible refine g_tt ?_
  | with_reducible refine g_tB ?_
  | with_reducible refine g_bl ?_
  | with_reducible refine g_ret ?_
  | with_reducible refine g_cb ?_
  | with_reducible refine g_cons ?_
  | with_reducible refine g_nil ?_
  | with_reducible refine g_call ?_
  | with_reducible refine g_and ?_
  | with_reducible refine g_or ?_
  | with_reducible refine g_not ?_
  | with_reducible refine g_andV ?_
  | with_reducible refine g_orV ?_
  | with_reducible refine g_notV ?_
  | with_reducible refine g_if ?_
  | with_reducible refine g_un ?_
  | with_reducible refine g_neg ?_
  | with_reducible refine g_addI ?_
  | with_reducible refine g_subI ?_
  | with_reducible refine g_subB ?_
  | with_reducible refine g_I0 ?_
  | with_reducible refine g_cmpI ?_
  | with_reducible refine g_eqI ?_
  | with_reducible refine g_neI ?_
  | with_reducible refine g_eqS ?_
  | with_reducible refine g_neS ?_
  | with_reducible refine g_eqB ?_
  | with_reducible refine g_neB ?_
  | with_reducible refine g_bits ?_
  | with_reducible refine g_bitsI ?_
  | with_reducible refine g_fld ?_
  | with_reducible refine g_tup ?_
  | with_reducible refine g_lst ?_
  | with_reducible refine g_gtup ?_
  | with_reducible refine g_make ?_
  | with_reducible refine g_lc ?_
  | with_reducible refine g_yesT ?_
  | with_reducible refine g_intI ?_
  | with_reducible refine g_intB ?_
  | with_reducible refine g_max2 ?_
  | with_reducible refine g_abs1 ?_
  | with_reducible refine g_for ?_
  | with_reducible refine g_iList ?_
  | with_reducible refine g_iTup ?_
  | with_reducible refine g_iRng1 ?_
  | with_reducible refine g_iEnum ?_
  | with_reducible refine g_slice ?_
  | with_reducible refine g_po0 ?_
  | with_reducible refine g_po1 ?_
  | with_reducible refine g_gsub ?_
  | with_reducible refine g_par ?_
  | with_reducible refine g_par2 ?_
  | with_reducible refine g_rfl ?_
  | with_reducible refine g_meth ?_
  | with_reducible refine g_gcons ?_
  | with_reducible refine g_gnil ?_
  | with_reducible refine g_gfld ?_
  | with_reducible refine g_sfld ?_
  | with_reducible refine g_drop ?_
  | with_reducible refine g_next ?_
  | with_reducible refine iteT ?_
  | with_reducible refine iteF ?_)
local macro_rules | `(tactic| walk_at "go") => `(tactic| (repeat walk_at "u"))
local macro_rules | `(tactic| walk_at "t") => `(tactic| (repeat (first
  | walk_at "u"
  | with_reducible refine g_chain ?_
  | with_reducible refine g_par3 ?_
  | with_reducible refine g_par3' ?_
  | with_reducible refine g_augS ?_
  | with_reducible refine g_nt ?_
  | with_reducible refine g_nf ?_
  | with_reducible refine g_methK ?_
  | with_reducible refine g_makeK ?_
  | with_reducible refine g_iRng2 ?_
  | with_reducible refine g_bm ?_
  | with_reducible refine g_fldaug ?_
  | with_reducible refine g_iStr ?_
  | with_reducible refine g_ipI ?_
  | ((with_reducible show tAug _ _ _ _ _ _); refine ⟨_, rfl, ?_⟩)
  | ((with_reducible refine show_exT ?_); first
    | refine rdT3 (by assumption) (by assumption) ?_
    | refine rdT4 (by assumption) (by assumption) ?_
    | refine rdT5 (by assumption) (by assumption) ?_
    | refine rdT1 (by assumption) (by assumption) ?_
    | refine rdT2 (by assumption) (by assumption) ?_
    | refine rdN1 (by assumption) (by assumption) ?_
    | refine rdN2 (by assumption) (by assumption) ?_
    | refine rdN3 (by assumption) (by assumption) ?_
    | refine rdN4 (by assumption) (by assumption) ?_))))

section
variable {P : Program} {w : World} {K : PySem.W.Frag} {mg : Str → Option Value} {base : Heap} {C D N : Addr}
/-! wells of the laws about tables -/
def Wl (H : Hp) (a : Addr) : Prop := ∃ x y z : Int, H a = some (.lst [.int x, .int y, .int z]) ∧ 0 ≤ x ∧ 0 ≤ z
theorem Wl.same {H H' : Hp} {a : Addr} (h : Wl H a) (s : Same H H') : Wl H' a := by
  obtain ⟨x, y, z, h, a, b⟩ := h
  exact ⟨x, y, z, s _ _ h, a, b⟩
theorem Wl.keep {H H' : Hp} {a : Addr} (h : Wl H a) (s : ∀ o, H a = some o → H' a = some o) : Wl H' a := by
  obtain ⟨x, y, z, h, a, b⟩ := h
  exact ⟨x, y, z, s _ h, a, b⟩
abbrev s_Lmix : Stmt := top 39
theorem sc_Lmix : FnScope ["_law_cell", "_law_lap", "_law_blend"] ["_law_cell", "_law_lap"] (defScope s_Lmix) := ⟨rfl, rfl, rfl, by decide +kernel, rfl, by decide +kernel, by decide +kernel⟩
theorem fmodb {x m : Int} (h : 0 < m) : 0 ≤ x.fmod m ∧ x.fmod m < m := fmod_in h
def sp_Lmix : Sp := fun vs H Q _ => ∃ c l : Int, vs = [.int c, .int l] ∧ 0 ≤ l ∧ ∀ k, 0 ≤ k → k < 2147483563 → Q (.int k) H
theorem ok_Lmix {f : Addr} {fd : FuncData} (F : FunD K "_law_mix" "_law_mix" (defArgs s_Lmix) (defBody s_Lmix) (defScope s_Lmix) [] [] f fd) (B : Blt mg) : FnOk P w K mg base CX0 1 f fd ["_law_cell", "_law_lap"] sp_Lmix := by
  refine F.ok sc_Lmix (fun vs H Q E h => ?_) (fun cdv A outer s H vs Q E hr h => ?_)
  · obtain ⟨_, _, rfl, _⟩ := h; rfl
  · obtain ⟨c, l, rfl, hl, q⟩ := h
    refine ⟨_, PSs.nox (pss_cons (ps_set (i := 2) sc_Lmix.nd rfl (Or.inl rfl) (pe_op op_oAdd (pe_op op_oAdd (pe_op op_oAdd (pe_op op_oMod (pe_callTy call_int1 (by rfl) B.int (by decide +kernel) (pa_cons (pv 0) pa_nil)) pe_int) (pe_op op_oMul pe_int (pv 1))) (pe_op op_oMod (pe_callTy call_int1 (by rfl) B.int (by decide +kernel) (pa_cons (pe_op op_oDiv (pv 0) pe_int) pa_nil)) pe_int)) pe_int))
  (pss_cons (ps_set (i := 2) sc_Lmix.nd rfl (Or.inl rfl) (pe_op op_oMod (pe_callTy call_int1 (by rfl) B.int (by decide +kernel) (pa_cons (pe_op op_oMul (pv 2) pe_int) pa_nil)) pe_int))
  (pss_cons (ps_set (i := 2) sc_Lmix.nd rfl (Or.inl rfl) (pe_op op_oMod (pe_callTy call_int1 (by rfl) B.int (by decide +kernel) (pa_cons (pe_op op_oMul (pv 2) (pe_op op_oAdd (pe_op op_oAdd (pe_op op_oDiv (pv 2) pe_int) pe_int) (pv 1))) pa_nil)) pe_int))
  (pss_one (ps_ret (pe_op op_oMod (pe_callTy call_int1 (by rfl) B.int (by decide +kernel) (pa_cons (pe_op op_oMul (pv 2) (pe_op op_oAdd (pe_op op_oDiv (pv 2) pe_int) pe_int)) pa_nil)) pe_int)))))), ?_⟩
    walk_at "t"
    refine g_modI (by decide) ?_
    walk_at "t"
    refine g_mulI (.of_left (by decide)) ?_
    walk_at "t"
    refine g_divI (by decide) (by decide) ?_
    walk_at "t"
    refine g_modI (by decide) ?_
    walk_at "t"
    refine g_mulI (.of_right (by decide)) ?_
    walk_at "t"
    refine g_modI (by decide) ?_
    walk_at "t"
    have b1 := fmodb (x := (c.fmod 2147483629 + 41117 * l + (c.fdiv 2147483629).fmod 1000003 + 1) * 48271) (m := 2147483629) (by decide)
    generalize ((c.fmod 2147483629 + 41117 * l + (c.fdiv 2147483629).fmod 1000003 + 1) * 48271).fmod 2147483629 = u1 at *
    refine g_divI (by decide) (by decide) ?_
    walk_at "t"
    refine g_mulI (.of_left (intBits_le_64 (by omega) (by omega))) ?_
    walk_at "t"
    refine g_modI (by decide) ?_
    walk_at "t"
    have b2 := fmodb (x := u1 * (u1.fdiv 1021 + 65539 + l)) (m := 2147483587) (by decide)
    generalize (u1 * (u1.fdiv 1021 + 65539 + l)).fmod 2147483587 = u2 at *
    refine g_divI (by decide) (by decide) ?_
    walk_at "t"
    refine g_mulI (.of_left (intBits_le_64 (by omega) (by omega))) ?_
    walk_at "t"
    refine g_modI (by decide) ?_
    exact q _ (fmodb (by decide)).1 (fmodb (by decide)).2
abbrev s_Lsource : Stmt := top 40
theorem sc_Lsource : FnScope ["_law_script", "_law_k", "_law_cell"] ["_law_script", "_law_k"] (defScope s_Lsource) := ⟨rfl, rfl, rfl, by decide +kernel, rfl, by decide +kernel, by decide +kernel⟩
def sp_Lsource (K : PySem.W.Frag) : Sp := fun vs H Q _ => ∃ (a : Addr) (ns : List Int) (k : Nat), vs = [.ref a, .int k] ∧ SqL K H a (ns.map V.int) ∧ ns.length ≤ 63 ∧ ∀ b H', H b = none → Same H H' → Wl H' b → Q (.ref b) H'
theorem src_well {n : Int} {H : Hp} {b : Addr} (hb : H b = some (.lst [.int (n * (if decide (10 ^ (18 : Int).toNat ≤ n) = true then 1 else 0)), .int n, .int 0])) : Wl H b := by
  refine ⟨_, _, _, hb, ?_, Int.le_refl _⟩
  by_cases h : ((10 : Int) ^ (18 : Int).toNat ≤ n)
  · rw [if_pos (decide_eq_true h)]
    have : (0 : Int) ≤ 10 ^ (18 : Int).toNat := by decide
    omega
  · rw [if_neg (by simpa using h), Int.mul_zero]
    exact Int.le_refl _
theorem ok_Lsource {f : Addr} {fd : FuncData} (F : FunD K "_law_source" "_law_source" (defArgs s_Lsource) (defBody s_Lsource) (defScope s_Lsource) [] [] f fd) (B : Blt mg) : FnOk P w K mg base CX0 1 f fd ["_law_script", "_law_k"] (sp_Lsource K) := by
  refine F.ok sc_Lsource (fun vs H Q E h => ?_) (fun cdv A outer s H vs Q E hr h => ?_)
  · obtain ⟨_, _, _, rfl, _⟩ := h; rfl
  · obtain ⟨a, ns, k, rfl, hs, hz, q⟩ := h
    refine ⟨_, PSs.nox (pss_cons (ps_set (i := 2) sc_Lsource.nd rfl (Or.inl rfl) (pe_op op_oAdd (pe_ix ix_seq (pe_op op_oAdd (pv 0) (pe_lstN (pa_cons pe_int pa_nil))) pe_int (fun _ _ => rfl)) (pe_op op_oMul pe_int (pv 1))))
  (pss_cons (ps_if (pt_cmpR op_oLt (pv 1) (pe_callB call_len_seq (by rfl) B.len (by decide +kernel) (pa_cons (pv 0) pa_nil)) (nomark _)) (pss_one (ps_set (i := 2) sc_Lsource.nd rfl (Or.inl rfl) (pe_ix ix_seq (pv 0) (pv 1) (fun _ _ => rfl)))) pss_nil)
  (pss_one (ps_ret (pe_lstN (pa_cons (pe_op op_oMul (pv 2) (pe_callTy call_int1 (by rfl) B.int (by decide +kernel) (pa_cons (pe_cmpR op_oGe (pv 2) (pe_op op_oPow pe_int pe_int) (nomark _)) pa_nil))) (pa_cons (pv 2) (pa_cons pe_int pa_nil)))))))), ?_⟩
    walk_at "t"
    refine g_new (sz rfl) fun p1 H1 n1 s1 h1 _ => ?_
    have hs1 := s1.seq hs
    refine .inl ⟨a, p1, _, _, rfl, rfl, hs1, SqL.of h1, Nat.le_trans (show _ ≤ 100000 by rw [List.length_map]; show ns.length + 1 ≤ 100000; omega) (by decide), fun p2 H2 n2 s2 h2 _ => ?_⟩
    have hs2 := s2.seq hs1
    walk_at "t"
    obtain ⟨c0, e0⟩ : ∃ c0 : Int, (ns.map V.int ++ [V.int 0])[0]? = some (.int c0) := by
      cases ns with
      | nil => exact ⟨0, rfl⟩
      | cons n _ => exact ⟨n, rfl⟩
    refine g_ixL h2 (atI_of (Int.le_refl _) e0) ?_
    walk_at "t"
    refine g_mulI (.of_left (by decide)) ?_
    walk_at "t"
    refine ⟨a, _, rfl, .inl hs2, ?_⟩
    rw [List.length_map]
    have fin : ∀ (n : Int) (H3 : Hp), Same H2 H3 → ∀ p H4, H3 p = none → Same H3 H4 → H4 p = some (.lst [.int (n * (if decide (10 ^ (18 : Int).toNat ≤ n) = true then 1 else 0)), .int n, .int 0]) → Q (.ref p) H4 := fun n H3 s3 p H4 n4 s4 h4 => by
      have sx := (s1.trans s2).trans s3
      exact q p H4 (sx.free n4) (sx.trans s4) (src_well h4)
    walk_at "t"
    refine g_ite (fun hk => ?_) fun hk => ?_
    · have hlt : k < ns.length := by omega
      walk_at "t"
      refine .inl ⟨a, _, k, .int ns[k], rfl, rfl, hs2, atI_of (by omega) (by rw [Int.toNat_natCast, List.getElem?_map, List.getElem?_eq_getElem hlt]; rfl), ?_⟩
      walk_at "t"
      refine g_II ⟨by decide, by decide, by decide⟩ ?_
      walk_at "t"
      refine g_mulI (.of_right (by by_cases h : ((10 : Int) ^ (18 : Int).toNat ≤ ns[k]) <;> simp only [h, decide_true, decide_false] <;> decide)) ?_
      walk_at "t"
      exact g_new (sz rfl) fun p H4 n4 s4 h4 _ => fin _ H2 (Same.refl _) p H4 n4 s4 h4
    · walk_at "t"
      refine g_II ⟨by decide, by decide, by decide⟩ ?_
      walk_at "t"
      refine g_mulI (.of_right (by by_cases h : ((10 : Int) ^ (18 : Int).toNat ≤ c0 + 7919 * (k : Int)) <;> simp only [h, decide_true, decide_false] <;> decide)) ?_
      walk_at "t"
      exact g_new (sz rfl) fun p H4 n4 s4 h4 _ => fin _ H2 (Same.refl _) p H4 n4 s4 h4
abbrev s_Ldraw : Stmt := top 41
theorem sc_Ldraw : FnScope ["_law_well", "_law_many", "_law_drawn"] ["_law_well", "_law_many"] (defScope s_Ldraw) := ⟨rfl, rfl, rfl, by decide +kernel, rfl, by decide +kernel, by decide +kernel⟩
def sp_Ldr : Sp := fun vs H Q _ => ∃ (a : Addr) (m : Int), vs = [.ref a, .int m] ∧ 0 < m ∧ m < 2 ^ 62 ∧ Wl H a ∧ ∀ (k : Nat) H', (k : Int) < m → Stp a H H' → Wl H' a → Q (.int k) H'
abbrev CDr (P : Program) (w : World) (K : PySem.W.Frag) (mg : Str → Option Value) (base : Heap) : Prop := Fn P w K mg base CX0 2 "_law_draw" ["_law_well", "_law_many"] [] sp_Ldr
theorem ok_Ldr {f : Addr} {fd : FuncData} (F : FunD K "_law_draw" "_law_draw" (defArgs s_Ldraw) (defBody s_Ldraw) (defScope s_Ldraw) [] [] f fd) (B : Blt mg) (c_Lmix : Fn P w K mg base CX0 1 "_law_mix" ["_law_cell", "_law_lap"] [] sp_Lmix) : FnOk P w K mg base CX0 2 f fd ["_law_well", "_law_many"] sp_Ldr := by
  refine F.ok sc_Ldraw (fun vs H Q E h => ?_) (fun cdv A outer s H vs Q E hr h => ?_)
  · obtain ⟨a, m, rfl, _⟩ := h; rfl
  · obtain ⟨a, m, rfl, m0, m1, ⟨x, y, z, hw, x0, z0⟩, q⟩ := h
    have q : ∀ (k : Int) H', 0 ≤ k → k < m → Stp a H H' → Wl H' a → Q (.int k) H' := fun k H' k0 k1 => by
      have := q k.toNat H' (by omega)
      rw [show ((k.toNat : Nat) : Int) = k by omega] at this
      exact this
    have sd : m.natAbs.log2 < 9000 := Nat.lt_trans (log2_lt (k := 62) (by omega) (by decide)) (by decide)
    refine ⟨_, PSs.nox (pss_cons (ps_if (pt_cmpR op_oGt (pe_ix ix_seq (pv 0) pe_int (fun _ _ => rfl)) pe_int (nomark _)) (pss_cons (ps_set (i := 2) sc_Ldraw.nd rfl (Or.inl rfl) (pe_op op_oMod (pe_callTy call_int1 (by rfl) B.int (by decide +kernel) (pa_cons (pe_ix ix_seq (pv 0) pe_int (fun _ _ => rfl)) pa_nil)) (pv 1)))
  (pss_cons (ps_asg (pe_op op_oDiv (pe_ix ix_seq (pv 0) pe_int (fun _ _ => rfl)) (pv 1)) (pg_sub (pv 0) pe_int set_list))
  (pss_one (ps_ret (pv 2))))) pss_nil)
  (pss_cons (ps_asg (pe_op op_oAdd (pe_ix ix_seq (pv 0) pe_int (fun _ _ => rfl)) pe_int) (pg_sub (pv 0) pe_int set_list))
  (pss_one (ps_ret (pe_op op_oMod (pe_callTy call_int1 (by rfl) B.int (by decide +kernel) (pa_cons (pe_fn c_Lmix (hr.mono (by first | decide | omega)) pass0 (pa_cons (pe_ix ix_seq (pv 0) pe_int (fun _ _ => rfl)) (pa_cons (pe_ix ix_seq (pv 0) pe_int (fun _ _ => rfl)) pa_nil))) pa_nil)) (pv 1)))))), ?_⟩
    walk_at "t"
    refine g_ixL hw rfl ?_
    walk_at "t"
    refine g_ite (fun hx => ?_) fun hx => ?_
    · walk_at "t"
      refine g_ixL hw rfl ?_
      walk_at "t"
      refine g_modI (by omega) ?_
      walk_at "t"
      refine g_ixL hw rfl ?_
      walk_at "t"
      refine g_divI (by omega) sd ?_
      walk_at "t"
      refine g_setL hw rfl fun H1 h1 k1 => ?_
      walk_at "t"
      refine q _ H1 (fmodb m0).1 (fmodb m0).2 (fun b o n e => (k1 b n).trans e) ⟨_, _, _, h1, ?_, z0⟩
      rw [Int.fdiv_eq_ediv_of_nonneg _ (by omega)]
      exact Int.ediv_nonneg x0 (by omega)
    · walk_at "t"
      refine g_ixL hw rfl ?_
      walk_at "t"
      refine g_setL hw rfl fun H1 h1 k1 => ?_
      walk_at "t"
      refine g_ixL h1 rfl ?_
      walk_at "t"
      refine g_ixL h1 rfl ?_
      walk_at "t"
      refine ⟨_, _, rfl, by omega, fun k k0 k2 => ?_⟩
      walk_at "t"
      refine g_modI (by omega) ?_
      exact q _ H1 (fmodb m0).1 (fmodb m0).2 (fun b o n e => (k1 b n).trans e) ⟨_, _, _, h1, x0, by omega⟩
abbrev s_Lpick : Stmt := top 42
theorem sc_Lpick : FnScope ["_law_well", "_law_some"] ["_law_well", "_law_some"] (defScope s_Lpick) := ⟨rfl, rfl, rfl, by decide +kernel, rfl, by decide +kernel, by decide +kernel⟩
def sp_Lpk : Sp := fun vs H Q _ => ∃ (a l : Addr) (xs : List V), vs = [.ref a, .ref l] ∧ Wl H a ∧ H l = some (.lst xs) ∧ l ≠ a ∧ 0 < xs.length ∧ xs.length < 1000 ∧ ∀ v H', v ∈ xs → Stp a H H' → Wl H' a → Q v H'
abbrev CPk (P : Program) (w : World) (K : PySem.W.Frag) (mg : Str → Option Value) (base : Heap) : Prop := Fn P w K mg base CX0 3 "_law_pick" ["_law_well", "_law_some"] [] sp_Lpk
theorem ok_Lpk {f : Addr} {fd : FuncData} (F : FunD K "_law_pick" "_law_pick" (defArgs s_Lpick) (defBody s_Lpick) (defScope s_Lpick) [] [] f fd) (B : Blt mg) (c_Ldraw : CDr P w K mg base) : FnOk P w K mg base CX0 3 f fd ["_law_well", "_law_some"] sp_Lpk := by
  refine F.ok sc_Lpick (fun vs H Q E h => ?_) (fun cdv A outer s H vs Q E hr h => ?_)
  · obtain ⟨a, l, xs, rfl, _⟩ := h; rfl
  · obtain ⟨a, l, xs, rfl, hw, hl, ne, x0, x1, q⟩ := h
    refine ⟨_, PSs.nox (pss_one (ps_ret (pe_ix ix_seq (pv 1) (pe_fn c_Ldraw (hr.mono (by first | decide | omega)) pass0 (pa_cons (pv 0) (pa_cons (pe_callB call_len_seq (by rfl) B.len (by decide +kernel) (pa_cons (pv 1) pa_nil)) pa_nil))) (fun _ _ => rfl)))), ?_⟩
    walk_at "t"
    refine g_lenL hl ?_
    walk_at "t"
    refine ⟨a, _, rfl, by omega, by omega, hw, fun k H1 k1 s1 hw1 => ?_⟩
    have hi : k < xs.length := by omega
    exact g_ixL (s1 _ _ ne hl) (v := xs[k]) (atI_of (by omega) (by rw [Int.toNat_natCast]; exact List.getElem?_eq_getElem hi)) (q _ _ (List.getElem_mem hi) s1 hw1)
end
end Up

set_option Elab.async false
set_option linter.all false
set_option pp.maxSteps 600
set_option maxRecDepth 100000
set_option maxHeartbeats 4000000
set_option exponentiation.threshold 200000
namespace Up
open PySem PySem.Spec PyProof.Rows L2
section
variable {P : Program} {w : World} {K : PySem.W.Frag} {mg : Str → Option Value} {base : Heap} {C D N : Addr} {H H' : Hp} {a : Addr} {num me : V} {F F' : Fp} {t t' : Tb Ky}
/-! ### a table beside a well -/
theorem Wl.ex {H : Hp} {a : Addr} (h : Wl H a) : ∃ o, H a = some o := by
  obtain ⟨x, y, z, h, _⟩ := h; exact ⟨_, h⟩
theorem Wl.nn {H : Hp} {a p : Addr} (h : Wl H a) (e : H p = none) : p ≠ a := fun z => by
  obtain ⟨o, h⟩ := h.ex
  rw [z, h] at e; cases e
theorem Wl.ni {H : Hp} {a p c dx : Addr} {fs : List (Str × V)} (h : Wl H a) (e : H p = some (.ins c dx fs)) : p ≠ a := fun z => by
  obtain ⟨x, y, z', h, _⟩ := h
  rw [z, h] at e; cases e
theorem KyAt.stp {wl : Addr} (hw : Wl H wl) (s : Stp wl H H') {v : V} {k : Ky} (hk : KyAt C D H v k) : KyAt C D H' v k := by
  obtain ⟨x, no⟩ := k
  obtain ⟨h1, h2⟩ := hk
  refine ⟨?_, fun b e => ?_⟩
  · cases x with
    | num n =>
      cases n with
      | i j => exact h1
      | f s' tt p =>
        obtain ⟨⟨b, rfl, ⟨dx1, hf⟩, ok⟩, o⟩ := h1
        exact ⟨⟨b, rfl, ⟨dx1, s _ _ (hw.ni hf) hf⟩, ok⟩, o⟩
    | obj b =>
      obtain ⟨e, dx1, fs, hb⟩ := h1
      exact ⟨e, dx1, fs, s _ _ (hw.ni hb) hb⟩
    | non => exact h1
    | bl _ => exact h1
    | str _ => exact h1
  · obtain ⟨dx1, fs, e1, e2⟩ := h2 b e
    exact ⟨dx1, fs, s _ _ (hw.ni e1) e1, e2⟩
theorem TbAt.stp {wl : Addr} (hn : ¬ F.In a wl) (s : Stp wl H H') (h : TbAt D N H a num me F t) : TbAt D N H' a num me F t := by
  have inn := fun c (hc : V.ref c ∈ F.vs) => h.inN hc
  obtain ⟨⟨dx, h1⟩, h2, h3, h4, h5, h6, h7⟩ := h
  refine ⟨⟨dx, s _ _ (fun z => hn (.inl z.symm)) h1⟩, s _ _ (fun z => hn (.inr (.inl z.symm))) h2, s _ _ (fun z => hn (.inr (.inr (.inl z.symm)))) h3, h4, fun i v e => ?_, h6, h7⟩
  have := h5 i v e
  cases en : nd t.nds i with
  | none => rw [en] at this; exact this
  | some x =>
    rw [en] at this
    obtain ⟨b, dxb, rfl, hb⟩ := this
    exact ⟨b, dxb, rfl, s _ _ (fun z => hn (.inr (.inr (.inr (by rw [← z]; exact List.mem_of_getElem? e))))) hb⟩
theorem TbS.stp {wl : Addr} (hw : Wl H wl) (hn : ¬ F.In a wl) (s : Stp wl H H') (h : TbS C D N H a num me F t) : TbS C D N H' a num me F t :=
  ⟨h.at_.stp hn s, h.wf, fun i x e => ⟨(h.keys i x e).1.stp hw s, (h.keys i x e).2⟩, h.sa, h.sn⟩
/-- all but a table's own objects and the well -/
def Fw (a : Addr) (F : Fp) (wl : Addr) (H H' : Hp) : Prop := ∀ b o, b ≠ wl → ¬ F.In a b → H b = some o → H' b = some o
/-- a table of at most n values, of which all began as F0 in H0 -/
structure Tst (C D N : Addr) (a wl : Addr) (num me : V) (F0 : Fp) (H0 H : Hp) (n : Nat) (F : Fp) (t : Tb Ky) : Prop where
  ts : TbS C D N H a num me F t
  w : Wl H wl
  w0 : Wl H0 wl
  out0 : ¬ F0.In a wl
  fw : Fw a F0 wl H0 H
  fs : Fsh a F0 F H0
  lv : lv t ≤ n
section
variable {wl : Addr} {F0 : Fp} {H0 H1 : Hp} {n : Nat}
theorem Tst.out (h : Tst C D N a wl num me F0 H0 H n F t) : ¬ F.In a wl := fun z => by
  rcases h.fs _ z with z | z
  · exact h.out0 z
  · obtain ⟨o, e⟩ := h.w0.ex
    rw [z] at e; cases e
theorem Tst.new (ts : TbS C D N H a num me F t) (w : Wl H wl) (o : ¬ F.In a wl) (l : Up.lv t ≤ n) : Tst C D N a wl num me F H H n F t := ⟨ts, w, w, o, fun _ _ _ _ e => e, Fsh.refl, l⟩
theorem Tst.same (h : Tst C D N a wl num me F0 H0 H n F t) (s : Same H H1) : Tst C D N a wl num me F0 H0 H1 n F t :=
  ⟨h.ts.same s, h.w.same s, h.w0, h.out0, fun b o h1 h2 e => s _ _ (h.fw b o h1 h2 e), h.fs, h.lv⟩
theorem Tst.stp (h : Tst C D N a wl num me F0 H0 H n F t) (s : Stp wl H H1) (w : Wl H1 wl) : Tst C D N a wl num me F0 H0 H1 n F t :=
  ⟨h.ts.stp h.w h.out s, w, h.w0, h.out0, fun b o h1 h2 e => s _ _ h1 (h.fw b o h1 h2 e), h.fs, h.lv⟩
theorem Tst.left (h : Tst C D N a wl num me F0 H0 H n F t) {t1 : Tb Ky} {F1 : Fp} {m : Nat} (ts : TbS C D N H1 a num me F1 t1) (fr : Frm a F H H1) (fs : Fsh a F F1 H) (l : Up.lv t1 ≤ m) : Tst C D N a wl num me F0 H0 H1 m F1 t1 := by
  have hw := h.w
  refine ⟨ts, h.w.keep fun o e => fr _ _ h.out e, h.w0, h.out0, fun b o h1 h2 e => ?_, fun b hb => ?_, l⟩
  · refine fr b o (fun z => ?_) (h.fw b o h1 h2 e)
    rcases h.fs b z with z | z
    · exact h2 z
    · rw [z] at e; cases e
  · rcases fs b hb with z | z
    · exact h.fs b z
    · by_cases hi : F0.In a b
      · exact .inl hi
      · refine .inr ?_
        cases e : H0 b with
        | none => rfl
        | some o =>
          rw [h.fw b o (hw.nn z) hi e] at z; cases z
end
abbrev CPut (P : Program) (w : World) (K : PySem.W.Frag) (mg : Str → Option Value) (base : Heap) (C D N : Addr) : Prop := Mt P w K mg base CX0 10 D "put" ["self", "key", "value"] (sp_putG C D N PutNF Rm4)
theorem g_put {wl : Addr} {F0 : Fp} {H0 : Hp} {n : Nat} {Q : VK} {E : XK} {v u : V} {k : Ky} (h : Tst C D N a wl num me F0 H0 H n F t) (hk : KyAt C D H v k) (hn : k.x ≠ .non) (hna : isNanA k.x = false) (hl : n < 4000)
    (q : ∀ H' F' t', PutF t (plK k) (plV v k.x) u t' → Tst C D N a wl num me F0 H0 H' (n + 1) F' t' → Frm a F H H' → Q .non H') : sp_putG C D N PutNF Rm4 (V.ref a :: ([v, u] ++ [])) H Q E := by
  refine ⟨a, v, u, num, me, k, F, t, rfl, h.ts, hk, hn, hna, .inl (Nat.lt_of_le_of_lt h.lv hl), fun H' t' px lf => ?_⟩
  obtain ⟨F', ts, fr, fs⟩ := lf
  have := PutF.lv h.ts.wf px
  have hlv := h.lv
  exact q H' F' t' px (h.left ts fr fs (by omega)) fr
theorem ky_str {x : Str} : KyAt C D H (.str x) ⟨.str x, 0⟩ := ⟨rfl, fun a e => nomatch e⟩
theorem ky_bl {x : Bool} : KyAt C D H (.bl x) ⟨.bl x, 0⟩ := ⟨rfl, fun a e => nomatch e⟩
theorem ky_non : KyAt C D H .non ⟨.non, 0⟩ := ⟨rfl, fun a e => nomatch e⟩
/-- a key that is an int in 64 bits, or a text, or a truth: one in every heap -/
def EasyK (v : V) : Prop := (∃ i : Int, v = .int i ∧ i.natAbs < 2 ^ 64) ∨ (∃ x, v = .str x) ∨ ∃ b, v = .bl b
theorem EasyK.ky {v : V} (h : EasyK v) : ∃ k : Ky, k.x ≠ .non ∧ isNanA k.x = false ∧ plK k = k ∧ plV v k.x = v ∧ ∀ (C D : Addr) (H : Hp), KyAt C D H v k := by
  rcases h with ⟨i, rfl, hi⟩ | ⟨x, rfl⟩ | ⟨b, rfl⟩
  · exact ⟨KK.ki i, fun z => (nomatch z), rfl, rfl, rfl, fun _ _ _ => ky_int (lt_pow_mono hi (by decide))⟩
  · exact ⟨⟨.str x, 0⟩, fun z => (nomatch z), rfl, rfl, rfl, fun _ _ _ => ky_str⟩
  · exact ⟨⟨.bl b, 0⟩, fun z => (nomatch z), rfl, rfl, rfl, fun _ _ _ => ky_bl⟩
def sp_Lright : Sp := fun vs H Q _ => ∃ (wl : Addr), vs = [.ref wl] ∧ Wl H wl ∧ ∀ H', Stp wl H H' → Wl H' wl → Q (.bl true) H'
theorem easy_int {i : Int} (h : i.natAbs < 2 ^ 64) : EasyK (.int i) := .inl ⟨i, rfl, h⟩
end
end Up

set_option Elab.async false
set_option linter.all false
set_option pp.maxSteps 600
set_option maxRecDepth 100000
set_option maxHeartbeats 4000000
set_option exponentiation.threshold 200000
namespace Up
open PySem PySem.Spec PyProof.Rows L2
local macro_rules | `(tactic| walk_at "u") => `(tactic| first
  | with_reducible refine g_seq ?_
  | with_reducible refine g_asg ?_
  | with_reducible refine g_op ?_
  | ((with_reducible show tVar _ _ _ _); apply g_var; exact rfl)
  | with_reducible refine g_c ?_
  | with_reducible refine g_name ?_
  | with_reducible refine g_ifs ?_
  | with_reducible refine g_tt ?_
  | with_reducible refine g_tB ?_
  | with_reducible refine g_bl ?_
  | with_reducible refine g_ret ?_
  | with_reducible refine g_cb ?_
  | with_reducible refine g_cons ?_
  | with_reducible refine g_nil ?_
  | with_reducible refine g_call ?_
  | with_reducible refine g_and ?_
  | with_reducible refine g_or ?_
  | with_reducible refine g_not ?_
  | with_reducible refine g_andV ?_
  | with_reducible refine g_orV ?_
  | with_reducible refine g_notV ?_
  | with_reducible refine g_if ?_
  | with_reducible refine g_un ?_
  | with_reducible refine g_neg ?_
  | with_reducible refine g_addI ?_
  | with_reducible refine g_subI ?_
  | with_reducible refine g_subB ?_
  | with_reducible refine g_I0 ?_
  | with_reducible refine g_cmpI ?_
  | with_reducible refine g_eqI ?_
  | with_reducible refine g_neI ?_
  | with_reducible refine g_eqS ?_
  | with_reducible refine g_neS ?_
  | with_reducible refine g_eqB ?_
  | with_reducible refine g_neB ?_
  | with_reducible refine g_bits ?_
  | with_reducible refine g_bitsI ?_
  | with_reducible refine g_fld ?_
  | with_reducible refine g_tup ?_
  | with_reducible refine g_lst ?_
  | with_reducible refine g_gtup ?_
  | with_reducible refine g_make ?_
  | with_reducible refine g_lc ?_
  | with_reducible refine g_yesT ?_
  | with_reducible refine g_intI ?_
  | with_reducible refine g_intB ?_
  | with_reducible refine g_max2 ?_
  | with_reducible refine g_abs1 ?_
  | with_reducible refine g_for ?_
  | with_reducible refine g_iList ?_
  | with_reducible refine g_iTup ?_
  | with_reducible refine g_iRng1 ?_
  | with_reducible refine g_iEnum ?_
  | with_reducible refine g_slice ?_
  | with_reducible refine g_po0 ?_
  | with_reducible refine g_po1 ?_
  | with_reducible refine g_gsub ?_
  | with_reducible refine g_par ?_
  | with_reducible refine g_par2 ?_
  | with_reducible refine g_rfl ?_
  | with_reducible refine g_meth ?_
  | with_reducible refine g_gcons ?_
  | with_reducible refine g_gnil ?_
  | with_reducible refine g_gfld ?_
  | with_reducible refine g_sfld ?_
  | with_reducible refine g_drop ?_
  | with_reducible refine g_next ?_
  | with_reducible refine iteT ?_
  | with_reducible refine iteF ?_)
local macro_rules | `(tactic| walk_at "go") => `(tactic| (repeat walk_at "u"))
local macro_rules | `(tactic| walk_at "t") => `(tactic| (repeat (first
  | walk_at "u"
  | with_reducible refine g_chain ?_
  | with_reducible refine g_par3 ?_
  | with_reducible refine g_par3' ?_
  | with_reducible refine g_augS ?_
  | with_reducible refine g_nt ?_
  | with_reducible refine g_nf ?_
  | with_reducible refine g_methK ?_
  | with_reducible refine g_makeK ?_
  | with_reducible refine g_iRng2 ?_
  | with_reducible refine g_bm ?_
  | with_reducible refine g_fldaug ?_
  | with_reducible refine g_iStr ?_
  | with_reducible refine g_ipI ?_
  | ((with_reducible show tAug _ _ _ _ _ _); refine ⟨_, rfl, ?_⟩)
  | ((with_reducible refine show_exT ?_); first
    | refine rdT3 (by assumption) (by assumption) ?_
    | refine rdT4 (by assumption) (by assumption) ?_
    | refine rdT5 (by assumption) (by assumption) ?_
    | refine rdT1 (by assumption) (by assumption) ?_
    | refine rdT2 (by assumption) (by assumption) ?_
    | refine rdN1 (by assumption) (by assumption) ?_
    | refine rdN2 (by assumption) (by assumption) ?_
    | refine rdN3 (by assumption) (by assumption) ?_
    | refine rdN4 (by assumption) (by assumption) ?_))))

section
variable {P : Program} {w : World} {K : PySem.W.Frag} {mg : Str → Option Value} {base : Heap} {C D N : Addr} {H H' : Hp} {a : Addr} {num me : V} {F F' : Fp} {t t' : Tb Ky}
abbrev s_Lhalved : Stmt := top 43
theorem sc_Lhalved : FnScope ["_law_table", "_law_low", "_law_high", "_law_middle"] ["_law_table", "_law_low", "_law_high"] (defScope s_Lhalved) := ⟨rfl, rfl, rfl, by decide +kernel, rfl, by decide +kernel, by decide +kernel⟩
def sp_Lhalved (C D N : Addr) : Sp := fun vs H Q _ => ∃ (a : Addr) (num me : V) (lo hi : Nat) (F : Fp) (t : Tb Ky), vs = [.ref a, .int lo, .int hi] ∧ TbS C D N H a num me F t ∧ hi < 2 ^ 64 ∧ lo < 2 ^ 64 ∧ ∀ H', Same H H' → Q (.int (halve (pN t) lo hi : Nat)) H'
theorem ok_Lhalved {f : Addr} {fd : FuncData} (F : FunD K "_law_halved" "_law_halved" (defArgs s_Lhalved) (defBody s_Lhalved) (defScope s_Lhalved) [] [] f fd) (B : Blt mg) (c_get : CGet P w K mg base C D N) : FnOk P w K mg base CX0 7 f fd ["_law_table", "_law_low", "_law_high"] (sp_Lhalved C D N) := by
  refine F.ok sc_Lhalved (fun vs H Q E h => ?_) (fun cdv A outer s H vs Q E hr h => ?_)
  · obtain ⟨_, _, _, _, _, _, _, rfl, _⟩ := h; rfl
  · obtain ⟨a, num, me, lo, hi, G, t, rfl, ht, hh, hlo, q⟩ := h
    refine ⟨_, PSs.nox (pss_cons (ps_while PassesOwn.never (pt_cmpR op_oGt (pe_op op_oSub (pv 2) (pv 1)) pe_int (nomark _))
    (pss_cons (ps_set (i := 3) sc_Lhalved.nd rfl (Or.inl rfl) (pe_op op_oDiv (pe_op op_oAdd (pv 1) (pv 2)) pe_int))
  (pss_one (ps_asg (pe_ifExp (pt_cmpR op_isN (pe_mt c_get (hr.mono (by first | decide | omega)) pass0 (pv 0) (pa_cons (pv 3) pa_nil)) pe_non (nomark _)) (pe_tupN (pa_cons (pv 1) (pa_cons (pv 3) pa_nil))) (pe_tupN (pa_cons (pv 3) (pa_cons (pv 2) pa_nil)))) (pg_tup rfl (pgs_cons (pg_name (i := 1) sc_Lhalved.nd rfl (Or.inl rfl)) (pgs_cons (pg_name (i := 2) sc_Lhalved.nd rfl (Or.inl rfl)) pgs_nil)))))))
  (pss_one (ps_ret (pv 1)))), ?_⟩
    walk_at "t"
    refine g_while (fun m σ' H' => ∃ l h : Nat, ∃ e3, σ' = [some (.ref a), some (.int l), some (.int h), e3] ∧ Same H H' ∧ l < 2 ^ 64 ∧ h < 2 ^ 64 ∧ halve (pN t) l h = halve (pN t) lo hi ∧ m = h - l) _ ⟨lo, hi, _, rfl, Same.refl _, hlo, hh, rfl, rfl⟩ ?_
    rintro m _ H1 ⟨l, h, e3, rfl, s1, l1, l2, eh, rfl⟩
    have ht1 := ht.same s1
    obtain ⟨⟨dx, ho⟩, _⟩ := id ht1.at_
    walk_at "t"
    refine g_ite (fun h1 => ?_) fun h1 => ?_
    · refine g_wbody ?_
      walk_at "t"
      refine g_divI (by decide) (by decide) ?_
      have em : ((l : Int) + (h : Int)).fdiv 2 = (((l + h) / 2 : Nat) : Int) := by
        have := fdiv_nat (l + h) 2
        rw [← this]
        rfl
      rw [em]
      walk_at "t"
      refine ⟨a, dx, _, rfl, ho, rfl, ?_⟩
      walk_at "t"
      refine g_getN ht1 (by omega) fun H2 s2 => ?_
      walk_at "t"
      refine g_iteb (fun h2 => ?_) fun h2 => ?_
      · walk_at "t"
        refine g_new (sz rfl) fun p3 H3 n3 s3 h3 _ => ?_
        refine ⟨p3, _, rfl, SqT.of h3, rfl, ?_⟩
        walk_at "t"
        exact ⟨(l + h) / 2 - l, by omega, l, (l + h) / 2, some (.int (((l + h) / 2 : Nat) : Int)), rfl, (s1.trans s2).trans s3, l1, by omega, (halve_lo (by omega) h2).symm.trans eh, rfl⟩
      · walk_at "t"
        refine g_new (sz rfl) fun p3 H3 n3 s3 h3 _ => ?_
        refine ⟨p3, _, rfl, SqT.of h3, rfl, ?_⟩
        walk_at "t"
        exact ⟨h - (l + h) / 2, by omega, (l + h) / 2, h, some (.int (((l + h) / 2 : Nat) : Int)), rfl, (s1.trans s2).trans s3, by omega, l2, (halve_hi (by omega) h2).symm.trans eh, rfl⟩
    · walk_at "t"
      rw [halve_stop (by omega)] at eh
      rw [eh]
      exact q _ s1
abbrev s_Lborder : Stmt := top 44
theorem sc_Lborder : FnScope ["_law_table", "_law_many", "_law_low", "_law_high", "_law_last"] ["_law_table"] (defScope s_Lborder) := ⟨rfl, rfl, rfl, by decide +kernel, rfl, by decide +kernel, by decide +kernel⟩
abbrev CRoom (P : Program) (w : World) (K : PySem.W.Frag) (mg : Str → Option Value) (base : Heap) (D N : Addr) : Prop := Mt P w K mg base CX0 1 D "room" ["self"] (sp_room D N)
def sp_Lborder (C D N : Addr) : Sp := fun vs H Q _ => ∃ (a : Addr) (num me : V) (F : Fp) (t : Tb Ky), vs = [.ref a] ∧ TbS C D N H a num me F t ∧ ∀ H', Same H H' → Q (.int (brT t : Nat)) H'
theorem ok_Lborder {f : Addr} {fd : FuncData} (F : FunD K "_law_border" "_law_border" (defArgs s_Lborder) (defBody s_Lborder) (defScope s_Lborder) [] [] f fd) (B : Blt mg) (c_get : CGet P w K mg base C D N) (c_room : CRoom P w K mg base D N) (c_Lhalved : Fn P w K mg base CX0 7 "_law_halved" ["_law_table", "_law_low", "_law_high"] [] (sp_Lhalved C D N)) : FnOk P w K mg base CX0 8 f fd ["_law_table"] (sp_Lborder C D N) := by
  refine F.ok sc_Lborder (fun vs H Q E h => ?_) (fun cdv A outer s H vs Q E hr h => ?_)
  · obtain ⟨_, _, _, _, _, rfl, _⟩ := h; rfl
  · obtain ⟨a, num, me, G, t, rfl, ht, q⟩ := h
    have hsa := ht.sa
    refine ⟨_, PSs.nox (pss_cons (ps_set (i := 1) sc_Lborder.nd rfl (Or.inl rfl) (pe_ix ix_seq (pe_mt0 c_room (hr.mono (by first | decide | omega)) pass0 (pv 0)) pe_int (fun _ _ => rfl)))
  (pss_cons (ps_if (pt_cut (PW.pt (pw_and (pt_cmpR op_oGt (pv 1) pe_int (nomark _)) (pw_and1 (pt_cmpR op_isN (pe_mt c_get (hr.mono (by first | decide | omega)) pass0 (pv 0) (pa_cons (pv 1) pa_nil)) pe_non (nomark _)))))) (pss_one (ps_ret (pe_fn c_Lhalved (hr.mono (by first | decide | omega)) pass0 (pa_cons (pv 0) (pa_cons pe_int (pa_cons (pv 1) pa_nil)))))) pss_nil)
  (pss_cons (ps_if (pt_cut (PW.pt (pw_or (pt_cmpR (op_oEq hr.units) (pe_ix ix_seq (pe_mt0 c_room (hr.mono (by first | decide | omega)) pass0 (pv 0)) pe_int (fun _ _ => rfl)) pe_int (nomark _)) (pw_or1 (pt_cmpR op_isN (pe_mt c_get (hr.mono (by first | decide | omega)) pass0 (pv 0) (pa_cons (pe_op op_oAdd (pv 1) pe_int) pa_nil)) pe_non (nomark _)))))) (pss_one (ps_ret (pv 1))) pss_nil)
  (pss_cons (ps_set (i := 2) sc_Lborder.nd rfl (Or.inl rfl) (pe_callB (call_max2 rfl) (by rfl) B.max (by decide +kernel) (pa_cons pe_int (pa_cons (pv 1) pa_nil))))
  (pss_cons (ps_set (i := 3) sc_Lborder.nd rfl (Or.inl rfl) (pv 2))
  (pss_cons (ps_while PassesOwn.never (pt_cmpR op_notN (pe_mt c_get (hr.mono (by first | decide | omega)) pass0 (pv 0) (pa_cons (pv 3) pa_nil)) pe_non (nomark _))
    (pss_cons (ps_par (i := 2) (j := 4) rfl sc_Lborder.nd rfl rfl (by decide) rfl rfl (pa_cons (pv 3) (pa_cons (pe_op op_oSub (pe_op op_oPow pe_int pe_int) pe_int) pa_nil)) (by rfl))
  (pss_cons (ps_if (pt_cmpR op_oGt (pe_op op_oMul pe_int (pv 3)) (pv 4) (nomark _)) (pss_one (ps_ret (pe_ifExp (pt_cmpR op_notN (pe_mt c_get (hr.mono (by first | decide | omega)) pass0 (pv 0) (pa_cons (pv 4) pa_nil)) pe_non (nomark _)) (pv 4) (pe_fn c_Lhalved (hr.mono (by first | decide | omega)) pass0 (pa_cons (pv 0) (pa_cons (pv 2) (pa_cons (pv 4) pa_nil))))))) pss_nil)
  (pss_one (ps_set (i := 3) sc_Lborder.nd rfl (Or.inl rfl) (pe_op op_oMul pe_int (pv 3)))))))
  (pss_one (ps_ret (pe_fn c_Lhalved (hr.mono (by first | decide | omega)) pass0 (pa_cons (pv 0) (pa_cons (pv 2) (pa_cons (pv 3) pa_nil)))))))))))), ?_⟩
    obtain ⟨⟨dx, ho⟩, _⟩ := id ht.at_
    walk_at "t"
    refine ⟨a, dx, _, rfl, ho, rfl, ?_⟩
    walk_at "t"
    refine ⟨a, num, me, G, t, rfl, ht.at_, fun H1 p1 n1 s1 h1 => ?_⟩
    walk_at "t"
    refine g_ixT h1 rfl ?_
    walk_at "t"
    have q1 := fun H' s' => q H' s'
    unfold brT brd at q
    refine g_cutT (fun b H' => Same H H' ∧ b = decide (0 < t.arr.length ∧ pN t t.arr.length = true)) ?_ ?_
    · walk_at "t"
      refine g_ite (fun h2 => ?_) fun h2 => ?_
      · walk_at "t"
        refine ⟨a, dx, _, rfl, s1 _ _ ho, rfl, ?_⟩
        walk_at "t"
        refine g_getN (ht.same s1) (by omega) fun H2 s2 => ?_
        walk_at "t"
        refine ⟨s1.trans s2, ?_⟩
        show pN t t.arr.length = _
        have h2 : 0 < t.arr.length := by omega
        cases e : pN t t.arr.length <;> simp [h2]
      · refine ⟨s1, ?_⟩
        rw [decide_eq_false (fun z => h2 (by have := z.1; omega))]
    · rintro _ H2 ⟨s2, rfl⟩
      have ht2 := ht.same s2
      obtain ⟨⟨dx2, ho2⟩, _⟩ := id ht2.at_
      refine g_ite (fun h2 => ?_) fun h2 => ?_
      · rw [if_pos h2] at q
        walk_at "t"
        exact ⟨a, num, me, 0, t.arr.length, G, t, rfl, ht2, by omega, by decide, fun H3 s3 => q _ (s2.trans s3)⟩
      · rw [if_neg h2] at q
        walk_at "t"
        refine g_cutT (fun b H' => Same H H' ∧ b = decide ((!t.nds.isEmpty) = false ∨ pN t (t.arr.length + 1) = true)) ?_ ?_
        · walk_at "t"
          refine ⟨a, dx2, _, rfl, ho2, rfl, ?_⟩
          walk_at "t"
          refine ⟨a, num, me, G, t, rfl, ht2.at_, fun H3 p3 n3 s3 h3 => ?_⟩
          walk_at "t"
          refine g_ixT h3 rfl ?_
          walk_at "t"
          refine g_ite (fun h4 => ?_) fun h4 => ?_
          · refine ⟨s2.trans s3, ?_⟩
            have e : t.nds = [] := List.length_eq_zero_iff.mp (by omega)
            rw [decide_eq_true (.inl (by rw [e]; rfl))]
          · walk_at "t"
            refine ⟨a, dx2, _, rfl, s3 _ _ ho2, rfl, ?_⟩
            walk_at "t"
            have em : ((t.arr.length : Nat) : Int) + 1 = ((t.arr.length + 1 : Nat) : Int) := by omega
            rw [em]
            refine g_getN (ht2.same s3) (by omega) fun H4 s4 => ?_
            walk_at "t"
            refine ⟨(s2.trans s3).trans s4, ?_⟩
            show pN t (t.arr.length + 1) = _
            have e : t.nds.isEmpty = false := by
              cases e : t.nds with
              | nil => rw [e] at h4; exact absurd rfl h4
              | cons _ _ => rfl
            rw [e]
            cases pN t (t.arr.length + 1) <;> simp
        · rintro _ H3 ⟨s3, rfl⟩
          refine g_ite (fun h3 => ?_) fun h3 => ?_
          · rw [if_pos h3] at q
            walk_at "t"
            exact q _ s3
          · rw [if_neg h3] at q
            walk_at "t"
            have em : (if ((t.arr.length : Nat) : Int) > 1 then ((t.arr.length : Nat) : Int) else 1) = ((max 1 t.arr.length : Nat) : Int) := by split <;> omega
            rw [em]
            walk_at "t"
            refine g_while (fun m σ' H' => ∃ l h : Nat, ∃ e4, σ' = [some (.ref a), some (.int (t.arr.length : Nat)), some (.int l), some (.int h), e4] ∧ Same H H' ∧ 0 < h ∧ l ≤ h ∧ h < 9223372036854775807 ∧ dbl (pN t) l h = dbl (pN t) (max 1 t.arr.length) (max 1 t.arr.length) ∧ m = 9223372036854775808 - h) _ ⟨_, _, _, rfl, s3, by omega, Nat.le_refl _, by omega, rfl, rfl⟩ ?_
            rintro m _ H4 ⟨l, h, e4, rfl, s4, h0, hlh, hh, ed, rfl⟩
            have ht4 := ht.same s4
            obtain ⟨⟨dx4, ho4⟩, _⟩ := id ht4.at_
            walk_at "t"
            refine ⟨a, dx4, _, rfl, ho4, rfl, ?_⟩
            walk_at "t"
            refine g_getN ht4 (by omega) fun H5 s5 => ?_
            have ht5 := ht4.same s5
            have s05 := s4.trans s5
            obtain ⟨⟨dx5, ho5⟩, _⟩ := id ht5.at_
            walk_at "t"
            rw [dbl] at ed
            have epn : pN t h = decide (gtT t (KK.ki (h : Int)) = .non) := rfl
            refine g_iteb (fun h4 => ?_) fun h4 => ?_
            · have h4 : pN t h = false := by rw [epn]; simpa using h4
              rw [if_neg (by rw [h4]; decide)] at ed
              refine g_wbody ?_
              walk_at "t"
              refine g_II ⟨by decide, by decide, by decide⟩ ?_
              walk_at "t"
              have e2 : (2 : Int) ^ (63 : Int).toNat - 1 = 9223372036854775807 := by decide
              rw [e2]
              refine g_mulI (.of_left (by decide)) ?_
              walk_at "t"
              refine g_ite (fun h5 => ?_) fun h5 => ?_
              · rw [dif_pos (.inr (by omega))] at ed
                walk_at "t"
                refine ⟨a, dx5, _, rfl, ho5, rfl, ?_⟩
                walk_at "t"
                refine g_getN (m := 9223372036854775807) ht5 (by decide) fun H6 s6 => ?_
                have ht6 := ht5.same s6
                walk_at "t"
                refine g_iteb (fun h6 => ?_) fun h6 => ?_
                · have h6 : pN t 9223372036854775807 = false := by
                    have : pN t 9223372036854775807 = decide (gtT t (KK.ki ((9223372036854775807 : Nat) : Int)) = .non) := rfl
                    rw [this]; simpa using h6
                  rw [if_neg (by rw [h6]; decide)] at ed
                  rw [← ed] at q
                  walk_at "t"
                  exact q _ (s05.trans s6)
                · have h6 : pN t 9223372036854775807 = true := by
                    have : pN t 9223372036854775807 = decide (gtT t (KK.ki ((9223372036854775807 : Nat) : Int)) = .non) := rfl
                    rw [this]; simpa using h6
                  rw [if_pos h6] at ed
                  rw [← ed] at q
                  walk_at "t"
                  exact ⟨a, num, me, h, 9223372036854775807, G, t, rfl, ht6, by decide, by omega, fun H7 s7 => q _ ((s05.trans s6).trans s7)⟩
              · rw [dif_neg (fun z => z.elim (by omega) (by omega))] at ed
                walk_at "t"
                refine g_mulI (.of_left (by decide)) ?_
                walk_at "t"
                have e5 : (2 * (h : Int)) = ((2 * h : Nat) : Int) := by omega
                rw [e5]
                exact ⟨_, by show 9223372036854775808 - 2 * h < _; omega, h, 2 * h, some (.int 9223372036854775807), rfl, s05, by omega, by omega, by omega, ed, rfl⟩
            · have h4 : pN t h = true := by rw [epn]; simpa using h4
              rw [if_pos h4] at ed
              rw [← ed] at q
              walk_at "t"
              exact ⟨a, num, me, l, h, G, t, rfl, ht5, by omega, by omega, fun H7 s7 => q _ (s05.trans s7)⟩
abbrev s_Lisborder : Stmt := top 45
theorem sc_Lisborder : FnScope ["_law_table", "_law_told"] ["_law_table"] (defScope s_Lisborder) := ⟨rfl, rfl, rfl, by decide +kernel, rfl, by decide +kernel, by decide +kernel⟩
abbrev CBorder (P : Program) (w : World) (K : PySem.W.Frag) (mg : Str → Option Value) (base : Heap) (C D N : Addr) : Prop := Mt P w K mg base CX0 9 D "border" ["self"] (sp_border C D N)
def sp_Lisborder (C D N : Addr) : Sp := fun vs H Q _ => ∃ (a : Addr) (num me : V) (F : Fp) (t : Tb Ky), vs = [.ref a] ∧ TbS C D N H a num me F t ∧ ∀ H', Same H H' → Q (.bl true) H'
theorem ok_Lisborder {f : Addr} {fd : FuncData} (F : FunD K "_law_is_border" "_law_is_border" (defArgs s_Lisborder) (defBody s_Lisborder) (defScope s_Lisborder) [] [] f fd) (B : Blt mg) (c_get : CGet P w K mg base C D N) (c_border : CBorder P w K mg base C D N) (c_Lborder : Fn P w K mg base CX0 8 "_law_border" ["_law_table"] [] (sp_Lborder C D N)) : FnOk P w K mg base CX0 10 f fd ["_law_table"] (sp_Lisborder C D N) := by
  refine F.ok sc_Lisborder (fun vs H Q E h => ?_) (fun cdv A outer s H vs Q E hr h => ?_)
  · obtain ⟨_, _, _, _, _, rfl, _⟩ := h; rfl
  · obtain ⟨a, num, me, G, t, rfl, ht, q⟩ := h
    obtain ⟨b1, b2, b3⟩ := brT_ok ht.sa
    refine ⟨_, PSs.nox (pss_cons (ps_set (i := 1) sc_Lisborder.nd rfl (Or.inl rfl) (pe_mt0 c_border (hr.mono (by first | decide | omega)) pass0 (pv 0)))
  (pss_cons (ps_if (pt_cut (PW.pt (pw_or (pt_cmpR (op_oNe hr.units) (pv 1) (pe_fn c_Lborder (hr.mono (by first | decide | omega)) pass0 (pa_cons (pv 0) pa_nil)) (nomark _)) (pw_or1 (pt_val (pe_callB call_isi (by rfl) B.isinstance (by decide +kernel) (pa_cons (pv 1) (pa_cons (pe_tyBool B) pa_nil)))))))) (pss_one (ps_ret pe_bl)) pss_nil)
  (pss_one (ps_ret (pe_and (pe_or (pe_cmpR (op_oEq hr.units) (pv 1) pe_int (nomark _)) (pe_one (pe_cmpR op_notN (pe_mt c_get (hr.mono (by first | decide | omega)) pass0 (pv 0) (pa_cons (pv 1) pa_nil)) pe_non (nomark _)))) (pe_one (pe_or (pe_cmpR (op_oEq hr.units) (pv 1) (pe_op op_oSub (pe_op op_oPow pe_int pe_int) pe_int) (nomark _)) (pe_one (pe_cmpR op_isN (pe_mt c_get (hr.mono (by first | decide | omega)) pass0 (pv 0) (pa_cons (pe_op op_oAdd (pv 1) pe_int) pa_nil)) pe_non (nomark _)))))))))), ?_⟩
    obtain ⟨⟨dx, ho⟩, _⟩ := id ht.at_
    walk_at "t"
    refine ⟨a, dx, _, rfl, ho, rfl, ?_⟩
    walk_at "t"
    refine ⟨a, num, me, G, t, rfl, ht, fun H1 s1 => ?_⟩
    walk_at "t"
    refine g_cutT (fun b H' => Same H H' ∧ b = false) ?_ ?_
    · walk_at "t"
      refine ⟨a, num, me, G, t, rfl, ht.same s1, fun H2 s2 => ?_⟩
      refine g_neI ?_
      walk_at "t"
      refine g_iten (fun z => absurd rfl z) fun _ => ?_
      walk_at "t"
      refine g_isiBool kn_int ?_
      walk_at "t"
      exact ⟨s1.trans s2, rfl⟩
    · rintro _ H2 ⟨s2, rfl⟩
      have ht2 := ht.same s2
      obtain ⟨⟨dx2, ho2⟩, _⟩ := id ht2.at_
      walk_at "t"
      have second : ∀ H3, Same H H3 → ∀ Q' : VK, Q' = Q → (if decide (((brT t : Nat) : Int) = 9223372036854775807) = true then Q' (.bl true) H3 else Q' (.bl (pN t (brT t + 1))) H3) := fun H3 s3 Q' eq => by
        subst eq
        refine g_ite (fun _ => q _ s3) fun hne => ?_
        rw [b2.resolve_left (fun z => hne (by omega))]
        exact q _ s3
      have e63 : (2 : Int) ^ (63 : Int).toNat - 1 = 9223372036854775807 := by decide
      refine g_ite (fun h0 => ?_) fun h0 => ?_
      · walk_at "t"
        refine g_II ⟨by decide, by decide, by decide⟩ ?_
        walk_at "t"
        rw [e63]
        refine g_ite (fun _ => q _ s2) fun hne => ?_
        walk_at "t"
        refine ⟨a, dx2, _, rfl, ho2, rfl, ?_⟩
        walk_at "t"
        have em : ((brT t : Nat) : Int) + 1 = ((brT t + 1 : Nat) : Int) := by omega
        rw [em]
        refine g_getN ht2 (by omega) fun H3 s3 => ?_
        walk_at "t"
        have e := b2.resolve_left (fun z => hne (by omega))
        unfold pN at e
        rw [e]
        exact q _ (s2.trans s3)
      · walk_at "t"
        refine ⟨a, dx2, _, rfl, ho2, rfl, ?_⟩
        walk_at "t"
        refine g_getN ht2 (by omega) fun H3 s3 => ?_
        have ht3 := ht2.same s3
        obtain ⟨⟨dx3, ho3⟩, _⟩ := id ht3.at_
        walk_at "t"
        have e := b1.resolve_left (fun z => h0 (by omega))
        unfold pN at e
        rw [e]
        walk_at "t"
        refine g_II ⟨by decide, by decide, by decide⟩ ?_
        walk_at "t"
        rw [e63]
        refine g_ite (fun _ => q _ (s2.trans s3)) fun hne => ?_
        walk_at "t"
        refine ⟨a, dx3, _, rfl, ho3, rfl, ?_⟩
        walk_at "t"
        have em : ((brT t : Nat) : Int) + 1 = ((brT t + 1 : Nat) : Int) := by omega
        rw [em]
        refine g_getN ht3 (by omega) fun H4 s4 => ?_
        walk_at "t"
        have e := b2.resolve_left (fun z => hne (by omega))
        unfold pN at e
        rw [e]
        exact q _ ((s2.trans s3).trans s4)
end
end Up

set_option Elab.async false
set_option linter.all false
set_option pp.maxSteps 600
set_option maxRecDepth 100000
set_option maxHeartbeats 4000000
set_option exponentiation.threshold 200000
namespace Up
open PySem PySem.Spec PyProof.Rows L2
local macro_rules | `(tactic| walk_at "u") => `(tactic| first
  | with_reducible refine g_seq ?_
  | with_reducible refine g_asg ?_
  | with_reducible refine g_op ?_
  | ((with_reducible show tVar _ _ _ _); apply g_var; exact rfl)
  | with_reducible refine g_c ?_
  | with_reducible refine g_name ?_
  | with_reducible refine g_ifs ?_
  | with_reducible refine g_tt ?_
  | with_reducible refine g_tB ?_
  | with_reducible refine g_bl ?_
  | with_reducible refine g_ret ?_
  | with_reducible refine g_cb ?_
  | with_reducible refine g_cons ?_
  | with_reducible refine g_nil ?_
  | with_reducible refine g_call ?_
  | with_reducible refine g_and ?_
  | with_reducible refine g_or ?_
  | with_reducible refine g_not ?_
  | with_reducible refine g_andV ?_
  | with_reducible refine g_orV ?_
  | with_reducible refine g_notV ?_
  | with_reducible refine g_if ?_
  | with_reducible refine g_un ?_
  | with_reducible refine g_neg ?_
  | with_reducible refine g_addI ?_
  | with_reducible refine g_subI ?_
  | with_reducible refine g_subB ?_
  | with_reducible refine g_I0 ?_
  | with_reducible refine g_cmpI ?_
  | with_reducible refine g_eqI ?_
  | with_reducible refine g_neI ?_
  | with_reducible refine g_eqS ?_
  | with_reducible refine g_neS ?_
  | with_reducible refine g_eqB ?_
  | with_reducible refine g_neB ?_
  | with_reducible refine g_bits ?_
  | with_reducible refine g_bitsI ?_
  | with_reducible refine g_fld ?_
  | with_reducible refine g_tup ?_
  | with_reducible refine g_lst ?_
  | with_reducible refine g_gtup ?_
  | with_reducible refine g_make ?_
  | with_reducible refine g_lc ?_
  | with_reducible refine g_yesT ?_
  | with_reducible refine g_intI ?_
  | with_reducible refine g_intB ?_
  | with_reducible refine g_max2 ?_
  | with_reducible refine g_abs1 ?_
  | with_reducible refine g_for ?_
  | with_reducible refine g_iList ?_
  | with_reducible refine g_iTup ?_
  | with_reducible refine g_iRng1 ?_
  | with_reducible refine g_iEnum ?_
  | with_reducible refine g_slice ?_
  | with_reducible refine g_po0 ?_
  | with_reducible refine g_po1 ?_
  | with_reducible refine g_gsub ?_
  | with_reducible refine g_par ?_
  | with_reducible refine g_par2 ?_
  | with_reducible refine g_rfl ?_
  | with_reducible refine g_meth ?_
  | with_reducible refine g_gcons ?_
  | with_reducible refine g_gnil ?_
  | with_reducible refine g_gfld ?_
  | with_reducible refine g_sfld ?_
  | with_reducible refine g_drop ?_
  | with_reducible refine g_next ?_
  | with_reducible refine iteT ?_
  | with_reducible refine iteF ?_)
local macro_rules | `(tactic| walk_at "go") => `(tactic| (repeat walk_at "u"))
local macro_rules | `(tactic| walk_at "t") => `(tactic| (repeat (first
  | walk_at "u"
  | with_reducible refine g_chain ?_
  | with_reducible refine g_par3 ?_
  | with_reducible refine g_par3' ?_
  | with_reducible refine g_augS ?_
  | with_reducible refine g_nt ?_
  | with_reducible refine g_nf ?_
  | with_reducible refine g_methK ?_
  | with_reducible refine g_makeK ?_
  | with_reducible refine g_iRng2 ?_
  | with_reducible refine g_bm ?_
  | with_reducible refine g_fldaug ?_
  | with_reducible refine g_iStr ?_
  | with_reducible refine g_ipI ?_
  | ((with_reducible show tAug _ _ _ _ _ _); refine ⟨_, rfl, ?_⟩)
  | ((with_reducible refine show_exT ?_); first
    | refine rdT3 (by assumption) (by assumption) ?_
    | refine rdT4 (by assumption) (by assumption) ?_
    | refine rdT5 (by assumption) (by assumption) ?_
    | refine rdT1 (by assumption) (by assumption) ?_
    | refine rdT2 (by assumption) (by assumption) ?_
    | refine rdN1 (by assumption) (by assumption) ?_
    | refine rdN2 (by assumption) (by assumption) ?_
    | refine rdN3 (by assumption) (by assumption) ?_
    | refine rdN4 (by assumption) (by assumption) ?_))))

section
variable {P : Program} {w : World} {K : PySem.W.Frag} {mg : Str → Option Value} {base : Heap} {C D N : Addr} {H H' : Hp} {a : Addr} {num me : V} {F F' : Fp} {t t' : Tb Ky}
abbrev CIsB (P : Program) (w : World) (K : PySem.W.Frag) (mg : Str → Option Value) (base : Heap) (C D N : Addr) : Prop := Fn P w K mg base CX0 10 "_law_is_border" ["_law_table"] [] (sp_Lisborder C D N)
theorem g_isb {wl : Addr} {F0 : Fp} {H0 : Hp} {n : Nat} {Q : VK} {E : XK} (h : Tst C D N a wl num me F0 H0 H n F t) (q : ∀ H', Tst C D N a wl num me F0 H0 H' n F t → Q (.bl true) H') : sp_Lisborder C D N ([V.ref a] ++ []) H Q E :=
  ⟨a, num, me, F, t, rfl, h.ts, fun H' s => q H' (h.same s)⟩
theorem g_drw {wl : Addr} {F0 : Fp} {H0 : Hp} {n : Nat} {Q : VK} {E : XK} {m : Int} (h : Tst C D N a wl num me F0 H0 H n F t) (m0 : 0 < m) (m1 : m < 2 ^ 62) (q : ∀ (k : Nat) H', (k : Int) < m → Stp wl H H' → Tst C D N a wl num me F0 H0 H' n F t → Q (.int k) H') : sp_Ldr ([V.ref wl, .int m] ++ []) H Q E :=
  ⟨wl, m, rfl, m0, m1, h.w, fun k H' hk s w => q k H' hk s (h.stp s w)⟩
theorem g_pck {wl l : Addr} {F0 : Fp} {H0 : Hp} {n : Nat} {Q : VK} {E : XK} {xs : List V} (h : Tst C D N a wl num me F0 H0 H n F t) (hl : H l = some (.lst xs)) (ne : l ≠ wl) (x0 : 0 < xs.length) (x1 : xs.length < 1000) (q : ∀ v H', v ∈ xs → Stp wl H H' → Tst C D N a wl num me F0 H0 H' n F t → Q v H') : sp_Lpk ([V.ref wl, .ref l] ++ []) H Q E :=
  ⟨wl, l, xs, rfl, h.w, hl, ne, x0, x1, fun v H' hv s w => q v H' hv s (h.stp s w)⟩
abbrev s_Lfar : Stmt := top 46
theorem sc_Lfar : FnScope ["_law_well", "_law_table", "_law_top", "_law_power", "_law_turn"] ["_law_well", "_law_table"] (defScope s_Lfar) := ⟨rfl, rfl, rfl, by decide +kernel, rfl, by decide +kernel, by decide +kernel⟩
def sp_Lfar (C D N : Addr) : Sp := fun vs H Q _ => ∃ (a wl : Addr) (num me : V) (F0 F : Fp) (H0 : Hp) (n : Nat) (t : Tb Ky), vs = [.ref wl, .ref a] ∧ Tst C D N a wl num me F0 H0 H n F t ∧ n ≤ 3000 ∧ ∀ H' F' t', Tst C D N a wl num me F0 H0 H' (n + 100) F' t' → Q (.bl true) H'
theorem ok_Lfar {f : Addr} {fd : FuncData} (F : FunD K "_law_far" "_law_far" (defArgs s_Lfar) (defBody s_Lfar) (defScope s_Lfar) [] [] f fd) (B : Blt mg) (c_Ldraw : CDr P w K mg base) (c_Lpick : CPk P w K mg base) (c_put : CPut P w K mg base C D N) (c_Lisborder : CIsB P w K mg base C D N) : FnOk P w K mg base CX0 11 f fd ["_law_well", "_law_table"] (sp_Lfar C D N) := by
  refine F.ok sc_Lfar (fun vs H Q E h => ?_) (fun cdv A outer s H vs Q E hr h => ?_)
  · obtain ⟨_, _, _, _, _, _, _, _, _, rfl, _⟩ := h; rfl
  · obtain ⟨a, wl, num, me, F0, G, H0, n, t, rfl, ht, hn, q⟩ := h
    refine ⟨_, PSs.nox (pss_cons (ps_set (i := 2) sc_Lfar.nd rfl (Or.inl rfl) (pe_cut (pe_ifExp (pt_cmpR (op_oEq hr.units) (pe_fn c_Ldraw (hr.mono (by first | decide | omega)) pass0 (pa_cons (pv 0) (pa_cons pe_int pa_nil))) pe_int (nomark _)) pe_int (pe_fn c_Ldraw (hr.mono (by first | decide | omega)) pass0 (pa_cons (pv 0) (pa_cons pe_int pa_nil))))))
  (pss_cons (ps_for PassesOwn.never rfl (pi_range1 (by rfl) B.range (pa_cons (pv 2) pa_nil)) (pg_name (i := 3) sc_Lfar.nd rfl (Or.inl rfl))
    (pss_cons (ps_expr (pe_mt c_put (hr.mono (by first | decide | omega)) pass0 (pv 1) (pa_cons (pe_op op_oShl pe_int (pv 3)) (pa_cons (pv 3) pa_nil))))
  (pss_one (ps_if (pt_not (pt_val (pe_fn c_Lisborder (hr.mono (by first | decide | omega)) pass0 (pa_cons (pv 1) pa_nil)))) (pss_one (ps_ret pe_bl)) pss_nil))))
  (C8.pss_cut (ps_if (pt_cmpR (op_oEq hr.units) (pe_fn c_Ldraw (hr.mono (by first | decide | omega)) pass0 (pa_cons (pv 0) (pa_cons pe_int pa_nil))) pe_int (nomark _)) (pss_one (ps_expr (pe_mt c_put (hr.mono (by first | decide | omega)) pass0 (pv 1) (pa_cons (pe_op op_oSub (pe_op op_oPow pe_int pe_int) pe_int) (pa_cons pe_str pa_nil))))) pss_nil)
  (pss_cons (ps_if (pt_not (pt_val (pe_fn c_Lisborder (hr.mono (by first | decide | omega)) pass0 (pa_cons (pv 1) pa_nil)))) (pss_one (ps_ret pe_bl)) pss_nil)
  (pss_cons (ps_for PassesOwn.never rfl (pi_range1 (by rfl) B.range (pa_cons pe_int pa_nil)) (pg_name (i := 4) sc_Lfar.nd rfl (Or.inl rfl))
    (pss_cons (ps_expr (pe_mt c_put (hr.mono (by first | decide | omega)) pass0 (pv 1) (pa_cons (pe_fn c_Lpick (hr.mono (by first | decide | omega)) pass0 (pa_cons (pv 0) (pa_cons (pe_lstN (pa_cons (pe_op op_oAdd (pe_op op_oPow pe_int pe_int) pe_int) (pa_cons (pe_op op_oSub (pe_op op_oPow pe_int pe_int) pe_int) (pa_cons (pe_op op_oMul pe_int (pe_op op_oPow pe_int pe_int)) (pa_cons (pe_op op_oSub (pe_op op_oPow pe_int pe_int) pe_int) (pa_cons pe_int (pa_cons pe_int (pa_cons pe_int (pa_cons pe_int pa_nil))))))))) pa_nil))) (pa_cons (pv 4) pa_nil))))
  (pss_one (ps_if (pt_not (pt_val (pe_fn c_Lisborder (hr.mono (by first | decide | omega)) pass0 (pa_cons (pv 1) pa_nil)))) (pss_one (ps_ret pe_bl)) pss_nil))))
  (pss_one (ps_ret pe_bl))))))), ?_⟩
    walk_at "t"
    refine g_cutE (fun z H' => ∃ top : Nat, z = .int top ∧ top ≤ 63 ∧ Tst C D N a wl num me F0 H0 H' n G t) ?_ ?_
    · walk_at "t"
      refine g_drw ht (by decide) (by decide) fun k1 H1 hk1 _ ht1 => ?_
      walk_at "t"
      refine g_ite (fun _ => ?_) fun _ => ?_
      · walk_at "t"
        exact ⟨63, rfl, by decide, ht1⟩
      · walk_at "t"
        exact g_drw ht1 (by decide) (by decide) fun k2 H2 hk2 _ ht2 => ⟨k2, rfl, by omega, ht2⟩
    · rintro _ H1 ⟨top, rfl, ht0, ht1⟩
      walk_at "t"
      refine ⟨by omega, by omega, ?_⟩
      rw [Int.toNat_natCast]
      refine for_range (lo := 0) (n := top) (fun i σ' H' => i ≤ top ∧ ∃ F' t' e3 e4, σ' = [some (.ref wl), some (.ref a), some (.int (top : Nat)), e3, e4] ∧ Tst C D N a wl num me F0 H0 H' (n + i) F' t') ⟨Nat.zero_le _, G, t, _, _, rfl, ht1⟩ ?_ ?_
      · rintro i _ H2 hi ⟨_, F2, t2, e3, e4, rfl, ht2⟩
        obtain ⟨⟨dx, ho⟩, _⟩ := id ht2.ts.at_
        walk_at "t"
        rw [Int.zero_add]
        refine ⟨a, dx, _, rfl, ho, rfl, ?_⟩
        walk_at "t"
        refine g_II (shl_small (by omega) (by omega) (lt_pow_mono (a := 1) (by decide) (by decide))) ?_
        walk_at "t"
        have ep : (1 : Int) * 2 ^ (i : Int).toNat = ((2 ^ i : Nat) : Int) := by rw [Int.one_mul, Int.toNat_natCast, Int.natCast_pow]; rfl
        rw [ep]
        have hp : 2 ^ i < 2 ^ 64 := Nat.pow_lt_pow_right (by decide) (by omega)
        refine g_put ht2 (ky_int (bigN hp)) (fun z => (nomatch z)) rfl (by omega) fun H3 F3 t3 _ ht3 _ => ?_
        walk_at "t"
        refine g_isb ht3 fun H4 ht4 => ?_
        walk_at "t"
        exact ⟨by omega, F3, t3, some (.int i), e4, rfl, ht4⟩
      · rintro _ H2 ⟨_, F2, t2, e3, e4, rfl, ht2⟩
        walk_at "t"
        refine g_cut (fun σ' H' => ∃ F3 t3 e3 e4, σ' = [some (.ref wl), some (.ref a), some (.int (top : Nat)), e3, e4] ∧ Tst C D N a wl num me F0 H0 H' (n + 64) F3 t3) ?_ ?_
        · walk_at "t"
          refine g_drw ht2 (by decide) (by decide) fun k3 H3 hk3 _ ht3 => ?_
          walk_at "t"
          refine g_ite (fun _ => ?_) fun _ => ?_
          · obtain ⟨⟨dx, ho⟩, _⟩ := id ht3.ts.at_
            walk_at "t"
            refine ⟨a, dx, _, rfl, ho, rfl, ?_⟩
            walk_at "t"
            refine g_II ⟨by decide, by decide, by decide⟩ ?_
            walk_at "t"
            have e63 : (2 : Int) ^ (63 : Int).toNat - 1 = ((9223372036854775807 : Nat) : Int) := by decide
            rw [e63]
            refine g_put ht3 (ky_int (bigN (by decide))) (fun z => (nomatch z)) rfl (by omega) fun H4 F4 t4 _ ht4 _ => ?_
            walk_at "t"
            exact ⟨F4, t4, e3, e4, rfl, ⟨ht4.ts, ht4.w, ht4.w0, ht4.out0, ht4.fw, ht4.fs, by have := ht4.lv; omega⟩⟩
          · walk_at "t"
            exact ⟨F2, t2, e3, e4, rfl, ⟨ht3.ts, ht3.w, ht3.w0, ht3.out0, ht3.fw, ht3.fs, by have := ht3.lv; omega⟩⟩
        · rintro _ H3 ⟨F3, t3, e3, e4, rfl, ht3⟩
          walk_at "t"
          refine g_isb ht3 fun H4 ht4 => ?_
          walk_at "t"
          refine ⟨by decide, by decide, ?_⟩
          refine for_range (lo := 0) (n := 6) (fun i σ' H' => i ≤ 6 ∧ ∃ F' t' e3 e4, σ' = [some (.ref wl), some (.ref a), some (.int (top : Nat)), e3, e4] ∧ Tst C D N a wl num me F0 H0 H' (n + 64 + i) F' t') ⟨Nat.zero_le _, F3, t3, _, _, rfl, ht4⟩ ?_ ?_
          · rintro i _ H5 hi ⟨_, F5, t5, e3, e4, rfl, ht5⟩
            obtain ⟨⟨dx, ho⟩, _⟩ := id ht5.ts.at_
            walk_at "t"
            refine ⟨a, dx, _, rfl, ho, rfl, ?_⟩
            walk_at "t"
            refine g_II ⟨by decide, by decide, by decide⟩ ?_
            walk_at "t"
            refine g_II ⟨by decide, by decide, by decide⟩ ?_
            walk_at "t"
            refine g_II ⟨by decide, by decide, by decide⟩ ?_
            walk_at "t"
            refine g_mulI (.of_left (by decide)) ?_
            walk_at "t"
            refine g_II ⟨by decide, by decide, by decide⟩ ?_
            walk_at "t"
            refine g_new (sz rfl) fun p6 H6 n6 s6 h6 _ => ?_
            have ht6 := ht5.same s6
            walk_at "t"
            refine g_pck ht6 h6 (ht5.w.nn n6) (by simp) (by simp) fun v H7 hv _ ht7 => ?_
            have hv : EasyK v := by
              simp only [List.mem_cons, List.not_mem_nil, or_false] at hv
              rcases hv with rfl | rfl | rfl | rfl | rfl | rfl | rfl | rfl <;> exact easy_int (by decide)
            obtain ⟨k, k1, k2, k3, k4, k5⟩ := hv.ky
            walk_at "t"
            refine g_put ht7 (k5 _ _ _) k1 k2 (by omega) fun H8 F8 t8 _ ht8 _ => ?_
            walk_at "t"
            refine g_isb ht8 fun H9 ht9 => ?_
            walk_at "t"
            exact ⟨by omega, F8, t8, e3, some (.int (0 + i)), rfl, ht9⟩
          · rintro _ H5 ⟨_, F5, t5, e3, e4, rfl, ht5⟩
            walk_at "t"
            exact q H5 F5 t5 ⟨ht5.ts, ht5.w, ht5.w0, ht5.out0, ht5.fw, ht5.fs, by have := ht5.lv; omega⟩
end
end Up

set_option Elab.async false
set_option linter.all false
set_option pp.maxSteps 600
set_option maxRecDepth 100000
set_option maxHeartbeats 4000000
set_option exponentiation.threshold 200000
namespace Up
open PySem PySem.Spec PyProof.Rows L2
local macro_rules | `(tactic| walk_at "u") => `(tactic| first
  | with_reducible refine g_seq ?_
  | with_reducible refine g_asg ?_
  | with_reducible refine g_op ?_
  | ((with_reducible show tVar _ _ _ _); apply g_var; exact rfl)
  | with_reducible refine g_c ?_
  | with_reducible refine g_name ?_
  | with_reducible refine g_ifs ?_
  | with_reducible refine g_tt ?_
  | with_reducible refine g_tB ?_
  | with_reducible refine g_bl ?_
  | with_reducible refine g_ret ?_
  | with_reducible refine g_cb ?_
  | with_reducible refine g_cons ?_
  | with_reducible refine g_nil ?_
  | with_reducible refine g_call ?_
  | with_reducible refine g_and ?_
  | with_reducible refine g_or ?_
  | with_reducible refine g_not ?_
  | with_reducible refine g_andV ?_
  | with_reducible refine g_orV ?_
  | with_reducible refine g_notV ?_
  | with_reducible refine g_if ?_
  | with_reducible refine g_un ?_
  | with_reducible refine g_neg ?_
  | with_reducible refine g_addI ?_
  | with_reducible refine g_subI ?_
  | with_reducible refine g_subB ?_
  | with_reducible refine g_I0 ?_
  | with_reducible refine g_cmpI ?_
  | with_reducible refine g_eqI ?_
  | with_reducible refine g_neI ?_
  | with_reducible refine g_eqS ?_
  | with_reducible refine g_neS ?_
  | with_reducible refine g_eqB ?_
  | with_reducible refine g_neB ?_
  | with_reducible refine g_bits ?_
  | with_reducible refine g_bitsI ?_
  | with_reducible refine g_fld ?_
  | with_reducible refine g_tup ?_
  | with_reducible refine g_lst ?_
  | with_reducible refine g_gtup ?_
  | with_reducible refine g_make ?_
  | with_reducible refine g_lc ?_
  | with_reducible refine g_yesT ?_
  | with_reducible refine g_intI ?_
  | with_reducible refine g_intB ?_
  | with_reducible refine g_max2 ?_
  | with_reducible refine g_abs1 ?_
  | with_reducible refine g_for ?_
  | with_reducible refine g_iList ?_
  | with_reducible refine g_iTup ?_
  | with_reducible refine g_iRng1 ?_
  | with_reducible refine g_iEnum ?_
  | with_reducible refine g_slice ?_
  | with_reducible refine g_po0 ?_
  | with_reducible refine g_po1 ?_
  | with_reducible refine g_gsub ?_
  | with_reducible refine g_par ?_
  | with_reducible refine g_par2 ?_
  | with_reducible refine g_rfl ?_
  | with_reducible refine g_meth ?_
  | with_reducible refine g_gcons ?_
  | with_reducible refine g_gnil ?_
  | with_reducible refine g_gfld ?_
  | with_reducible refine g_sfld ?_
  | with_reducible refine g_drop ?_
  | with_reducible refine g_next ?_
  | with_reducible refine iteT ?_
  | with_reducible refine iteF ?_)
local macro_rules | `(tactic| walk_at "go") => `(tactic| (repeat walk_at "u"))
local macro_rules | `(tactic| walk_at "t") => `(tactic| (repeat (first
  | walk_at "u"
  | with_reducible refine g_chain ?_
  | with_reducible refine g_par3 ?_
  | with_reducible refine g_par3' ?_
  | with_reducible refine g_augS ?_
  | with_reducible refine g_nt ?_
  | with_reducible refine g_nf ?_
  | with_reducible refine g_methK ?_
  | with_reducible refine g_makeK ?_
  | with_reducible refine g_iRng2 ?_
  | with_reducible refine g_bm ?_
  | with_reducible refine g_fldaug ?_
  | with_reducible refine g_iStr ?_
  | with_reducible refine g_ipI ?_
  | ((with_reducible show tAug _ _ _ _ _ _); refine ⟨_, rfl, ?_⟩)
  | ((with_reducible refine show_exT ?_); first
    | refine rdT3 (by assumption) (by assumption) ?_
    | refine rdT4 (by assumption) (by assumption) ?_
    | refine rdT5 (by assumption) (by assumption) ?_
    | refine rdT1 (by assumption) (by assumption) ?_
    | refine rdT2 (by assumption) (by assumption) ?_
    | refine rdN1 (by assumption) (by assumption) ?_
    | refine rdN2 (by assumption) (by assumption) ?_
    | refine rdN3 (by assumption) (by assumption) ?_
    | refine rdN4 (by assumption) (by assumption) ?_))))

/-- Table(meta=, nodes=, array=, number=) -/
def gTk {α : Type} : List α → List α → List α → List α → List α
  | us, _, _, [m, n, a, u] => us ++ [u, a, n, m]
  | us, _, _, _ => us
section
variable {P : Program} {w : World} {K : PySem.W.Frag} {mg : Str → Option Value} {base : Heap} {C D N : Addr} {H H' : Hp} {a : Addr} {num me : V} {F F' : Fp} {t t' : Tb Ky}
abbrev CTK (P : Program) (w : World) (K : PySem.W.Frag) (mg : Str → Option Value) (base : Heap) (D : Addr) : Prop := CnK P w K mg base CX0 2 "Table" D psT 0 ["meta", "nodes", "array", "number"] (fun vs zs => gTk vs [.int 0, .int 0] [] zs) (sp_Tinit D)
abbrev CPutK (P : Program) (w : World) (K : PySem.W.Frag) (mg : Str → Option Value) (base : Heap) (C D N : Addr) : Prop := MtK P w K mg base CX0 10 D "put" ["self", "key", "value"] 2 ["value"] (fun vs zs => vs ++ zs) (sp_putG C D N PutNF Rm4)
abbrev CMrK (P : Program) (w : World) (K : PySem.W.Frag) (mg : Str → Option Value) (base : Heap) (C D N : Addr) : Prop := MtK P w K mg base CX0 8 D "make_room" ["self", "count"] 1 ["count"] (fun vs zs => vs ++ zs) (sp_makeroom C D N)
abbrev CNext (P : Program) (w : World) (K : PySem.W.Frag) (mg : Str → Option Value) (base : Heap) (C D N : Addr) : Prop := Mt P w K mg base CX0 7 D "next_after" ["self", "key"] (sp_nextafter C D N)
theorem mkTK {Q : VK} {E : XK} {num me : V} {ar n : Nat} (z1 : ar ≤ 20000) (z2 : n ≤ 10000) (q : NewTb C D N num me ar n H Q) : MakeRK D (sp_Tinit D) (fun vs zs => gTk vs [.int 0, .int 0] [] zs) [] [me, .int n, .int ar, num] H Q E := fun x dx H1 n1 n2 ne s1 h1 k1 => mkT_of n1 n2 s1 h1 k1 z1 z2 q
abbrev s_Lnamesright : Stmt := top 47
theorem sc_Lnamesright : FnScope ["_law_well", "_law_table"] ["_law_well"] (defScope s_Lnamesright) := ⟨rfl, rfl, rfl, by decide +kernel, rfl, by decide +kernel, by decide +kernel⟩
def sp_Lnames : Sp := fun vs H Q _ => ∃ (wl : Addr), vs = [.ref wl] ∧ Wl H wl ∧ ∀ H', Stp wl H H' → Wl H' wl → Q (.bl true) H'
theorem ok_Lnames {f : Addr} {fd : FuncData} (F : FunD K "_law_names_right" "_law_names_right" (defArgs s_Lnamesright) (defBody s_Lnamesright) (defScope s_Lnamesright) [] [] f fd) (B : Blt mg) (c_Ldraw : CDr P w K mg base) (c_TableK : CTK P w K mg base D) (c_putK : CPutK P w K mg base C D N) (c_makeroomK : CMrK P w K mg base C D N) (c_get : CGet P w K mg base C D N) (c_nextafter : CNext P w K mg base C D N) (c_Lisborder : CIsB P w K mg base C D N) : FnOk P w K mg base CX0 11 f fd ["_law_well"] sp_Lnames := by
  refine F.ok sc_Lnamesright (fun vs H Q E h => ?_) (fun cdv A outer s H vs Q E hr h => ?_)
  · obtain ⟨_, rfl, _⟩ := h; rfl
  · obtain ⟨wl, rfl, hw, q⟩ := h
    refine ⟨_, PSs.nox (pss_cons (ps_set (i := 1) sc_Lnamesright.nd rfl (Or.inl rfl) (pe_cnK0 c_TableK (hr.mono (by first | decide | omega)) pass0 (pk_cons pe_non (pk_cons pe_int (pk_cons pe_int (pk_cons (pe_fn c_Ldraw (hr.mono (by first | decide | omega)) pass0 (pa_cons (pv 0) (pa_cons pe_int pa_nil))) pk_nil))))))
  (pss_cons (ps_expr (pe_mtK c_putK (hr.mono (by first | decide | omega)) pass0 (pv 1) (pa_cons pe_int pa_nil) (pk_cons pe_str pk_nil)))
  (pss_cons (ps_expr (pe_mtK0 c_makeroomK (hr.mono (by first | decide | omega)) pass0 (pv 1) (pk_cons (pe_op op_oAdd pe_int (pe_fn c_Ldraw (hr.mono (by first | decide | omega)) pass0 (pa_cons (pv 0) (pa_cons pe_int pa_nil)))) pk_nil)))
  (pss_one (ps_ret (pe_and (pe_cmpR (op_oEq hr.units) (pe_mt c_get (hr.mono (by first | decide | omega)) pass0 (pv 1) (pa_cons pe_int pa_nil)) pe_str (nomark _)) (pe_and (pe_cmpR (op_oEq hr.units) (pe_mt c_nextafter (hr.mono (by first | decide | omega)) pass0 (pv 1) (pa_cons pe_non pa_nil)) (pe_tupN (pa_cons pe_int (pa_cons pe_str pa_nil))) (nomark _)) (pe_one (pe_fn c_Lisborder (hr.mono (by first | decide | omega)) pass0 (pa_cons (pv 1) pa_nil)))))))))), ?_⟩
    walk_at "t"
    refine ⟨wl, _, rfl, by decide, by decide, hw, fun k1 H1 hk1 s1 hw1 => ?_⟩
    walk_at "t"
    refine ⟨rfl, rfl, mkTK (C := C) (N := N) (ar := 3) (n := 2) (by decide) (by decide) fun H2 a F2 n2 s2 ts2 f2 => ?_⟩
    have hw2 := hw1.same s2
    have o2 : ¬ F2.In a wl := fun z => by obtain ⟨o, e⟩ := hw1.ex; rw [f2 _ z] at e; cases e
    have st2 := Tst.new ts2 hw2 o2 (n := 0) (by rw [newT_lv]; exact Nat.le_refl _)
    obtain ⟨⟨dx2, ho2⟩, _⟩ := id ts2.at_
    walk_at "t"
    refine ⟨a, dx2, _, rfl, ho2, rfl, ?_⟩
    walk_at "t"
    refine ⟨rfl, rfl, ?_⟩
    refine g_put (u := .str "a") st2 (ky_int (i := 1) (lt_pow_mono (a := 1) (by decide) (by decide))) (fun z => (nomatch z)) rfl (by decide) fun H3 F3 t3 p3 st3 _ => ?_
    have e3 : t3 = ⟨[.str "a", .non, .non], [none, none], 2⟩ := by
      cases p3 with
      | ins i e h1 h2 => cases e; rfl
      | fnd r x ni _ _ => exact absurd ⟨1, rfl, by decide, by decide⟩ ni
      | skip ni _ _ => exact absurd ⟨1, rfl, by decide, by decide⟩ ni
      | new ni _ _ _ => exact absurd ⟨1, rfl, by decide, by decide⟩ ni
    subst e3
    obtain ⟨⟨dx3, ho3⟩, _⟩ := id st3.ts.at_
    walk_at "t"
    refine ⟨a, dx3, _, rfl, ho3, rfl, ?_⟩
    walk_at "t"
    refine ⟨wl, _, rfl, by decide, by decide, st3.w, fun k4 H4 hk4 s4 hw4 => ?_⟩
    have st4 := st3.stp s4 hw4
    walk_at "t"
    refine ⟨rfl, rfl, ?_⟩
    have e4 : (4 : Int) + (k4 : Int) = ((4 + k4 : Nat) : Int) := by omega
    rw [e4]
    refine ⟨a, _, _, 4 + k4, F3, _, rfl, st4.ts, by omega, .inr ⟨1, rfl⟩, fun H5 t5 hx lf => ?_⟩
    obtain ⟨F5, ts5, fr5, fs5⟩ := lf
    have e5 : t5 = ⟨padA [.str "a", .non, .non] (4 + k4), [none, none], 2⟩ := by
      rcases hx with ⟨_, rz⟩ | ⟨hn, _⟩
      · have ed : ([.str "a", .non, .non] : List V).drop (4 + k4) = [] := List.drop_of_length_le (by simp; omega)
        have et : ([.str "a", .non, .non] : List V).take (4 + k4) = [.str "a", .non, .non] := List.take_of_length_le (by simp; omega)
        cases rz with
        | mk h1 h2 =>
          simp only [ed, et] at h1
          have h1 : PutA KK _ [] _ := h1
          cases h1
          have h2 : PutA KK _ [] _ := h2
          cases h2
          rfl
      · exact absurd hn (by show ¬ 4 + k4 ≤ 3; omega)
    subst e5
    have hlv : lv (⟨padA [.str "a", .non, .non] (4 + k4), [none, none], 2⟩ : Tb Ky) ≤ 3000 := by
      rw [lv_eq]
      have h1 : (padA [.str "a", .non, .non] (4 + k4)).countP lvA ≤ (padA [.str "a", .non, .non] (4 + k4)).length := List.countP_le_length
      have h2 : (padA [V.str "a", .non, .non] (4 + k4)).length = 4 + k4 := by unfold padA; rw [List.length_append, List.length_replicate]; show 3 + (4 + k4 - 3) = _; omega
      have h3 : ([none, none] : Nds Ky).countP lvN ≤ 2 := List.countP_le_length
      show (padA [.str "a", .non, .non] (4 + k4)).countP lvA + ([none, none] : Nds Ky).countP lvN ≤ 3000
      omega
    have st5 := st4.left ts5 fr5 fs5 hlv
    obtain ⟨⟨dx5, ho5⟩, _⟩ := id ts5.at_
    have fin : ∀ {nm mm : V} {n6 : Nat} {t6 : Tb Ky} (H6 : Hp), Tst C D N a wl nm mm F2 H2 H6 n6 F5 t6 → Stp wl H H6 := fun H6 st b o hb e => by
      have e1 := s1 _ _ hb e
      refine st.fw b o hb (fun z => ?_) (s2 _ _ e1)
      have := f2 _ z
      rw [e1] at this; cases this
    walk_at "t"
    refine ⟨a, dx5, _, rfl, ho5, rfl, ?_⟩
    walk_at "t"
    refine g_getN (m := 1) ts5 (by decide) fun H6 s6 => ?_
    have st6 := st5.same s6
    rw [gt_arr (v := .str "a") (by decide) rfl]
    walk_at "t"
    refine g_yes rfl ?_
    obtain ⟨⟨dx6, ho6⟩, _⟩ := id st6.ts.at_
    walk_at "t"
    refine ⟨a, dx6, _, rfl, ho6, rfl, ?_⟩
    walk_at "t"
    refine ⟨a, _, _, _, ⟨.non, 0⟩, F5, _, rfl, st6.ts, ky_non, .inl rfl, fun H7 i s7 ix => ?_⟩
    have ei : i = 0 := by
      rcases ix with ⟨_, e⟩ | ⟨j, e, _⟩ | ⟨n, _⟩
      · exact e
      · cases e
      · exact absurd rfl n
    subst ei
    have en : nxtT (⟨padA [.str "a", .non, .non] (4 + k4), [none, none], 2⟩ : Tb Ky) 0 = some (.int 1, .str "a") := by
      unfold nxtT
      have el : (⟨padA [.str "a", .non, .non] (4 + k4), [none, none], 2⟩ : Tb Ky).arr.length + (⟨padA [.str "a", .non, .non] (4 + k4), [none, none], 2⟩ : Tb Ky).nds.length - 0 = (3 + (4 + k4 - 3) + 1) + 1 := by
        show (padA [V.str "a", .non, .non] (4 + k4)).length + 2 - 0 = _
        unfold padA
        rw [List.length_append, List.length_replicate]
        show 3 + (4 + k4 - 3) + 2 - 0 = _
        omega
      rw [el]
      have ee : ent (⟨padA [.str "a", .non, .non] (4 + k4), [none, none], 2⟩ : Tb Ky) 0 = some (.int 1, .str "a") := by
        unfold ent
        have h1 : 0 < (padA [V.str "a", .non, .non] (4 + k4)).length := by unfold padA; rw [List.length_append]; show 0 < 3 + _; omega
        rw [if_pos h1]
        have h2 : (padA [V.str "a", .non, .non] (4 + k4)).getD 0 .non = .str "a" := rfl
        show (if (padA [V.str "a", .non, .non] (4 + k4)).getD 0 .non = .non then none else some (V.int ((0 + 1 : Nat) : Int), (padA [V.str "a", .non, .non] (4 + k4)).getD 0 .non)) = _
        rw [h2, if_neg (fun z => nomatch z)]
        rfl
      rw [nxt, ee]
    rw [en]
    intro H8 p8 n8 s8 h8
    have st8 := (st6.same s7).same s8
    walk_at "t"
    refine g_new (sz rfl) fun p9 H9 n9 s9 h9 _ => ?_
    have st9 := st8.same s9
    refine .inr ⟨.tuple [.int 1, .str "a"], .tuple [.int 1, .str "a"], .tup (SqT.of (s9 _ _ h8)) (.cons (.int 1) (.cons (.str "a") .nil)), .tup (SqT.of h9) (.cons (.int 1) (.cons (.str "a") .nil)), by decide +kernel, by decide +kernel, ?_⟩
    have ev : PyData.eqv (.tuple [.int 1, .str "a"]) (.tuple [.int 1, .str "a"]) = true := by decide +kernel
    rw [ev]
    walk_at "t"
    refine g_isb st9 fun H10 st10 => ?_
    exact q H10 (fin H10 st10) st10.w
theorem ky_ins (L : Cl3 C D N) {v : V} {k : Ky} (hk : KyAt C D H v k) (s : ∀ (c C' dx : Addr) (fs : List (Str × V)), C' ≠ N → H c = some (.ins C' dx fs) → H' c = some (.ins C' dx fs)) : KyAt C D H' v k := by
  obtain ⟨x, no⟩ := k
  obtain ⟨h1, h2⟩ := hk
  refine ⟨?_, fun b e => ?_⟩
  · cases x with
    | num n =>
      cases n with
      | i j => exact h1
      | f s' tt p =>
        obtain ⟨⟨b, rfl, ⟨dx1, hf⟩, ok⟩, o⟩ := h1
        exact ⟨⟨b, rfl, ⟨dx1, s _ _ _ _ L.cn hf⟩, ok⟩, o⟩
    | obj b =>
      obtain ⟨e, dx1, fs, hb⟩ := h1
      exact ⟨e, dx1, fs, s _ _ _ _ L.dn hb⟩
    | non => exact h1
    | bl _ => exact h1
    | str _ => exact h1
  · obtain ⟨dx1, fs, e1, e2⟩ := h2 b e
    exact ⟨dx1, fs, s _ _ _ _ L.dn e1, e2⟩
theorem mem2 {x y v : V} (h : v ∈ [x, y]) : v = x ∨ v = y := by simpa using h
abbrev s_Lright : Stmt := top 48
theorem sc_Lright : FnScope ["_law_well", "_law_table", "_law_step", "_law_turn", "_law_spot", "_law_many", "_law_some"] ["_law_well"] (defScope s_Lright) := ⟨rfl, rfl, rfl, by decide +kernel, rfl, by decide +kernel, by decide +kernel⟩
theorem ok_Lright {f : Addr} {fd : FuncData} (F : FunD K "_law_right" "_law_right" (defArgs s_Lright) (defBody s_Lright) (defScope s_Lright) [] [] f fd) (B : Blt mg) (L : Cl3 C D N) (c_Ldraw : CDr P w K mg base) (c_Lpick : CPk P w K mg base) (c_Table : CT1 P w K mg base D) (c_Table3 : CT3 P w K mg base D) (c_put : CPut P w K mg base C D N) (c_border : CBorder P w K mg base C D N) (c_room : CRoom P w K mg base D N)
    (c_Lisborder : CIsB P w K mg base C D N) (c_Lnamesright : Fn P w K mg base CX0 11 "_law_names_right" ["_law_well"] [] sp_Lnames) (c_Lfar : Fn P w K mg base CX0 11 "_law_far" ["_law_well", "_law_table"] [] (sp_Lfar C D N)) : FnOk P w K mg base CX0 12 f fd ["_law_well"] sp_Lright := by
  refine F.ok sc_Lright (fun vs H Q E h => ?_) (fun cdv A outer s H vs Q E hr h => ?_)
  · obtain ⟨_, rfl, _⟩ := h; rfl
  · obtain ⟨wl, rfl, hw, q⟩ := h
    refine ⟨_, PSs.nox (pss_cons (ps_if (pt_not (pt_val (pe_fn c_Lnamesright (hr.mono (by first | decide | omega)) pass0 (pa_cons (pv 0) pa_nil)))) (pss_one (ps_ret pe_bl)) pss_nil)
  (pss_cons (ps_par (i := 1) (j := 2) rfl sc_Lright.nd rfl rfl (by decide) rfl rfl (pa_cons (pe_cn c_Table3 (hr.mono (by first | decide | omega)) pass0 (pa_cons pe_int (pa_cons (pe_fn c_Lpick (hr.mono (by first | decide | omega)) pass0 (pa_cons (pv 0) (pa_cons (pe_lstN (pa_cons pe_int (pa_cons pe_int (pa_cons pe_int (pa_cons pe_int pa_nil))))) pa_nil))) (pa_cons (pe_fn c_Lpick (hr.mono (by first | decide | omega)) pass0 (pa_cons (pv 0) (pa_cons (pe_lstN (pa_cons pe_int (pa_cons pe_int pa_nil))) pa_nil))) pa_nil)))) (pa_cons (pe_op op_oAdd pe_int (pe_fn c_Ldraw (hr.mono (by first | decide | omega)) pass0 (pa_cons (pv 0) (pa_cons pe_int pa_nil)))) pa_nil)) (by rfl))
  (pss_cons (ps_if (pt_not (pt_val (pe_fn c_Lisborder (hr.mono (by first | decide | omega)) pass0 (pa_cons (pv 1) pa_nil)))) (pss_one (ps_ret pe_bl)) pss_nil)
  (pss_cons (ps_for PassesOwn.never rfl (pi_range1 (by rfl) B.range (pa_cons (pe_fn c_Ldraw (hr.mono (by first | decide | omega)) pass0 (pa_cons (pv 0) (pa_cons pe_int pa_nil))) pa_nil)) (pg_name (i := 3) sc_Lright.nd rfl (Or.inl rfl))
    (pss_cons (ps_set (i := 4) sc_Lright.nd rfl (Or.inl rfl) (pe_fn c_Lpick (hr.mono (by first | decide | omega)) pass0 (pa_cons (pv 0) (pa_cons (pe_lstN (pa_cons (pe_op op_oAdd (pe_op op_oMul (pv 3) (pv 2)) pe_int) (pa_cons (pe_op op_oAdd (pv 3) pe_int) (pa_cons (pe_op op_oAdd pe_int (pe_fn c_Ldraw (hr.mono (by first | decide | omega)) pass0 (pa_cons (pv 0) (pa_cons pe_int pa_nil)))) (pa_cons pe_str (pa_cons (pe_un un_neg (pv 3)) pa_nil)))))) pa_nil))))
  (pss_cons (ps_expr (pe_mt c_put (hr.mono (by first | decide | omega)) pass0 (pv 1) (pa_cons (pv 4) (pa_cons (pe_fn c_Lpick (hr.mono (by first | decide | omega)) pass0 (pa_cons (pv 0) (pa_cons (pe_lstN (pa_cons (pv 3) (pa_cons (pv 3) (pa_cons (pv 3) (pa_cons pe_non pa_nil))))) pa_nil))) pa_nil))))
  (pss_one (ps_if (pt_not (pt_val (pe_fn c_Lisborder (hr.mono (by first | decide | omega)) pass0 (pa_cons (pv 1) pa_nil)))) (pss_one (ps_ret pe_bl)) pss_nil)))))
  (pss_cons (ps_for PassesOwn.never rfl (pi_range1 (by rfl) B.range (pa_cons pe_int pa_nil)) (pg_name (i := 3) sc_Lright.nd rfl (Or.inl rfl))
    (pss_cons (ps_set (i := 5) sc_Lright.nd rfl (Or.inl rfl) (pe_mt0 c_border (hr.mono (by first | decide | omega)) pass0 (pv 1)))
  (pss_cons (ps_set (i := 6) sc_Lright.nd rfl (Or.inl rfl) (pe_lstN (pa_cons (pv 5) (pa_cons (pe_op op_oAdd (pv 5) pe_int) (pa_cons (pe_ix ix_seq (pe_mt0 c_room (hr.mono (by first | decide | omega)) pass0 (pv 1)) pe_int (fun _ _ => rfl)) (pa_cons (pe_op op_oAdd pe_int (pe_fn c_Ldraw (hr.mono (by first | decide | omega)) pass0 (pa_cons (pv 0) (pa_cons pe_int pa_nil)))) pa_nil))))))
  (pss_cons (ps_expr (pe_mt c_put (hr.mono (by first | decide | omega)) pass0 (pv 1) (pa_cons (pe_fn c_Lpick (hr.mono (by first | decide | omega)) pass0 (pa_cons (pv 0) (pa_cons (pv 6) pa_nil))) (pa_cons (pe_fn c_Lpick (hr.mono (by first | decide | omega)) pass0 (pa_cons (pv 0) (pa_cons (pe_lstN (pa_cons pe_non (pa_cons pe_int pa_nil))) pa_nil))) pa_nil))))
  (pss_one (ps_if (pt_not (pt_val (pe_fn c_Lisborder (hr.mono (by first | decide | omega)) pass0 (pa_cons (pv 1) pa_nil)))) (pss_one (ps_ret pe_bl)) pss_nil))))))
  (pss_one (ps_ret (pe_and (pe_fn c_Lfar (hr.mono (by first | decide | omega)) pass0 (pa_cons (pv 0) (pa_cons (pe_cn c_Table (hr.mono (by first | decide | omega)) pass0 (pa_cons pe_int pa_nil)) pa_nil))) (pe_one (pe_fn c_Lfar (hr.mono (by first | decide | omega)) pass0 (pa_cons (pv 0) (pa_cons (pv 1) pa_nil)))))))))))), ?_⟩
    walk_at "t"
    refine ⟨wl, rfl, hw, fun H1 s1 hw1 => ?_⟩
    walk_at "t"
    refine g_new (sz rfl) fun p2 H2 n2 s2 h2 _ => ?_
    walk_at "t"
    refine ⟨wl, p2, _, rfl, hw1.same s2, h2, hw1.nn n2, by simp, by simp, fun v3 H3 hv3 s3 hw3 => ?_⟩
    obtain ⟨ar, rfl, har⟩ : ∃ ar : Nat, v3 = .int ar ∧ ar ≤ 8 := by
      simp only [List.mem_cons, List.not_mem_nil, or_false] at hv3
      rcases hv3 with rfl | rfl | rfl | rfl
      · exact ⟨0, rfl, by decide⟩
      · exact ⟨0, rfl, by decide⟩
      · exact ⟨3, rfl, by decide⟩
      · exact ⟨8, rfl, by decide⟩
    walk_at "t"
    refine g_new (sz rfl) fun p4 H4 n4 s4 h4 _ => ?_
    walk_at "t"
    refine ⟨wl, p4, _, rfl, hw3.same s4, h4, hw3.nn n4, by simp, by simp, fun v5 H5 hv5 s5 hw5 => ?_⟩
    obtain ⟨nn5, rfl, hnn⟩ : ∃ ar : Nat, v5 = .int ar ∧ ar ≤ 4 := by
      rcases mem2 hv5 with rfl | rfl
      · exact ⟨0, rfl, by decide⟩
      · exact ⟨4, rfl, by decide⟩
    walk_at "t"
    refine mkT3 (C := C) (N := N) (by omega) (by omega) fun H6 a F6 n6 s6 ts6 f6 => ?_
    have hw6 := hw5.same s6
    have o6 : ¬ F6.In a wl := fun z => by obtain ⟨o, e⟩ := hw5.ex; rw [f6 _ z] at e; cases e
    have s05 : Stp wl H H5 := ((s1.trans ((Stp.of s2).trans s3)).trans (Stp.of s4)).trans s5
    have st6 := Tst.new ts6 hw6 o6 (n := 0) (by rw [newT_lv]; exact Nat.le_refl _)
    have fin : ∀ {F7 : Fp} {n7 : Nat} {t7 : Tb Ky} (H7 : Hp), Tst C D N a wl (.int 3) .non F6 H6 H7 n7 F7 t7 → Stp wl H H7 := fun H7 st b o hb e => by
      have e1 := s05 _ _ hb e
      refine st.fw b o hb (fun z => ?_) (s6 _ _ e1)
      have := f6 _ z
      rw [e1] at this; cases this
    walk_at "t"
    refine g_drw st6 (by decide) (by decide) fun k7 H7 hk7 _ st7 => ?_
    walk_at "t"
    refine g_isb st7 fun H8 st8 => ?_
    walk_at "t"
    refine g_drw st8 (by decide) (by decide) fun k9 H9 hk9 _ st9 => ?_
    walk_at "t"
    refine ⟨by omega, by omega, ?_⟩
    rw [Int.toNat_natCast]
    have e7 : (1 : Int) + (k7 : Int) = ((1 + k7 : Nat) : Int) := by omega
    rw [e7]
    refine for_range (lo := 0) (n := k9) (fun i σ' H' => i ≤ k9 ∧ ∃ F' t' e3 e4 e5 e6, σ' = [some (.ref wl), some (.ref a), some (.int ((1 + k7 : Nat) : Int)), e3, e4, e5, e6] ∧ Tst C D N a wl (.int 3) .non F6 H6 H' i F' t') ⟨Nat.zero_le _, _, _, _, _, _, _, rfl, st9⟩ ?_ ?_
    · rintro i _ H10 hi ⟨_, F10, t10, e3, e4, e5, e6, rfl, st10⟩
      walk_at "t"
      rw [Int.zero_add]
      refine g_mulI (.of_left (intBits_le_64 (by omega) (by omega))) ?_
      walk_at "t"
      refine g_drw st10 (by decide) (by decide) fun k11 H11 hk11 _ st11 => ?_
      walk_at "t"
      refine g_new (sz rfl) fun p12 H12 n12 s12 h12 _ => ?_
      have st12 := st11.same s12
      walk_at "t"
      refine g_pck st12 h12 (st11.w.nn n12) (by simp) (by simp) fun v H13 hv _ st13 => ?_
      have hv : EasyK v := by
        simp only [List.mem_cons, List.not_mem_nil, or_false] at hv
        have b64 : ∀ z : Int, z.natAbs < 100000 → EasyK (.int z) := fun z hz => easy_int (Nat.lt_trans hz (by decide))
        have hm : ((i : Int) * ((1 + k7 : Nat) : Int)).natAbs ≤ 60 * 4 := by
          rw [Int.natAbs_mul]
          exact Nat.mul_le_mul (by omega) (by omega)
        rcases hv with rfl | rfl | rfl | rfl | rfl
        · exact b64 _ (by omega)
        · exact b64 _ (by omega)
        · exact b64 _ (by omega)
        · exact .inr (.inl ⟨_, rfl⟩)
        · exact b64 _ (by omega)
      obtain ⟨k, y1, y2, y3, y4, y5⟩ := hv.ky
      obtain ⟨⟨dx, ho⟩, _⟩ := id st13.ts.at_
      walk_at "t"
      refine ⟨a, dx, _, rfl, ho, rfl, ?_⟩
      walk_at "t"
      refine g_new (sz rfl) fun p14 H14 n14 s14 h14 _ => ?_
      have st14 := st13.same s14
      walk_at "t"
      refine g_pck st14 h14 (st13.w.nn n14) (by simp) (by simp) fun u H15 hu _ st15 => ?_
      walk_at "t"
      refine g_put st15 (y5 _ _ _) y1 y2 (by omega) fun H16 F16 t16 _ st16 _ => ?_
      walk_at "t"
      refine g_isb st16 fun H17 st17 => ?_
      walk_at "t"
      exact ⟨by omega, F16, t16, some (.int i), some v, e5, e6, rfl, st17⟩
    · rintro _ H10 ⟨_, F10, t10, e3, e4, e5, e6, rfl, st10⟩
      walk_at "t"
      refine ⟨by decide, by decide, ?_⟩
      refine for_range (lo := 0) (n := 12) (fun i σ' H' => i ≤ 12 ∧ ∃ F' t' e3 e4 e5 e6, σ' = [some (.ref wl), some (.ref a), some (.int ((1 + k7 : Nat) : Int)), e3, e4, e5, e6] ∧ Tst C D N a wl (.int 3) .non F6 H6 H' (k9 + i) F' t') ⟨Nat.zero_le _, _, _, _, _, _, _, rfl, st10⟩ ?_ ?_
      · rintro i _ H11 hi ⟨_, F11, t11, e3, e4, e5, e6, rfl, st11⟩
        obtain ⟨⟨dx, ho⟩, _⟩ := id st11.ts.at_
        have hsa := st11.ts.sa
        obtain ⟨_, _, hb3⟩ := brT_ok hsa
        walk_at "t"
        refine ⟨a, dx, _, rfl, ho, rfl, ?_⟩
        walk_at "t"
        refine ⟨a, _, _, F11, t11, rfl, st11.ts, fun H12 s12 => ?_⟩
        have st12 := st11.same s12
        walk_at "t"
        refine ⟨a, dx, _, rfl, s12 _ _ ho, rfl, ?_⟩
        walk_at "t"
        refine ⟨a, _, _, F11, t11, rfl, st12.ts.at_, fun H13 p13 n13 s13 h13 => ?_⟩
        have st13 := st12.same s13
        walk_at "t"
        refine g_ixT h13 rfl ?_
        walk_at "t"
        refine g_drw st13 (by decide) (by decide) fun k14 H14 hk14 _ st14 => ?_
        walk_at "t"
        refine g_new (sz rfl) fun p15 H15 n15 s15 h15 _ => ?_
        have st15 := st14.same s15
        have np15 := st14.w.nn n15
        obtain ⟨⟨dx15, ho15⟩, _⟩ := id st15.ts.at_
        walk_at "t"
        refine ⟨a, dx15, _, rfl, ho15, rfl, ?_⟩
        walk_at "t"
        refine g_pck st15 h15 np15 (by simp) (by simp) fun v H16 hv _ st16 => ?_
        have hv : EasyK v := by
          simp only [List.mem_cons, List.not_mem_nil, or_false] at hv
          rcases hv with rfl | rfl | rfl | rfl
          · exact easy_int (by omega)
          · exact easy_int (by omega)
          · exact easy_int (by omega)
          · exact easy_int (by omega)
        obtain ⟨k, y1, y2, y3, y4, y5⟩ := hv.ky
        walk_at "t"
        refine g_new (sz rfl) fun p17 H17 n17 s17 h17 _ => ?_
        have st17 := st16.same s17
        walk_at "t"
        refine g_pck st17 h17 (st16.w.nn n17) (by simp) (by simp) fun u H18 hu _ st18 => ?_
        walk_at "t"
        refine g_put st18 (y5 _ _ _) y1 y2 (by omega) fun H19 F19 t19 _ st19 _ => ?_
        walk_at "t"
        refine g_isb st19 fun H20 st20 => ?_
        walk_at "t"
        exact ⟨by omega, F19, t19, some (.int (0 + i)), e4, some (.int (brT t11 : Nat)), some (.ref p15), rfl, st20⟩
      · rintro _ H11 ⟨_, F11, t11, e3, e4, e5, e6, rfl, st11⟩
        walk_at "t"
        refine mkT1 (C := C) (N := N) fun H12 b F12 n12 s12 ts12 f12 => ?_
        have st12 := st11.same s12
        have o12 : ¬ F12.In b wl := fun z => by obtain ⟨o, e⟩ := st11.w.ex; rw [f12 _ z] at e; cases e
        have su12 := Tst.new ts12 st12.w o12 (n := 0) (by rw [newT_lv]; exact Nat.le_refl _)
        walk_at "t"
        refine ⟨b, wl, _, _, F12, F12, H12, 0, _, rfl, su12, by decide, fun H13 F13 t13 su13 => ?_⟩
        -- the first table stands
        have dis : ∀ c, F11.In a c → c ≠ wl ∧ ¬ F12.In b c := fun c hc => ⟨fun z => st11.out (z ▸ hc), fun z => by
          obtain ⟨o, e⟩ := st11.ts.at_.inS hc
          rw [f12 _ z] at e; cases e⟩
        have st13 : Tst C D N a wl (.int 3) .non F6 H6 H13 (k9 + 12) F11 t11 := by
          have nots : ∀ c o, (∃ C' dx fs, o = .ins C' dx fs ∧ C' ≠ N) → H11 c = some o → H13 c = some o := fun c o ⟨C', dx', fs', eo, hN⟩ e => by
            have e2 := s12 _ _ e
            refine su13.fw c o (fun z => ?_) (fun z => ?_) e2
            · rw [eo, z] at e; exact (st11.w.ni e) rfl
            · have := f12 _ z; rw [e] at this; cases this
          have own : ∀ c o, F11.In a c → H11 c = some o → H13 c = some o := fun c o hc e => su13.fw c o (dis c hc).1 (dis c hc).2 (s12 _ _ e)
          have at13 : TbAt D N H13 a (.int 3) .non F11 t11 := by
            have inn := fun c (hc : V.ref c ∈ F11.vs) => st11.ts.at_.inN hc
            obtain ⟨⟨dx, h1⟩, h2, h3, h4, h5, h6, h7⟩ := st11.ts.at_
            refine ⟨⟨dx, own _ _ (.inl rfl) h1⟩, own _ _ (.inr (.inl rfl)) h2, own _ _ (.inr (.inr (.inl rfl))) h3, h4, fun i v e => ?_, h6, h7⟩
            have := h5 i v e
            cases en : nd t11.nds i with
            | none => rw [en] at this; exact this
            | some x =>
              rw [en] at this
              obtain ⟨c, dxb, rfl, hb⟩ := this
              exact ⟨c, dxb, rfl, own _ _ (.inr (.inr (.inr (List.mem_of_getElem? e)))) hb⟩
          have fr : Frm a F11 H11 H13 ∨ True := .inr trivial
          refine ⟨⟨at13, st11.ts.wf, fun i x e => ⟨?_, (st11.ts.keys i x e).2⟩, st11.ts.sa, st11.ts.sn⟩, su13.w, st11.w0, st11.out0, fun c o h1 h2 e => ?_, st11.fs, st11.lv⟩
          · refine ky_ins L (st11.ts.keys i x e).1 fun c C' dx' fs' hN e => nots c _ ⟨C', dx', fs', rfl, hN⟩ e
          · have e1 := st11.fw c o h1 h2 e
            refine su13.fw c o h1 (fun z => ?_) (s12 _ _ e1)
            have := f12 _ z
            rw [e1] at this; cases this
        walk_at "t"
        refine ⟨a, wl, _, _, F6, F11, H6, k9 + 12, t11, rfl, st13, by omega, fun H14 F14 t14 st14 => ?_⟩
        exact q H14 (fin H14 st14) st14.w
end
end Up

set_option Elab.async false
set_option linter.all false
set_option pp.maxSteps 600
set_option maxRecDepth 100000
set_option maxHeartbeats 4000000
set_option exponentiation.threshold 200000
namespace Up
open PySem PySem.Spec PyProof.Rows L2
local macro_rules | `(tactic| walk_at "u") => `(tactic| first
  | with_reducible refine g_seq ?_
  | with_reducible refine g_asg ?_
  | with_reducible refine g_op ?_
  | ((with_reducible show tVar _ _ _ _); apply g_var; exact rfl)
  | with_reducible refine g_c ?_
  | with_reducible refine g_name ?_
  | with_reducible refine g_ifs ?_
  | with_reducible refine g_tt ?_
  | with_reducible refine g_tB ?_
  | with_reducible refine g_bl ?_
  | with_reducible refine g_ret ?_
  | with_reducible refine g_cb ?_
  | with_reducible refine g_cons ?_
  | with_reducible refine g_nil ?_
  | with_reducible refine g_call ?_
  | with_reducible refine g_and ?_
  | with_reducible refine g_or ?_
  | with_reducible refine g_not ?_
  | with_reducible refine g_andV ?_
  | with_reducible refine g_orV ?_
  | with_reducible refine g_notV ?_
  | with_reducible refine g_if ?_
  | with_reducible refine g_un ?_
  | with_reducible refine g_neg ?_
  | with_reducible refine g_addI ?_
  | with_reducible refine g_subI ?_
  | with_reducible refine g_subB ?_
  | with_reducible refine g_I0 ?_
  | with_reducible refine g_cmpI ?_
  | with_reducible refine g_eqI ?_
  | with_reducible refine g_neI ?_
  | with_reducible refine g_eqS ?_
  | with_reducible refine g_neS ?_
  | with_reducible refine g_eqB ?_
  | with_reducible refine g_neB ?_
  | with_reducible refine g_bits ?_
  | with_reducible refine g_bitsI ?_
  | with_reducible refine g_fld ?_
  | with_reducible refine g_tup ?_
  | with_reducible refine g_lst ?_
  | with_reducible refine g_gtup ?_
  | with_reducible refine g_make ?_
  | with_reducible refine g_lc ?_
  | with_reducible refine g_yesT ?_
  | with_reducible refine g_intI ?_
  | with_reducible refine g_intB ?_
  | with_reducible refine g_max2 ?_
  | with_reducible refine g_abs1 ?_
  | with_reducible refine g_for ?_
  | with_reducible refine g_iList ?_
  | with_reducible refine g_iTup ?_
  | with_reducible refine g_iRng1 ?_
  | with_reducible refine g_iEnum ?_
  | with_reducible refine g_slice ?_
  | with_reducible refine g_po0 ?_
  | with_reducible refine g_po1 ?_
  | with_reducible refine g_gsub ?_
  | with_reducible refine g_par ?_
  | with_reducible refine g_par2 ?_
  | with_reducible refine g_rfl ?_
  | with_reducible refine g_meth ?_
  | with_reducible refine g_gcons ?_
  | with_reducible refine g_gnil ?_
  | with_reducible refine g_gfld ?_
  | with_reducible refine g_sfld ?_
  | with_reducible refine g_drop ?_
  | with_reducible refine g_next ?_
  | with_reducible refine iteT ?_
  | with_reducible refine iteF ?_)
local macro_rules | `(tactic| walk_at "go") => `(tactic| (repeat walk_at "u"))
local macro_rules | `(tactic| walk_at "t") => `(tactic| (repeat (first
  | walk_at "u"
  | with_reducible refine g_chain ?_
  | with_reducible refine g_par3 ?_
  | with_reducible refine g_par3' ?_
  | with_reducible refine g_augS ?_
  | with_reducible refine g_nt ?_
  | with_reducible refine g_nf ?_
  | with_reducible refine g_methK ?_
  | with_reducible refine g_makeK ?_
  | with_reducible refine g_iRng2 ?_
  | with_reducible refine g_bm ?_
  | with_reducible refine g_fldaug ?_
  | with_reducible refine g_iStr ?_
  | with_reducible refine g_ipI ?_
  | ((with_reducible show tAug _ _ _ _ _ _); refine ⟨_, rfl, ?_⟩)
  | ((with_reducible refine show_exT ?_); first
    | refine rdT3 (by assumption) (by assumption) ?_
    | refine rdT4 (by assumption) (by assumption) ?_
    | refine rdT5 (by assumption) (by assumption) ?_
    | refine rdT1 (by assumption) (by assumption) ?_
    | refine rdT2 (by assumption) (by assumption) ?_
    | refine rdN1 (by assumption) (by assumption) ?_
    | refine rdN2 (by assumption) (by assumption) ?_
    | refine rdN3 (by assumption) (by assumption) ?_
    | refine rdN4 (by assumption) (by assumption) ?_))))

section
variable {P : Program} {w : World} {K : PySem.W.Frag} {mg : Str → Option Value} {base : Heap} {C D N : Addr}
abbrev s_law : Stmt := top 49
theorem sc_law : FnScope ["_law_script", "_law_k"] ["_law_script"] (defScope s_law) := ⟨rfl, rfl, rfl, by decide +kernel, rfl, by decide +kernel, by decide +kernel⟩
def spLaw (K : PySem.W.Frag) : Sp := fun vs H Q _ => ∃ (a : Addr) (ns : List Int), vs = [.ref a] ∧ SqL K H a (ns.map V.int) ∧ ns.length ≤ 63 ∧ ∀ H', Q (.bl true) H'
theorem ok_law {f : Addr} {fd : FuncData} {j : Nat} (F : FunD K "law" "law" (defArgs s_law) (defBody s_law) (defScope s_law) [] [] f fd) (B : Blt mg) (c_Lsource : Fn P w K mg base CX0 1 "_law_source" ["_law_script", "_law_k"] [] (sp_Lsource K)) (c_Lright : Fn P w K mg base CX0 (j + 1) "_law_right" ["_law_well"] [] sp_Lright) : FnOk P w K mg base CX0 (j + 2) f fd ["_law_script"] (spLaw K) := by
  refine F.ok sc_law (fun vs H Q E h => ?_) (fun cdv A outer s H vs Q E hr h => ?_)
  · obtain ⟨a, ns, rfl, _⟩ := h; rfl
  · obtain ⟨a, ns, rfl, hS, hlen, q⟩ := h
    refine ⟨_, PSs.nox (pss_cons (ps_for PassesOwn.never rfl (pi_range1 (by rfl) B.range (pa_cons (pe_callB (call_max2 rfl) (by rfl) B.max (by decide +kernel) (pa_cons pe_int (pa_cons (pe_callB (call_min2 rfl) (by rfl) B.min (by decide +kernel) (pa_cons pe_int (pa_cons (pe_callB call_len_seq (by rfl) B.len (by decide +kernel) (pa_cons (pv 0) pa_nil)) pa_nil))) pa_nil))) pa_nil)) (pg_name (i := 1) sc_law.nd rfl (Or.inl rfl))
    (pss_one (ps_if (pt_not (pt_val (pe_fn c_Lright (hr.mono (by first | decide | omega)) pass0 (pa_cons (pe_fn c_Lsource (hr.mono (by first | decide | omega)) pass0 (pa_cons (pv 0) (pa_cons (pv 1) pa_nil))) pa_nil)))) (pss_one (ps_ret pe_bl)) pss_nil)))
  (pss_one (ps_ret pe_bl))), ?_⟩
    walk_at "t"
    refine ⟨a, _, rfl, .inl hS, ?_⟩
    rw [List.length_map]
    walk_at "t"
    have e1 : (if (if ((ns.length : Nat) : Int) < 4 then ((ns.length : Nat) : Int) else 4) > 1 then (if ((ns.length : Nat) : Int) < 4 then ((ns.length : Nat) : Int) else 4) else 1) = ((max 1 (min 4 ns.length) : Nat) : Int) := by
      split <;> split at * <;> omega
    rw [e1]
    refine ⟨by omega, by omega, ?_⟩
    rw [Int.toNat_natCast]
    refine for_range (lo := 0) (n := max 1 (min 4 ns.length)) (fun i σ' H' => Same H H' ∧ ∃ e1, σ' = [some (.ref a), e1]) ⟨Same.refl _, _, rfl⟩ ?_ ?_
    · rintro i _ H1 hi ⟨s1, e1, rfl⟩
      walk_at "t"
      rw [Int.zero_add]
      refine ⟨a, ns, i, rfl, s1.seq hS, hlen, fun b H2 n2 s2 hw2 => ?_⟩
      walk_at "t"
      refine ⟨b, rfl, hw2, fun H3 s3 hw3 => ?_⟩
      walk_at "t"
      exact ⟨fun c o e => s3 _ _ (fun z => by have := s1 _ _ e; rw [z, n2] at this; cases this) (s2 _ _ (s1 _ _ e)), _, rfl⟩
    · rintro _ H1 ⟨s1, e1, rfl⟩
      walk_at "t"
      exact q _
end
end Up

set_option Elab.async false
set_option linter.all false
set_option maxRecDepth 100000
set_option maxHeartbeats 0
set_option pp.maxSteps 300
namespace Up
open PySem PySem.Spec PyProof.Rows L2
def d_isplain : He.DefD := ⟨("is_plain", none), "is_plain", "is_plain", defArgs s_isplain, defBody s_isplain, defScope s_isplain, [], []⟩
def d_reduced : He.DefD := ⟨("reduced", none), "reduced", "reduced", defArgs s_reduced, defBody s_reduced, defScope s_reduced, [], []⟩
def d_fits : He.DefD := ⟨("fits", none), "fits", "fits", defArgs s_fits, defBody s_fits, defScope s_fits, [], []⟩
def d_Float_init : He.DefD := ⟨("Float", some "__init__"), "__init__", "Float.__init__", defArgs s_Float_init, defBody s_Float_init, defScope s_Float_init, [], []⟩
def d_Float_ratio : He.DefD := ⟨("Float", some "ratio"), "ratio", "Float.ratio", defArgs s_Float_ratio, defBody s_Float_ratio, defScope s_Float_ratio, [], []⟩
def d_Float_isfinite : He.DefD := ⟨("Float", some "is_finite"), "is_finite", "Float.is_finite", defArgs s_Float_isfinite, defBody s_Float_isfinite, defScope s_Float_isfinite, [], []⟩
def d_isnumber : He.DefD := ⟨("is_number", none), "is_number", "is_number", defArgs s_isnumber, defBody s_isnumber, defScope s_isnumber, [], []⟩
def d_wholeof : He.DefD := ⟨("whole_of", none), "whole_of", "whole_of", defArgs s_wholeof, defBody s_wholeof, defScope s_wholeof, [], []⟩
def d_placeof0 : He.DefD := ⟨("place_of_numbers", none), "place_of", "place_of", defArgs s_placeof0, defBody s_placeof0, defScope s_placeof0, [], []⟩
def d_orderof : He.DefD := ⟨("order_of", none), "order_of", "order_of", defArgs s_orderof, defBody s_orderof, defScope s_orderof, [], []⟩
def d_same : He.DefD := ⟨("same", none), "same", "same", defArgs s_same, defBody s_same, defScope s_same, [], []⟩
def d_sumof : He.DefD := ⟨("sum_of", none), "sum_of", "sum_of", defArgs s_sumof, defBody s_sumof, defScope s_sumof, [], []⟩
def d_floatsum : He.DefD := ⟨("float_sum", none), "float_sum", "float_sum", defArgs s_floatsum, defBody s_floatsum, defScope s_floatsum, [], []⟩
def d_placeof1 : He.DefD := ⟨("place_of_tables", none), "place_of", "place_of", defArgs s_placeof1, defBody s_placeof1, defScope s_placeof1, [], []⟩
def d_plainkey : He.DefD := ⟨("plain_key", none), "plain_key", "plain_key", defArgs s_plainkey, defBody s_plainkey, defScope s_plainkey, [], []⟩
def d_isnan : He.DefD := ⟨("is_nan", none), "is_nan", "is_nan", defArgs s_isnan, defBody s_isnan, defScope s_isnan, [], []⟩
def d_iswhole : He.DefD := ⟨("is_whole", none), "is_whole", "is_whole", defArgs s_iswhole, defBody s_iswhole, defScope s_iswhole, [], []⟩
def d_powerfor : He.DefD := ⟨("power_for", none), "power_for", "power_for", defArgs s_powerfor, defBody s_powerfor, defScope s_powerfor, [], []⟩
def d_bestsize : He.DefD := ⟨("best_size", none), "best_size", "best_size", defArgs s_bestsize, defBody s_bestsize, defScope s_bestsize, [], []⟩
def d_Node_init : He.DefD := ⟨("Node", some "__init__"), "__init__", "Node.__init__", defArgs s_Node_init, defBody s_Node_init, defScope s_Node_init, [], []⟩
def d_Table_init : He.DefD := ⟨("Table", some "__init__"), "__init__", "Table.__init__", defArgs s_Table_init, defBody s_Table_init, defScope s_Table_init, [.int 0, .int 0], [("meta", .non)]⟩
def d_Table_find : He.DefD := ⟨("Table", some "find"), "find", "Table.find", defArgs s_Table_find, defBody s_Table_find, defScope s_Table_find, [], []⟩
def d_Table_isinside : He.DefD := ⟨("Table", some "is_inside"), "is_inside", "Table.is_inside", defArgs s_Table_isinside, defBody s_Table_isinside, defScope s_Table_isinside, [], []⟩
def d_Table_get : He.DefD := ⟨("Table", some "get"), "get", "Table.get", defArgs s_Table_get, defBody s_Table_get, defScope s_Table_get, [], []⟩
def d_Table_freeplace : He.DefD := ⟨("Table", some "free_place"), "free_place", "Table.free_place", defArgs s_Table_freeplace, defBody s_Table_freeplace, defScope s_Table_freeplace, [], []⟩
def d_Table_aheadof : He.DefD := ⟨("Table", some "ahead_of"), "ahead_of", "Table.ahead_of", defArgs s_Table_aheadof, defBody s_Table_aheadof, defScope s_Table_aheadof, [], []⟩
def d_Table_putnew : He.DefD := ⟨("Table", some "put_new"), "put_new", "Table.put_new", defArgs s_Table_putnew, defBody s_Table_putnew, defScope s_Table_putnew, [], []⟩
def d_Table_put : He.DefD := ⟨("Table", some "put"), "put", "Table.put", defArgs s_Table_put, defBody s_Table_put, defScope s_Table_put, [], []⟩
def d_Table_resize : He.DefD := ⟨("Table", some "resize"), "resize", "Table.resize", defArgs s_Table_resize, defBody s_Table_resize, defScope s_Table_resize, [], []⟩
def d_Table_grow : He.DefD := ⟨("Table", some "grow"), "grow", "Table.grow", defArgs s_Table_grow, defBody s_Table_grow, defScope s_Table_grow, [], []⟩
def d_Table_makeroom : He.DefD := ⟨("Table", some "make_room"), "make_room", "Table.make_room", defArgs s_Table_makeroom, defBody s_Table_makeroom, defScope s_Table_makeroom, [], []⟩
def d_Table_between : He.DefD := ⟨("Table", some "between"), "between", "Table.between", defArgs s_Table_between, defBody s_Table_between, defScope s_Table_between, [], []⟩
def d_Table_borderbeyond : He.DefD := ⟨("Table", some "border_beyond"), "border_beyond", "Table.border_beyond", defArgs s_Table_borderbeyond, defBody s_Table_borderbeyond, defScope s_Table_borderbeyond, [], []⟩
def d_Table_border : He.DefD := ⟨("Table", some "border"), "border", "Table.border", defArgs s_Table_border, defBody s_Table_border, defScope s_Table_border, [], []⟩
def d_Table_room : He.DefD := ⟨("Table", some "room"), "room", "Table.room", defArgs s_Table_room, defBody s_Table_room, defScope s_Table_room, [], []⟩
def d_Table_indexof : He.DefD := ⟨("Table", some "index_of"), "index_of", "Table.index_of", defArgs s_Table_indexof, defBody s_Table_indexof, defScope s_Table_indexof, [], []⟩
def d_Table_nextafter : He.DefD := ⟨("Table", some "next_after"), "next_after", "Table.next_after", defArgs s_Table_nextafter, defBody s_Table_nextafter, defScope s_Table_nextafter, [], []⟩
def d_Lmix : He.DefD := ⟨("_law_mix", none), "_law_mix", "_law_mix", defArgs s_Lmix, defBody s_Lmix, defScope s_Lmix, [], []⟩
def d_Lsource : He.DefD := ⟨("_law_source", none), "_law_source", "_law_source", defArgs s_Lsource, defBody s_Lsource, defScope s_Lsource, [], []⟩
def d_Ldraw : He.DefD := ⟨("_law_draw", none), "_law_draw", "_law_draw", defArgs s_Ldraw, defBody s_Ldraw, defScope s_Ldraw, [], []⟩
def d_Lpick : He.DefD := ⟨("_law_pick", none), "_law_pick", "_law_pick", defArgs s_Lpick, defBody s_Lpick, defScope s_Lpick, [], []⟩
def d_Lhalved : He.DefD := ⟨("_law_halved", none), "_law_halved", "_law_halved", defArgs s_Lhalved, defBody s_Lhalved, defScope s_Lhalved, [], []⟩
def d_Lborder : He.DefD := ⟨("_law_border", none), "_law_border", "_law_border", defArgs s_Lborder, defBody s_Lborder, defScope s_Lborder, [], []⟩
def d_Lisborder : He.DefD := ⟨("_law_is_border", none), "_law_is_border", "_law_is_border", defArgs s_Lisborder, defBody s_Lisborder, defScope s_Lisborder, [], []⟩
def d_Lfar : He.DefD := ⟨("_law_far", none), "_law_far", "_law_far", defArgs s_Lfar, defBody s_Lfar, defScope s_Lfar, [], []⟩
def d_Lnamesright : He.DefD := ⟨("_law_names_right", none), "_law_names_right", "_law_names_right", defArgs s_Lnamesright, defBody s_Lnamesright, defScope s_Lnamesright, [], []⟩
def d_Lright : He.DefD := ⟨("_law_right", none), "_law_right", "_law_right", defArgs s_Lright, defBody s_Lright, defScope s_Lright, [], []⟩
def d_law : He.DefD := ⟨("law", none), "law", "law", defArgs s_law, defBody s_law, defScope s_law, [], []⟩
def hfn : List He.DefD := [d_isplain, d_reduced, d_fits, d_Float_init, d_Float_ratio, d_Float_isfinite, d_isnumber, d_wholeof, d_placeof0, d_orderof, d_same, d_sumof,
  d_floatsum, d_placeof1, d_plainkey, d_isnan, d_iswhole, d_powerfor, d_bestsize, d_Node_init, d_Table_init, d_Table_find, d_Table_isinside, d_Table_get,
  d_Table_freeplace, d_Table_aheadof, d_Table_putnew, d_Table_put, d_Table_resize, d_Table_grow, d_Table_makeroom, d_Table_between, d_Table_borderbeyond, d_Table_border, d_Table_room, d_Table_indexof,
  d_Table_nextafter, d_Lmix, d_Lsource, d_Ldraw, d_Lpick, d_Lhalved, d_Lborder, d_Lisborder, d_Lfar, d_Lnamesright, d_Lright, d_law]
def hglo : List Str := (["is_plain", "reduced", "fits", "is_number", "whole_of", "place_of_numbers", "order_of", "same", "sum_of", "float_sum", "place_of_tables", "plain_key"] : List Str) ++
  (["is_nan", "is_whole", "power_for", "best_size", "_law_mix", "_law_source", "_law_draw", "_law_pick", "_law_halved", "_law_border", "_law_is_border", "_law_far"] : List Str) ++
  (["_law_names_right", "_law_right", "law", "Float", "Table", "Node", "Native"] : List Str)
def hfa : List He.Fa := hglo.map He.Fa.glo ++ (bltNames.map He.Fa.free ++ [.int "LEAST" (-9223372036854775808), .int "MOST" (9223372036854775807), .int "ROOM" (9007199254740992), .int "LOWEST" (-1074), .int "TOO_GREAT" (1024), .int "MOST_PLACE" (2147483648), .int "LOW_HALF" (2147483647), .int "MOST_WHOLE" (9223372036854775807), .mkr "Float", .meth "Float" "ratio", .meth "Float" "is_finite", .mkr "Node", .mkr "Table", .meth "Table" "find", .meth "Table" "is_inside", .meth "Table" "get", .meth "Table" "free_place", .meth "Table" "ahead_of", .meth "Table" "put_new", .meth "Table" "put", .meth "Table" "resize", .meth "Table" "grow", .meth "Table" "make_room", .meth "Table" "between", .meth "Table" "border_beyond", .meth "Table" "border", .meth "Table" "room", .meth "Table" "index_of", .meth "Table" "next_after"])
def hex (K : PySem.W.Frag) : Bool := ownB K (He.ga K "Float") && (noB K (He.ga K "Float") ["sign", "top", "power"] && (kitB' K (He.ga K "Float") true [.ref (He.ga K "Float")] &&
  (kitB' K (He.ga K "Float") false [.type "int", .type "bool", .type "str", .type "NoneType", .type "list", .type "tuple", .type "dict", .ref (He.ga K "Table")] &&
  (ownB K (He.ga K "Table") && (noB K (He.ga K "Table") ["number", "meta", "array", "nodes", "free"] && (idB K (He.ga K "Table") && (ownB K (He.ga K "Node") && (noB K (He.ga K "Node") ["key", "value", "link", "is_dead"] &&
  (kitB' K (He.ga K "Native") false [.ref (He.ga K "Table")] && (decide (He.ga K "Float" ≠ He.ga K "Table") && (decide (He.ga K "Float" ≠ He.ga K "Node") && decide (He.ga K "Table" ≠ He.ga K "Node"))))))))))))
abbrev hR : PySem.W.OpenRow := PySem.W.OpenLaw.row PySem.Challenge.rw_upvalues_k12_whole_borders_of_tables
abbrev hk : PySem.W.Hook := He.hookX 5 hfa hfn [] [] hex
def hob (s : PySem.W.SharedT) : He.AlX := He.obsX 5 hfa hfn [] [] hex (HandSHeadRun.getT s)
theorem hob_eq (s : PySem.W.SharedT) : hob s = hk.obs s.abs := He.obsX_eq (HandSHeadRun.getT_eq s)
def hloose : List PySem.Str := (["_wall", "LuaError", "InvalidArgument", "Thrown", "Native", "LEAST", "MOST", "ROOM", "LOWEST", "TOO_GREAT", "Float", "is_plain", "reduced", "fits", "is_number", "whole_of", "order_of", "place_of", "place_of_numbers", "same", "MOST_PLACE", "LOW_HALF", "MOST_WHOLE", "sum_of", "float_sum", "place_of_tables", "plain_key", "is_nan", "is_whole", "power_for"] : List PySem.Str) ++ (["best_size", "Node", "Table", "_law_mix", "_law_source", "_law_draw", "_law_pick", "_law_halved", "_law_border", "_law_is_border", "_law_far", "_law_names_right", "_law_right"] : List PySem.Str)
theorem hrun (w : World) : HandSHeadRun.RunEq hR (PySem.W.view hR.prog [49]) hk hob 6000 hloose w := by
  intro os
  kernel_rfl
end Up

set_option Elab.async false
set_option linter.all false
set_option maxRecDepth 100000
set_option maxHeartbeats 0
set_option pp.maxSteps 300
namespace Up
open PySem PySem.Spec PyProof.Rows L2
theorem facts {P : Program} {w : World} {K : PySem.W.Frag} {h : Heap} {mg : Str → Option Value} {f : Addr} (X : K.In h) (G : h.Ns mainGlobals mg) (hfa' : mg ("law" : Str) = some (.ref f)) (cs : He.SaysX hfa hfn [] [] hex w h K) :
    ∃ fd : FuncData, (∀ (s : Shared) (v : Value), BindsTo s fd ⟨[v], []⟩ [("_law_script", v)]) ∧ ∀ base : Heap, K.In base → base.Ns mainGlobals mg → FnOk P w K mg base CX0 13 f fd ["_law_script"] (spLaw K) := by
  have c := cs.t.d
  have glo : ∀ x ∈ hglo, mg x = some (.ref (He.ga K x)) := fun x hx => He.glo_ok X G (c.facts (f := .glo x) (List.mem_append_left _ (List.mem_map_of_mem hx)))
  have B : Blt mg := blt_of fun x hx => He.free_ok X G (c.facts (f := .free x) (List.mem_append_right _ (List.mem_append_left _ (List.mem_map_of_mem hx))))
  have i_LEAST : ∃ t, mg "LEAST" = some (.int (-9223372036854775808) t) := He.int_ok X G (c.facts (f := .int "LEAST" (-9223372036854775808)) (List.mem_append_right _ (List.mem_append_right _ (by simp))))
  have i_MOST : ∃ t, mg "MOST" = some (.int (9223372036854775807) t) := He.int_ok X G (c.facts (f := .int "MOST" (9223372036854775807)) (List.mem_append_right _ (List.mem_append_right _ (by simp))))
  have i_ROOM : ∃ t, mg "ROOM" = some (.int (9007199254740992) t) := He.int_ok X G (c.facts (f := .int "ROOM" (9007199254740992)) (List.mem_append_right _ (List.mem_append_right _ (by simp))))
  have i_LOWEST : ∃ t, mg "LOWEST" = some (.int (-1074) t) := He.int_ok X G (c.facts (f := .int "LOWEST" (-1074)) (List.mem_append_right _ (List.mem_append_right _ (by simp))))
  have i_TOO_GREAT : ∃ t, mg "TOO_GREAT" = some (.int (1024) t) := He.int_ok X G (c.facts (f := .int "TOO_GREAT" (1024)) (List.mem_append_right _ (List.mem_append_right _ (by simp))))
  have i_MOST_PLACE : ∃ t, mg "MOST_PLACE" = some (.int (2147483648) t) := He.int_ok X G (c.facts (f := .int "MOST_PLACE" (2147483648)) (List.mem_append_right _ (List.mem_append_right _ (by simp))))
  have i_LOW_HALF : ∃ t, mg "LOW_HALF" = some (.int (2147483647) t) := He.int_ok X G (c.facts (f := .int "LOW_HALF" (2147483647)) (List.mem_append_right _ (List.mem_append_right _ (by simp))))
  have i_MOST_WHOLE : ∃ t, mg "MOST_WHOLE" = some (.int (9223372036854775807) t) := He.int_ok X G (c.facts (f := .int "MOST_WHOLE" (9223372036854775807)) (List.mem_append_right _ (List.mem_append_right _ (by simp))))
  have mk_Float := He.mkr_ok (c.facts (f := .mkr "Float") (List.mem_append_right _ (List.mem_append_right _ (by simp))))
  have mt_Float_ratio := He.meth_ok (c.facts (f := .meth "Float" "ratio") (List.mem_append_right _ (List.mem_append_right _ (by simp))))
  have mt_Float_isfinite := He.meth_ok (c.facts (f := .meth "Float" "is_finite") (List.mem_append_right _ (List.mem_append_right _ (by simp))))
  have mk_Node := He.mkr_ok (c.facts (f := .mkr "Node") (List.mem_append_right _ (List.mem_append_right _ (by simp))))
  have mk_Table := He.mkr_ok (c.facts (f := .mkr "Table") (List.mem_append_right _ (List.mem_append_right _ (by simp))))
  have mt_Table_find := He.meth_ok (c.facts (f := .meth "Table" "find") (List.mem_append_right _ (List.mem_append_right _ (by simp))))
  have mt_Table_isinside := He.meth_ok (c.facts (f := .meth "Table" "is_inside") (List.mem_append_right _ (List.mem_append_right _ (by simp))))
  have mt_Table_get := He.meth_ok (c.facts (f := .meth "Table" "get") (List.mem_append_right _ (List.mem_append_right _ (by simp))))
  have mt_Table_freeplace := He.meth_ok (c.facts (f := .meth "Table" "free_place") (List.mem_append_right _ (List.mem_append_right _ (by simp))))
  have mt_Table_aheadof := He.meth_ok (c.facts (f := .meth "Table" "ahead_of") (List.mem_append_right _ (List.mem_append_right _ (by simp))))
  have mt_Table_putnew := He.meth_ok (c.facts (f := .meth "Table" "put_new") (List.mem_append_right _ (List.mem_append_right _ (by simp))))
  have mt_Table_put := He.meth_ok (c.facts (f := .meth "Table" "put") (List.mem_append_right _ (List.mem_append_right _ (by simp))))
  have mt_Table_resize := He.meth_ok (c.facts (f := .meth "Table" "resize") (List.mem_append_right _ (List.mem_append_right _ (by simp))))
  have mt_Table_grow := He.meth_ok (c.facts (f := .meth "Table" "grow") (List.mem_append_right _ (List.mem_append_right _ (by simp))))
  have mt_Table_makeroom := He.meth_ok (c.facts (f := .meth "Table" "make_room") (List.mem_append_right _ (List.mem_append_right _ (by simp))))
  have mt_Table_between := He.meth_ok (c.facts (f := .meth "Table" "between") (List.mem_append_right _ (List.mem_append_right _ (by simp))))
  have mt_Table_borderbeyond := He.meth_ok (c.facts (f := .meth "Table" "border_beyond") (List.mem_append_right _ (List.mem_append_right _ (by simp))))
  have mt_Table_border := He.meth_ok (c.facts (f := .meth "Table" "border") (List.mem_append_right _ (List.mem_append_right _ (by simp))))
  have mt_Table_room := He.meth_ok (c.facts (f := .meth "Table" "room") (List.mem_append_right _ (List.mem_append_right _ (by simp))))
  have mt_Table_indexof := He.meth_ok (c.facts (f := .meth "Table" "index_of") (List.mem_append_right _ (List.mem_append_right _ (by simp))))
  have mt_Table_nextafter := He.meth_ok (c.facts (f := .meth "Table" "next_after") (List.mem_append_right _ (List.mem_append_right _ (by simp))))
  have ex := cs.more
  unfold hex at ex
  simp only [Bool.and_eq_true] at ex
  obtain ⟨x1, x2, x3, x4, x5, x6, x7, x8, x9, x10, x11, x12, x13⟩ := ex
  have T : FlC K mg (He.ga K "Float") := {
    own := ownB_ok x1, nS := noB_ok x2 (by simp), nT := noB_ok x2 (by simp), nP := noB_ok x2 (by simp), mg := glo "Float" (by simp [hglo]), yes := kitB'_ok x3 (by simp)
    fi := kitB'_ok x4 (by simp), fb := kitB'_ok x4 (by simp), fs := kitB'_ok x4 (by simp), fn := kitB'_ok x4 (by simp), fl := kitB'_ok x4 (by simp), ft := kitB'_ok x4 (by simp), fd := kitB'_ok x4 (by simp) }
  have O : ObC K (He.ga K "Float") (He.ga K "Table") := ⟨ownB_ok x5, kitB'_ok x4 (by simp)⟩
  have TT : TbC K mg (He.ga K "Table") := ⟨ownB_ok x5, noB_ok x6 (by simp), noB_ok x6 (by simp), noB_ok x6 (by simp), noB_ok x6 (by simp), noB_ok x6 (by simp), glo "Table" (by simp [hglo])⟩
  have TI := idB_ok x7
  have ON := ownB_ok x8
  have TN : NdC K mg (He.ga K "Node") := ⟨ON.cl, noB_ok x9 (by simp), noB_ok x9 (by simp), noB_ok x9 (by simp), noB_ok x9 (by simp), glo "Node" (by simp [hglo])⟩
  have NA : NaC K mg (He.ga K "Table") := ⟨_, glo "Native" (by simp [hglo]), kitB'_ok x10 (by simp)⟩
  have L : Cl3 (He.ga K "Float") (He.ga K "Table") (He.ga K "Node") := ⟨of_decide_eq_true x11, of_decide_eq_true x12, of_decide_eq_true x13⟩
  obtain ⟨f_isplain, F_isplain⟩ := c.defs (d := d_isplain) (by simp [hfn])
  obtain ⟨f_reduced, F_reduced⟩ := c.defs (d := d_reduced) (by simp [hfn])
  obtain ⟨f_fits, F_fits⟩ := c.defs (d := d_fits) (by simp [hfn])
  obtain ⟨f_Float_init, F_Float_init⟩ := c.defs (d := d_Float_init) (by simp [hfn])
  obtain ⟨f_Float_ratio, F_Float_ratio⟩ := c.defs (d := d_Float_ratio) (by simp [hfn])
  obtain ⟨f_Float_isfinite, F_Float_isfinite⟩ := c.defs (d := d_Float_isfinite) (by simp [hfn])
  obtain ⟨f_isnumber, F_isnumber⟩ := c.defs (d := d_isnumber) (by simp [hfn])
  obtain ⟨f_wholeof, F_wholeof⟩ := c.defs (d := d_wholeof) (by simp [hfn])
  obtain ⟨f_placeof0, F_placeof0⟩ := c.defs (d := d_placeof0) (by simp [hfn])
  obtain ⟨f_orderof, F_orderof⟩ := c.defs (d := d_orderof) (by simp [hfn])
  obtain ⟨f_same, F_same⟩ := c.defs (d := d_same) (by simp [hfn])
  obtain ⟨f_sumof, F_sumof⟩ := c.defs (d := d_sumof) (by simp [hfn])
  obtain ⟨f_floatsum, F_floatsum⟩ := c.defs (d := d_floatsum) (by simp [hfn])
  obtain ⟨f_placeof1, F_placeof1⟩ := c.defs (d := d_placeof1) (by simp [hfn])
  obtain ⟨f_plainkey, F_plainkey⟩ := c.defs (d := d_plainkey) (by simp [hfn])
  obtain ⟨f_isnan, F_isnan⟩ := c.defs (d := d_isnan) (by simp [hfn])
  obtain ⟨f_iswhole, F_iswhole⟩ := c.defs (d := d_iswhole) (by simp [hfn])
  obtain ⟨f_powerfor, F_powerfor⟩ := c.defs (d := d_powerfor) (by simp [hfn])
  obtain ⟨f_bestsize, F_bestsize⟩ := c.defs (d := d_bestsize) (by simp [hfn])
  obtain ⟨f_Node_init, F_Node_init⟩ := c.defs (d := d_Node_init) (by simp [hfn])
  obtain ⟨f_Table_init, F_Table_init⟩ := c.defs (d := d_Table_init) (by simp [hfn])
  obtain ⟨f_Table_find, F_Table_find⟩ := c.defs (d := d_Table_find) (by simp [hfn])
  obtain ⟨f_Table_isinside, F_Table_isinside⟩ := c.defs (d := d_Table_isinside) (by simp [hfn])
  obtain ⟨f_Table_get, F_Table_get⟩ := c.defs (d := d_Table_get) (by simp [hfn])
  obtain ⟨f_Table_freeplace, F_Table_freeplace⟩ := c.defs (d := d_Table_freeplace) (by simp [hfn])
  obtain ⟨f_Table_aheadof, F_Table_aheadof⟩ := c.defs (d := d_Table_aheadof) (by simp [hfn])
  obtain ⟨f_Table_putnew, F_Table_putnew⟩ := c.defs (d := d_Table_putnew) (by simp [hfn])
  obtain ⟨f_Table_put, F_Table_put⟩ := c.defs (d := d_Table_put) (by simp [hfn])
  obtain ⟨f_Table_resize, F_Table_resize⟩ := c.defs (d := d_Table_resize) (by simp [hfn])
  obtain ⟨f_Table_grow, F_Table_grow⟩ := c.defs (d := d_Table_grow) (by simp [hfn])
  obtain ⟨f_Table_makeroom, F_Table_makeroom⟩ := c.defs (d := d_Table_makeroom) (by simp [hfn])
  obtain ⟨f_Table_between, F_Table_between⟩ := c.defs (d := d_Table_between) (by simp [hfn])
  obtain ⟨f_Table_borderbeyond, F_Table_borderbeyond⟩ := c.defs (d := d_Table_borderbeyond) (by simp [hfn])
  obtain ⟨f_Table_border, F_Table_border⟩ := c.defs (d := d_Table_border) (by simp [hfn])
  obtain ⟨f_Table_room, F_Table_room⟩ := c.defs (d := d_Table_room) (by simp [hfn])
  obtain ⟨f_Table_indexof, F_Table_indexof⟩ := c.defs (d := d_Table_indexof) (by simp [hfn])
  obtain ⟨f_Table_nextafter, F_Table_nextafter⟩ := c.defs (d := d_Table_nextafter) (by simp [hfn])
  obtain ⟨f_Lmix, F_Lmix⟩ := c.defs (d := d_Lmix) (by simp [hfn])
  obtain ⟨f_Lsource, F_Lsource⟩ := c.defs (d := d_Lsource) (by simp [hfn])
  obtain ⟨f_Ldraw, F_Ldraw⟩ := c.defs (d := d_Ldraw) (by simp [hfn])
  obtain ⟨f_Lpick, F_Lpick⟩ := c.defs (d := d_Lpick) (by simp [hfn])
  obtain ⟨f_Lhalved, F_Lhalved⟩ := c.defs (d := d_Lhalved) (by simp [hfn])
  obtain ⟨f_Lborder, F_Lborder⟩ := c.defs (d := d_Lborder) (by simp [hfn])
  obtain ⟨f_Lisborder, F_Lisborder⟩ := c.defs (d := d_Lisborder) (by simp [hfn])
  obtain ⟨f_Lfar, F_Lfar⟩ := c.defs (d := d_Lfar) (by simp [hfn])
  obtain ⟨f_Lnamesright, F_Lnamesright⟩ := c.defs (d := d_Lnamesright) (by simp [hfn])
  obtain ⟨f_Lright, F_Lright⟩ := c.defs (d := d_Lright) (by simp [hfn])
  obtain ⟨f_law, F_law⟩ := c.defs (d := d_law) (by simp [hfn])
  have e := hfa'.symm.trans (glo "law" (by simp [hglo]))
  cases e
  have b := FunD.bindsA (ps := ["_law_script"]) F_law fun _ _ _ _ _ _ us hl => match us, hl with | [_], _ => rfl
  refine ⟨f_law, fun s v => b s [v] rfl, fun base _ _ => ?_⟩
  have c_isplain : Fn P w K mg base CX0 1 "is_plain" _ [] _ := fn_mk F_isplain (glo "is_plain" (by simp [hglo])) (ok_isplain F_isplain B) (fun _ _ _ _ _ _ us hl => match us, hl with | [_], _ => rfl)
  have c_reduced : Fn P w K mg base CX0 1 "reduced" _ [] _ := fn_mk F_reduced (glo "reduced" (by simp [hglo])) (ok_reduced F_reduced B) (fun _ _ _ _ _ _ us hl => match us, hl with | [_, _], _ => rfl)
  have c_fits : Fn P w K mg base CX0 1 "fits" _ [] _ := fn_mk F_fits (glo "fits" (by simp [hglo])) (ok_fits F_fits B i_ROOM i_LOWEST i_TOO_GREAT) (fun _ _ _ _ _ _ us hl => match us, hl with | [_, _], _ => rfl)
  have c_Float : Cn P w K mg base CX0 2 "Float" (He.ga K "Float") _ [] _ := cn_mk F_Float_init mk_Float T.mg (ok_Finit F_Float_init B T c_isplain c_reduced c_fits) (fun _ _ _ _ _ _ us hl => match us, hl with | [_, _, _, _], _ => rfl)
  have c_Float_ratio : Mt P w K mg base CX0 1 (He.ga K "Float") "ratio" _ _ := mt_mk F_Float_ratio mt_Float_ratio T.own.cl (ok_ratio F_Float_ratio B T) (fun _ _ _ _ _ _ us hl => match us, hl with | [_], _ => rfl)
  have c_Float_isfinite : Mt P w K mg base CX0 1 (He.ga K "Float") "is_finite" _ _ := mt_mk F_Float_isfinite mt_Float_isfinite T.own.cl (ok_isfinite F_Float_isfinite B T) (fun _ _ _ _ _ _ us hl => match us, hl with | [_], _ => rfl)
  have c_isnumber : Fn P w K mg base CX0 2 "is_number" _ [] _ := fn_mk F_isnumber (glo "is_number" (by simp [hglo])) (ok_isnumber F_isnumber B T c_isplain) (fun _ _ _ _ _ _ us hl => match us, hl with | [_], _ => rfl)
  have c_wholeof : Fn P w K mg base CX0 2 "whole_of" _ [] _ := fn_mk F_wholeof (glo "whole_of" (by simp [hglo])) (ok_wholeof F_wholeof B T i_LEAST i_MOST c_Float_isfinite c_Float_ratio) (fun _ _ _ _ _ _ us hl => match us, hl with | [_], _ => rfl)
  have c_placeof0 : Fn P w K mg base CX0 2 "place_of_numbers" _ [] _ := fn_mk F_placeof0 (glo "place_of_numbers" (by simp [hglo])) (ok_placeof F_placeof0 B T i_TOO_GREAT c_Float_isfinite c_Float_ratio) (fun _ _ _ _ _ _ us hl => match us, hl with | [_], _ => rfl)
  have c_orderof : Fn P w K mg base CX0 3 "order_of" _ [] _ := fn_mk F_orderof (glo "order_of" (by simp [hglo])) (ok_orderof F_orderof B c_placeof0) (fun _ _ _ _ _ _ us hl => match us, hl with | [_, _], _ => rfl)
  have c_same : Fn P w K mg base CX0 4 "same" _ [] _ := fn_mk F_same (glo "same" (by simp [hglo])) (ok_same F_same B T O TI c_isnumber c_orderof) (fun _ _ _ _ _ _ us hl => match us, hl with | [_, _], _ => rfl)
  have c_sumof : Fn P w K mg base CX0 1 "sum_of" _ [] _ := fn_mk F_sumof (glo "sum_of" (by simp [hglo])) (ok_sumof F_sumof B) (fun _ _ _ _ _ _ us hl => match us, hl with | [_], _ => rfl)
  have c_floatsum : Fn P w K mg base CX0 2 "float_sum" _ [] _ := fn_mk F_floatsum (glo "float_sum" (by simp [hglo])) (ok_floatsum F_floatsum B T i_LOW_HALF c_Float_isfinite) (fun _ _ _ _ _ _ us hl => match us, hl with | [_], _ => rfl)
  have c_placeof1 : Fn P w K mg base CX0 3 "place_of_tables" _ [] _ := fn_mk F_placeof1 (glo "place_of_tables" (by simp [hglo])) (ok_placeofT F_placeof1 B T O NA TT c_sumof c_floatsum) (fun _ _ _ _ _ _ us hl => match us, hl with | [_, _], _ => rfl)
  have c_plainkey : Fn P w K mg base CX0 3 "plain_key" _ [] _ := fn_mk F_plainkey (glo "plain_key" (by simp [hglo])) (ok_plainkey F_plainkey B T O c_wholeof) (fun _ _ _ _ _ _ us hl => match us, hl with | [_], _ => rfl)
  have c_isnan : Fn P w K mg base CX0 1 "is_nan" _ [] _ := fn_mk F_isnan (glo "is_nan" (by simp [hglo])) (ok_isnan F_isnan B T O) (fun _ _ _ _ _ _ us hl => match us, hl with | [_], _ => rfl)
  have c_iswhole : Fn P w K mg base CX0 1 "is_whole" _ [] _ := fn_mk F_iswhole (glo "is_whole" (by simp [hglo])) (ok_iswhole F_iswhole B) (fun _ _ _ _ _ _ us hl => match us, hl with | [_], _ => rfl)
  have c_powerfor : Fn P w K mg base CX0 1 "power_for" _ [] _ := fn_mk F_powerfor (glo "power_for" (by simp [hglo])) (ok_powerfor F_powerfor B) (fun _ _ _ _ _ _ us hl => match us, hl with | [_], _ => rfl)
  have c_bestsize : Fn P w K mg base CX0 1 "best_size" _ [] _ := fn_mk F_bestsize (glo "best_size" (by simp [hglo])) (ok_bestsize F_bestsize B) (fun _ _ _ _ _ _ us hl => match us, hl with | [_], _ => rfl)
  have c_Node : Cn P w K mg base CX0 1 "Node" (He.ga K "Node") _ [] _ := cn_mk F_Node_init mk_Node TN.mg (ok_Ninit F_Node_init B TN) (fun _ _ _ _ _ _ us hl => match us, hl with | [_, _, _, _], _ => rfl)
  have o_Tinit := ok_Tinit (P := P) (w := w) (base := base) F_Table_init B TT c_powerfor
  have c_Table : CT1 P w K mg base (He.ga K "Table") := by
    obtain ⟨ds, r, b⟩ := FunD.binds (ps := psT) F_Table_init 2 0 (by simp [d_Table_init, He.DefD.dvs]) (by simp [d_Table_init, He.DefD.dvs, He.DefD.kws])
      (fun T D doc pm an cdv ct us its ks hu hi hk => match us, its, ks, hu, hi, hk with | [_, _], [_, _], [_], _, _, _ => ⟨_, rfl, _, _, _, _, _, _, rfl, rfl, rfl⟩) (by simp [d_Table_init, He.DefD.kws])
    exact ⟨_, f_Table_init, ds, o_Tinit, mk_Table, glo "Table" (by simp [hglo]), b, r⟩
  have c_Table3 : CT3 P w K mg base (He.ga K "Table") := by
    obtain ⟨ds, r, b⟩ := FunD.binds (ps := psT) F_Table_init 4 2 (by simp [d_Table_init, He.DefD.dvs]) (by simp [d_Table_init, He.DefD.dvs, He.DefD.kws])
      (fun T D doc pm an cdv ct us its ks hu hi hk => match us, its, ks, hu, hi, hk with | [_, _, _, _], [_, _], [_], _, _, _ => ⟨_, rfl, _, _, _, _, _, _, rfl, rfl, rfl⟩) (by simp [d_Table_init, He.DefD.kws])
    exact ⟨_, f_Table_init, ds, o_Tinit, mk_Table, glo "Table" (by simp [hglo]), b, r⟩
  have c_Table_find : Mt P w K mg base CX0 5 (He.ga K "Table") "find" _ _ := mt_mk F_Table_find mt_Table_find TT.own.cl (ok_find F_Table_find B TT TN c_placeof1 c_same) (fun _ _ _ _ _ _ us hl => match us, hl with | [_, _, _], _ => rfl)
  have c_Table_isinside : Mt P w K mg base CX0 2 (He.ga K "Table") "is_inside" _ _ := mt_mk F_Table_isinside mt_Table_isinside TT.own.cl (ok_isinside (N := He.ga K "Node") F_Table_isinside B TT T O c_iswhole) (fun _ _ _ _ _ _ us hl => match us, hl with | [_, _], _ => rfl)
  have c_Table_get : Mt P w K mg base CX0 6 (He.ga K "Table") "get" _ _ := mt_mk F_Table_get mt_Table_get TT.own.cl (ok_get F_Table_get B TT TN c_plainkey c_Table_isinside c_isnan c_Table_find) (fun _ _ _ _ _ _ us hl => match us, hl with | [_, _], _ => rfl)
  have c_Table_freeplace : Mt P w K mg base CX0 1 (He.ga K "Table") "free_place" _ _ := mt_mk F_Table_freeplace mt_Table_freeplace TT.own.cl (ok_freeplace F_Table_freeplace B L TT) (fun _ _ _ _ _ _ us hl => match us, hl with | [_], _ => rfl)
  have c_Table_aheadof : Mt P w K mg base CX0 4 (He.ga K "Table") "ahead_of" _ _ := mt_mk F_Table_aheadof mt_Table_aheadof TT.own.cl (ok_aheadof F_Table_aheadof B TT TN c_placeof1) (fun _ _ _ _ _ _ us hl => match us, hl with | [_, _, _], _ => rfl)
  have c_putnewS : Mt P w K mg base CX0 5 (He.ga K "Table") "put_new" _ _ := mt_mk F_Table_putnew mt_Table_putnew TT.own.cl (ok_putnewS F_Table_putnew B L TT TN c_placeof1 c_Node c_Table_freeplace c_Table_aheadof) (fun _ _ _ _ _ _ us hl => match us, hl with | [_, _, _], _ => rfl)
  have c_putS : CPutS P w K mg base (He.ga K "Float") (He.ga K "Table") (He.ga K "Node") := mt_mk F_Table_put mt_Table_put TT.own.cl (ok_putG (j := 0) (PutN KK) Room0 F_Table_put B L TT TN c_plainkey c_Table_isinside c_isnan c_Table_find c_putnewS) (fun _ _ _ _ _ _ us hl => match us, hl with | [_, _, _], _ => rfl)
  have c_Table_resize : Mt P w K mg base CX0 7 (He.ga K "Table") "resize" _ _ := mt_mk F_Table_resize mt_Table_resize TT.own.cl (ok_resize F_Table_resize B L TT TN c_powerfor c_putS) (fun _ _ _ _ _ _ us hl => match us, hl with | [_, _, _], _ => rfl)
  have c_Table_grow : Mt P w K mg base CX0 8 (He.ga K "Table") "grow" _ _ := mt_mk F_Table_grow mt_Table_grow TT.own.cl (ok_grow F_Table_grow B L TT TN T O i_MOST_PLACE c_iswhole c_bestsize c_Table_resize) (fun _ _ _ _ _ _ us hl => match us, hl with | [_, _], _ => rfl)
  have c_putnewF : Mt P w K mg base CX0 9 (He.ga K "Table") "put_new" _ _ := mt_mk F_Table_putnew mt_Table_putnew TT.own.cl (ok_putnewF F_Table_putnew B L TT TN c_placeof1 c_Node c_Table_grow c_putS c_Table_freeplace c_Table_aheadof) (fun _ _ _ _ _ _ us hl => match us, hl with | [_, _, _], _ => rfl)
  have c_put : CPut P w K mg base (He.ga K "Float") (He.ga K "Table") (He.ga K "Node") := mt_mk F_Table_put mt_Table_put TT.own.cl (ok_putG (j := 4) PutNF Rm4 F_Table_put B L TT TN c_plainkey c_Table_isinside c_isnan c_Table_find c_putnewF) (fun _ _ _ _ _ _ us hl => match us, hl with | [_, _, _], _ => rfl)
  have c_Table_makeroom : Mt P w K mg base CX0 8 (He.ga K "Table") "make_room" _ _ := mt_mk F_Table_makeroom mt_Table_makeroom TT.own.cl (ok_makeroom F_Table_makeroom B TT c_Table_resize) (fun _ _ _ _ _ _ us hl => match us, hl with | [_, _], _ => rfl)
  have c_Table_between : Mt P w K mg base CX0 7 (He.ga K "Table") "between" _ _ := mt_mk F_Table_between mt_Table_between TT.own.cl (ok_between F_Table_between B TT c_Table_get) (fun _ _ _ _ _ _ us hl => match us, hl with | [_, _, _], _ => rfl)
  have c_Table_borderbeyond : Mt P w K mg base CX0 8 (He.ga K "Table") "border_beyond" _ _ := mt_mk F_Table_borderbeyond mt_Table_borderbeyond TT.own.cl (ok_beyond F_Table_borderbeyond B TT i_MOST_WHOLE c_Table_get c_Table_between) (fun _ _ _ _ _ _ us hl => match us, hl with | [_, _], _ => rfl)
  have c_Table_border : Mt P w K mg base CX0 9 (He.ga K "Table") "border" _ _ := mt_mk F_Table_border mt_Table_border TT.own.cl (ok_border F_Table_border B TT c_Table_borderbeyond) (fun _ _ _ _ _ _ us hl => match us, hl with | [_], _ => rfl)
  have c_Table_room : Mt P w K mg base CX0 1 (He.ga K "Table") "room" _ _ := mt_mk F_Table_room mt_Table_room TT.own.cl (ok_room (N := He.ga K "Node") F_Table_room B TT) (fun _ _ _ _ _ _ us hl => match us, hl with | [_], _ => rfl)
  have c_Table_indexof : Mt P w K mg base CX0 6 (He.ga K "Table") "index_of" _ _ := mt_mk F_Table_indexof mt_Table_indexof TT.own.cl (ok_indexof F_Table_indexof B TT c_plainkey c_Table_isinside c_isnan c_Table_find) (fun _ _ _ _ _ _ us hl => match us, hl with | [_, _], _ => rfl)
  have c_Table_nextafter : Mt P w K mg base CX0 7 (He.ga K "Table") "next_after" _ _ := mt_mk F_Table_nextafter mt_Table_nextafter TT.own.cl (ok_nextafter F_Table_nextafter B TT TN c_Table_indexof) (fun _ _ _ _ _ _ us hl => match us, hl with | [_, _], _ => rfl)
  have c_Lmix : Fn P w K mg base CX0 1 "_law_mix" _ [] _ := fn_mk F_Lmix (glo "_law_mix" (by simp [hglo])) (ok_Lmix F_Lmix B) (fun _ _ _ _ _ _ us hl => match us, hl with | [_, _], _ => rfl)
  have c_Lsource : Fn P w K mg base CX0 1 "_law_source" _ [] _ := fn_mk F_Lsource (glo "_law_source" (by simp [hglo])) (ok_Lsource F_Lsource B) (fun _ _ _ _ _ _ us hl => match us, hl with | [_, _], _ => rfl)
  have c_Ldraw : Fn P w K mg base CX0 2 "_law_draw" _ [] _ := fn_mk F_Ldraw (glo "_law_draw" (by simp [hglo])) (ok_Ldr F_Ldraw B c_Lmix) (fun _ _ _ _ _ _ us hl => match us, hl with | [_, _], _ => rfl)
  have c_Lpick : Fn P w K mg base CX0 3 "_law_pick" _ [] _ := fn_mk F_Lpick (glo "_law_pick" (by simp [hglo])) (ok_Lpk F_Lpick B c_Ldraw) (fun _ _ _ _ _ _ us hl => match us, hl with | [_, _], _ => rfl)
  have c_TableK : CTK P w K mg base (He.ga K "Table") := by
    obtain ⟨its, mv, kb⟩ := FunD.kbinds (ps := psT) F_Table_init 1 ["meta", "nodes", "array", "number"] [] gTk (by simp [d_Table_init, He.DefD.dvs]) (by simp [d_Table_init, He.DefD.kws]) (by simp)
      (fun {vs ds mz zs us its mv ws} r1 _ _ r4 => by
        cases r4 with
        | nil => exact r1
        | cons a r4 =>
          cases r4 with
          | nil => exact r1
          | cons b r4 =>
            cases r4 with
            | nil => exact r1
            | cons c r4 =>
              cases r4 with
              | nil => exact r1
              | cons d r4 =>
                cases r4 with
                | nil => exact r1.append (.cons d (.cons c (.cons b (.cons a .nil))))
                | cons _ _ => exact r1)
      (fun T D doc pm an cdv ct us its mv ws hu hi hm hw => match us, its, mv, ws, hu, hi, hm, hw with | [_], [_, _], [], [_, _, _, _], _, _, _, _ => ⟨_, rfl, rfl⟩)
    exact ⟨_, f_Table_init, _, o_Tinit, mk_Table, glo "Table" (by simp [hglo]), kb⟩
  have c_putK : CPutK P w K mg base (He.ga K "Float") (He.ga K "Table") (He.ga K "Node") :=
    ⟨_, f_Table_put, _, ok_putG (j := 4) PutNF Rm4 F_Table_put B L TT TN c_plainkey c_Table_isinside c_isnan c_Table_find c_putnewF, mt_Table_put, kbnN (g := fun us ws => us ++ ws) F_Table_put (fun r1 r2 => r1.append r2) (fun _ _ _ _ _ _ us ws hu hw => match us, ws, hu, hw with | [_, _], [_], _, _ => rfl), TT.own.cl⟩
  have c_makeroomK : CMrK P w K mg base (He.ga K "Float") (He.ga K "Table") (He.ga K "Node") :=
    ⟨_, f_Table_makeroom, _, ok_makeroom F_Table_makeroom B TT c_Table_resize, mt_Table_makeroom, kbnN (g := fun us ws => us ++ ws) F_Table_makeroom (fun r1 r2 => r1.append r2) (fun _ _ _ _ _ _ us ws hu hw => match us, ws, hu, hw with | [_], [_], _, _ => rfl), TT.own.cl⟩
  have c_Lhalved : Fn P w K mg base CX0 7 "_law_halved" _ [] _ := fn_mk F_Lhalved (glo "_law_halved" (by simp [hglo])) (ok_Lhalved F_Lhalved B c_Table_get) (fun _ _ _ _ _ _ us hl => match us, hl with | [_, _, _], _ => rfl)
  have c_Lborder : Fn P w K mg base CX0 8 "_law_border" _ [] _ := fn_mk F_Lborder (glo "_law_border" (by simp [hglo])) (ok_Lborder F_Lborder B c_Table_get c_Table_room c_Lhalved) (fun _ _ _ _ _ _ us hl => match us, hl with | [_], _ => rfl)
  have c_Lisborder : Fn P w K mg base CX0 10 "_law_is_border" _ [] _ := fn_mk F_Lisborder (glo "_law_is_border" (by simp [hglo])) (ok_Lisborder F_Lisborder B c_Table_get c_Table_border c_Lborder) (fun _ _ _ _ _ _ us hl => match us, hl with | [_], _ => rfl)
  have c_Lfar : Fn P w K mg base CX0 11 "_law_far" _ [] _ := fn_mk F_Lfar (glo "_law_far" (by simp [hglo])) (ok_Lfar F_Lfar B c_Ldraw c_Lpick c_put c_Lisborder) (fun _ _ _ _ _ _ us hl => match us, hl with | [_, _], _ => rfl)
  have c_Lnamesright : Fn P w K mg base CX0 11 "_law_names_right" _ [] _ := fn_mk F_Lnamesright (glo "_law_names_right" (by simp [hglo])) (ok_Lnames F_Lnamesright B c_Ldraw c_TableK c_putK c_makeroomK c_Table_get c_Table_nextafter c_Lisborder) (fun _ _ _ _ _ _ us hl => match us, hl with | [_], _ => rfl)
  have c_Lright : Fn P w K mg base CX0 12 "_law_right" _ [] _ := fn_mk F_Lright (glo "_law_right" (by simp [hglo])) (ok_Lright F_Lright B L c_Ldraw c_Lpick c_Table c_Table3 c_put c_Table_border c_Table_room c_Lisborder c_Lnamesright c_Lfar) (fun _ _ _ _ _ _ us hl => match us, hl with | [_], _ => rfl)
  exact ok_law F_law B c_Lsource c_Lright
end Up
open PySem PySem.W PySem.Calls PyProof.Rows
theorem PySem.Challenge.cw_upvalues_k12_whole_borders_of_tables_holds : PySem.Challenge.rw_upvalues_k12_whole_borders_of_tables.Holds := by
  w_on; o_law
  refine HandSHeadRun.head_any (r := OpenLaw.row PySem.Challenge.rw_upvalues_k12_whole_borders_of_tables) (q := view (OpenLaw.row PySem.Challenge.rw_upvalues_k12_whole_borders_of_tables).prog [49]) (H := Up.hk) (ob := Up.hob) (M := 6000) (loose := Up.hloose) (d := HandSHeadRun.topDef (OpenLaw.row PySem.Challenge.rw_upvalues_k12_whole_borders_of_tables).prog 49) (kwd := []) Up.hob_eq
    (by kernel_rfl) (fun s => by kernel_rfl) Up.hrun (by kernel_rfl) (by kernel_rfl) (by kernel_rfl) (by rfl) (by first | assumption | decide +kernel) (by decide +kernel) ⟨rfl, rfl, rfl, rfl, rfl, by decide +kernel⟩ ?hw ?hc
  case hw => w_witness2
  case hc =>
    refine L2.walk_ofE (l := PySem.Challenge.rw_upvalues_k12_whole_borders_of_tables) (n := 63) (k := 13) (x := "_law_script") (CX := L2.CX0) rfl (by decide) (by kernel_rfl) ⟨rfl, by decide, by decide⟩ ?F (fun _ _ _ _ z => z)
    intro w mg fa h Y G hmg0
    obtain ⟨K, KX, c⟩ := Y
    have hmg : mg ("law" : PySem.Str) = some (.ref fa) := by
      have e : (HandSHeadRun.topDef (OpenLaw.row PySem.Challenge.rw_upvalues_k12_whole_borders_of_tables).prog 49).name = ("law" : PySem.Str) := by kernel_rfl
      rw [← e]
      exact hmg0
    obtain ⟨fd, hb, hF⟩ := Up.facts (P := (PySem.Challenge.rw_upvalues_k12_whole_borders_of_tables).prog) (w := w) KX G hmg c
    exact ⟨K, fd, Up.spLaw K, KX, hb, fun H a ns hl _ hS => ⟨a, ns, rfl, hS, hl, fun _ => rfl⟩, hF⟩
#print axioms PySem.Challenge.cw_upvalues_k12_whole_borders_of_tables_holds
