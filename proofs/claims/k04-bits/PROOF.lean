import PyProof.Rows.All
import Wide.All
import OpenK.AllK
import Wide.FinOn
import PyProof.EqAt
import PyProof.EqKinds
import PyProof.TupleCall
import HandS.ForMost
import HandS.IsInst
import HandS.Wide
import HandS.WideBits
import HandS.TupAny
import HandS.Deep
import HandS.Flow
import HandS.Defaults
import HandS.Exc
import HandS.WordsExc
import HandS.Codes
import HandS.More
import HandS.Style
import HandS.MakeKwOnly
import PyProof.NeKinds
import KE.KExcInit
import KE.KExcSuper
import HandS.ExcInit
import HandS.ExcField
import HandS.ExcIs
import HandS.Walk
import KE.KStateDown
import HandS.Head0
import HandS.Head1
import HandS.Head2
import HandS.HeadEnd
import HandS.HeadHook1
import HandS.HeadHook2
import HandS.HeadHook3
import HandS.HeadHook4
import HandS.Lambda
import HandS.EndTab
import HandS.HeadWalk
import KE.BitLaws
import KE.KDictZip
import HandS.Conv
import HandS.Zip
import PySem.Challenge.RW_upvalues_k04_bits_of_numbers
set_option Elab.async false
set_option linter.all false
set_option maxRecDepth 100000
set_option maxHeartbeats 4000000
namespace Up
open PySem PySem.Spec PyProof.Rows L2

theorem sz {n : Nat} (h : Nat.ble n 100000 = true) : n ≤ sizeLine := Nat.le_trans (Nat.le_of_ble_eq_true h) (by decide)
/-! ### a new object, by what is known of the heap behind it -/
def NewAt (H : Hp) (o : HO) (Q : VK) : Prop := ∀ p H', H p = none → Same H H' → H' p = some o → (∀ b, b ≠ p → H' b = H b) → Q (.ref p) H'
theorem NewAt.all {H : Hp} {o : HO} {Q : VK} (h : NewAt H o Q) : ∀ p, H p = none → Q (.ref p) (upd H p o) := fun p hp =>
  h p _ hp (fun b u e => by rw [upd_ne (ne_of_none e hp)]; exact e) upd_same fun b hb => upd_ne hb
def tTupN (t : TA) : TE := fun σ H Q => t σ H fun xs H1 => xs.length ≤ sizeLine ∧ NewAt H1 (.tup xs) Q
def tLstN (t : TA) : TE := fun σ H Q => t σ H fun xs H1 => xs.length ≤ sizeLine ∧ NewAt H1 (.lst xs) Q
section
variable {X : Cx} {es : List Expr} {t : TA} {pos : Pos}
theorem pe_tupN {x1} (h : PA X es t) : PE X (.Tuple es x1 pos) (tTupN t) := by
  refine ⟨fun pins s σ H Q I hq => ?_⟩
  refine wpAny_Tuple_spliced (thn (h.run pos pins s σ H _ I hq) fun us s1 ⟨xs, H1, I1, r, z, q⟩ => ⟨(by rw [← r.length]; exact z), ?_⟩)
  exact ⟨.ref s1.heap.objs.size, upd H1 s1.heap.objs.size (.tup xs), I1.laid (t' := s1.toks) (fun b u e => Heap.get?_push_of_some _ e) (Nat.le_refl _) ⟨z, us, r, ⟨_, Heap.get?_push_size _ rfl, rfl, _, rfl⟩⟩, rfl, q.all _ (I1.hok.fresh (Nat.le_refl _))⟩
theorem pe_lstN (h : PA X es t) : PE X (.List es pos) (tLstN t) := by
  refine ⟨fun pins s σ H Q I hq => ?_⟩
  refine wpAny_List_spliced (thn (h.run pos pins s σ H _ I hq) fun us s1 ⟨xs, H1, I1, r, z, q⟩ => ⟨(by rw [← r.length]; exact z), ?_⟩)
  exact ⟨.ref s1.heap.objs.size, upd H1 s1.heap.objs.size (.lst xs), I1.laid (t' := s1.toks) (fun b u e => Heap.get?_push_of_some _ e) (Nat.le_refl _) ⟨z, us, 0, r, Heap.get?_push_size _ rfl⟩, rfl, q.all _ (I1.hok.fresh (Nat.le_refl _))⟩
end
/-! ### operators by the kinds of their values -/
section
variable {X : Cx} {f : Value → Value → Sem Value} {r r' : R2}
theorem op_or (h : OpR X f r) (h' : OpR X f r') : OpR X f (fun x y H Q => r x y H Q ∨ r' x y H Q) := by
  intro pins s σ H x y v u Q I rx ry q
  rcases q with q | q
  · exact h pins s σ H x y v u Q I rx ry q
  · exact h' pins s σ H x y v u Q I rx ry q
theorem op_wk (h : OpR X f r) (k : ∀ x y H Q, r' x y H Q → r x y H Q) : OpR X f r' := by
  intro pins s σ H x y v u Q I rx ry q
  exact h pins s σ H x y v u Q I rx ry (k _ _ _ _ q)
theorem op_wh {S : Prop} (h : S → OpR X f r) (k : ∀ x y H Q, r' x y H Q → S ∧ r x y H Q) : OpR X f r' := by
  intro pins s σ H x y v u Q I rx ry q
  exact h (k _ _ _ _ q).1 pins s σ H x y v u Q I rx ry (k _ _ _ _ q).2
end
/-- two lists that are read -/
def oCatS (K : PySem.W.Frag) : R2 := fun x y H Q => ∃ a b xs ys, x = .ref a ∧ y = .ref b ∧ SqL K H a xs ∧ SqL K H b ys ∧ xs.length + ys.length ≤ sizeLine ∧ NewAt H (.lst (xs ++ ys)) Q
theorem op_catS {X : Cx} : OpR X (binaryOp .Add) (oCatS X.K) := by
  intro pins s σ H x y v u Q I rx ry h
  obtain ⟨a, b, xs, ys, rfl, rfl, ha, hb, hz, q⟩ := h
  cases rx
  cases ry
  obtain ⟨its, r1, p1, _⟩ := I.list ha
  obtain ⟨jts, r2, p2, _⟩ := I.list hb
  have l1 := r1.length
  have l2 := r2.length
  obtain ⟨⟨c1, d1, t1, z1⟩, n1, e1, k1, _, w1⟩ := p1
  obtain ⟨⟨c2, d2, t2, z2⟩, n2, e2, k2, _, w2⟩ := p2
  simp only at k1 w1 k2 w2
  subst k1 w1 k2 w2
  refine concat_meets (S := _) ⟨_, e1, rfl⟩ ⟨_, e2, rfl⟩ noFill_list_add seq_list_add PySem.F.slot_list_add PySem.F.entry_list_add (PySem.F.args_list_add_2 _ _) (list_addW a b its.toArray jts.toArray n1 n2 d1 d2 z1 z2 (by rw [List.size_toArray, List.size_toArray]; omega)) ⟨e1, e2, ?_⟩
  rw [show its.toArray ++ jts.toArray = (its ++ jts).toArray by simp]
  exact ⟨.ref _, _, I.lnew (t' := s.toks) (r1.append r2) (by rw [List.length_append]; omega), rfl, q.all _ I.fresh⟩
/-- two tuples -/
def oCatU (K : PySem.W.Frag) : R2 := fun x y H Q => ∃ a b xs ys, x = .ref a ∧ y = .ref b ∧ SqT K H a xs ∧ SqT K H b ys ∧ xs.length + ys.length ≤ sizeLine ∧ xs ≠ [] ∧ ys ≠ [] ∧ NewAt H (.tup (xs ++ ys)) Q
/-- a + b -/
def oAdd (K : PySem.W.Frag) : R2 := fun x y H Q => match x, y with
  | .int i, .int j => Q (.int (i + j)) H
  | .str a, .str b => a.length + b.length ≤ sizeLine ∧ Q (.str (a ++ b)) H
  | .ref a, .ref b => oCatS K (.ref a) (.ref b) H Q ∨ oCatU K (.ref a) (.ref b) H Q
  | _, _ => False
theorem op_oAdd {X : Cx} : OpR X (binaryOp .Add) (oAdd X.K) := by
  refine op_wk (op_or op_add (op_or op_add_str (op_or op_catS op_catA))) fun x y H Q q => ?_
  cases x <;> cases y <;> first | exact q.elim | skip
  · exact .inl ⟨_, _, rfl, rfl, q⟩
  · exact .inr (.inl ⟨_, _, rfl, rfl, q⟩)
  · rcases q with q | ⟨c, d, xs, ys, e1, e2, h1, h2, hz, n1, n2, q⟩
    · exact .inr (.inr (.inl q))
    · exact .inr (.inr (.inr ⟨c, d, xs, ys, e1, e2, h1, h2, hz, fun z => absurd z n1, fun _ z => absurd z n2, fun _ _ => q.all⟩))
/-- a - b, of ints and of bools -/
def oSub : R2 := fun x y H Q => match x, y with
  | .int i, .int j => Q (.int (i - j)) H
  | .bl i, .bl j => Q (.int (b2i i - b2i j)) H
  | _, _ => False
theorem op_sub_bb {X : Cx} : OpR X (binaryOp .Sub) (fun x y H Q => ∃ i j, x = .bl i ∧ y = .bl j ∧ Q (.int (b2i i - b2i j)) H) := by
  intro pins s σ H x y v u Q I rx ry h
  obtain ⟨i, j, rfl, rfl, q⟩ := h
  cases rx
  cases ry
  exact sub_bool ⟨.int (b2i i - b2i j), H, I.tok _, ⟨_, rfl⟩, q⟩
theorem op_oSub {X : Cx} : OpR X (binaryOp .Sub) oSub := by
  refine op_wk (op_or op_sub op_sub_bb) fun x y H Q q => ?_
  cases x <;> cases y <;> first | exact q.elim | skip
  · exact .inr ⟨_, _, rfl, rfl, q⟩
  · exact .inl ⟨_, _, rfl, rfl, q⟩
/-- a * b -/
def oMul : R2 := fun x y H Q => match x, y with
  | .int i, .int j => IntMulOk i j ∧ Q (.int (i * j)) H
  | .ref a, .int k => ∃ xs, H a = some (.lst xs) ∧ -(2 ^ 63) ≤ k ∧ k < 2 ^ 63 ∧ xs.length * k.toNat ≤ sizeLine ∧ NewAt H (.lst (List.replicate k.toNat xs).flatten) Q
  | _, _ => False
theorem op_mulK {X : Cx} : OpR X (binaryOp .Mult) (rI IntMulOk fun i j => .int (i * j)) := opI fun _ _ _ _ _ _ _ hc q => mul_int q hc
theorem op_oMul {X : Cx} : OpR X (binaryOp .Mult) oMul := by
  refine op_wk (op_or op_mulK op_rep) fun x y H Q q => ?_
  cases x <;> cases y <;> first | exact q.elim | skip
  · exact .inl ⟨_, _, rfl, rfl, q⟩
  · obtain ⟨xs, h1, h2, h3, h4, q⟩ := q
    exact .inr ⟨_, _, xs, rfl, rfl, h1, h2, h3, h4, q.all⟩
/-- a // b -/
def oDiv : R2 := fun x y H Q => match x, y with
  | .int i, .int j => (j ≠ 0 ∧ j.natAbs.log2 < 9000) ∧ Q (.int (i.fdiv j)) H
  | _, _ => False
theorem op_oDiv {X : Cx} : OpR X (binaryOp .FloorDiv) oDiv := by
  refine op_wk (r := rI (fun _ j => j ≠ 0 ∧ j.natAbs.log2 < 9000) fun i j => .int (i.fdiv j)) (opI fun _ _ _ _ _ _ _ hc q => floordiv_int hc.1 q (.inl (PyProof.noPylong_of_log2 hc.2))) fun x y H Q q => ?_
  cases x <;> cases y <;> first | exact q.elim | skip
  exact ⟨_, _, rfl, rfl, q⟩
/-- a % b -/
def oMod : R2 := fun x y H Q => match x, y with
  | .int i, .int j => j ≠ 0 ∧ Q (.int (i.fmod j)) H
  | _, _ => False
theorem op_oMod {X : Cx} : OpR X (binaryOp .Mod) oMod := by
  refine op_wk op_modN fun x y H Q q => ?_
  cases x <;> cases y <;> first | exact q.elim | skip
  exact ⟨_, _, rfl, rfl, q⟩
/-- an operator of two ints with a condition -/
def oII (C : Int → Int → Prop) (g : Int → Int → V) : R2 := fun x y H Q => match x, y with
  | .int i, .int j => C i j ∧ Q (g i j) H
  | _, _ => False
theorem op_oII {X : Cx} {f : Value → Value → Sem Value} {C : Int → Int → Prop} {g : Int → Int → V} (h : OpR X f (rI C g)) : OpR X f (oII C g) := by
  refine op_wk h fun x y H Q q => ?_
  cases x <;> cases y <;> first | exact q.elim | skip
  exact ⟨_, _, rfl, rfl, q⟩
def oI0 (g : Int → Int → V) : R2 := fun x y H Q => match x, y with
  | .int i, .int j => Q (g i j) H
  | _, _ => False
theorem op_oI0 {X : Cx} {f : Value → Value → Sem Value} {g : Int → Int → V} (h : OpR X f (rI0 g)) : OpR X f (oI0 g) := by
  refine op_wk h fun x y H Q q => ?_
  cases x <;> cases y <;> first | exact q.elim | skip
  exact ⟨_, _, rfl, rfl, q⟩
abbrev oPow : R2 := oII CPow fun i j => .int (i ^ j.toNat)
abbrev oShl : R2 := oII CShl fun i j => .int (i * 2 ^ j.toNat)
abbrev oShr : R2 := oII (fun _ j => 0 ≤ j) fun i j => .int (i / 2 ^ j.toNat)
abbrev oAnd : R2 := oI0 fun i j => .int (Builtin.bitAnd i j)
abbrev oOr : R2 := oI0 fun i j => .int (Builtin.bitOr i j)
abbrev oXor : R2 := oI0 fun i j => .int (Builtin.bitXor i j)
theorem op_oPow {X : Cx} : OpR X (binaryOp .Pow) oPow := op_oII op_pow
theorem op_oShl {X : Cx} : OpR X (binaryOp .LShift) oShl := op_oII op_shlW
theorem op_oShr {X : Cx} : OpR X (binaryOp .RShift) oShr := op_oII op_shr
theorem op_oAnd {X : Cx} : OpR X (binaryOp .BitAnd) oAnd := op_oI0 op_and
theorem op_oOr {X : Cx} : OpR X (binaryOp .BitOr) oOr := op_oI0 L2.op_or
theorem op_oXor {X : Cx} : OpR X (binaryOp .BitXor) oXor := op_oI0 op_xor
/-! ### comparisons -/
def oCmp (g : Int → Int → Bool) (k : Str → Str → Bool) : R2 := fun x y H Q => match x, y with
  | .int i, .int j => Q (.bl (g i j)) H
  | .str a, .str b => Q (.bl (k a b)) H
  | _, _ => False
theorem op_oCmp {X : Cx} {f : Value → Value → Sem Value} {g : Int → Int → Bool} {k : Str → Str → Bool} (h : OpR X f (rI0 fun i j => .bl (g i j))) (h' : OpR X f (fun x y H Q => ∃ i j, x = .str i ∧ y = .str j ∧ Q (.bl (k i j)) H)) : OpR X f (oCmp g k) := by
  refine op_wk (op_or h h') fun x y H Q q => ?_
  cases x <;> cases y <;> first | exact q.elim | skip
  · exact .inl ⟨_, _, rfl, rfl, q⟩
  · exact .inr ⟨_, _, rfl, rfl, q⟩
abbrev oLt : R2 := oCmp (fun i j => decide (i < j)) fun a b => decide (a.cps.toList < b.cps.toList)
theorem op_oLt {X : Cx} : OpR X (compareOp .Lt) oLt := op_oCmp op_lt op_lt_str
abbrev oLe : R2 := oI0 fun i j => .bl (decide (i ≤ j))
abbrev oGt : R2 := oI0 fun i j => .bl (decide (j < i))
abbrev oGe : R2 := oI0 fun i j => .bl (decide (j ≤ i))
theorem op_oLe {X : Cx} : OpR X (compareOp .LtE) oLe := op_oI0 op_le
theorem op_oGt {X : Cx} : OpR X (compareOp .Gt) oGt := op_oI0 op_gt
theorem op_oGe {X : Cx} : OpR X (compareOp .GtE) oGe := op_oI0 op_ge
/-- a == b of scalars, of data -/
def oEq (K : PySem.W.Frag) : R2 := fun x y H Q => rEq x y H Q ∨ rEqD K x y H Q
def oNe (K : PySem.W.Frag) : R2 := fun x y H Q => rNe x y H Q ∨ rNeD K x y H Q
theorem op_oEq {X : Cx} (hu : X.A.units + 64 < cLine) : OpR X (compareOp .Eq) (oEq X.K) := op_or op_eq (op_eqD hu)
theorem op_oNe {X : Cx} (hu : X.A.units + 64 < cLine) : OpR X (compareOp .NotEq) (oNe X.K) := op_or op_ne (op_neD hu)

/-! ### slices, divmod -/
def oSlL (K : PySem.W.Frag) : V → Option Int → Option Int → Hp → VK → Prop := fun x lo hi H Q => ∃ a xs, x = .ref a ∧ SqL K H a xs ∧ NewAt H (.lst (cutV xs lo hi)) Q
theorem sl_lstN {X : Cx} : SlR X (oSlL X.K) := by
  intro pins s σ H x v vl vu lo hi sl Q I rx hs pl pu h
  obtain ⟨a, xs, e, hq, q⟩ := h
  exact sl_list pins s σ H x v vl vu lo hi sl Q I rx hs pl pu ⟨a, xs, e, hq, q.all⟩
def rDivm : List V → Hp → VK → Prop := fun xs H Q => ∃ i j, xs = [.int i, .int j] ∧ (0 < j ∧ j.natAbs.log2 < 9000) ∧ NewAt H (.tup [.int (i / j), .int (i % j)]) Q
theorem call_divmodK {X : Cx} : CallR X (.builtin "divmod") rDivm := by
  intro pins s σ H xs us Q I r h
  obtain ⟨i, j, e, hc, q⟩ := h
  exact call_divmodW pins s σ H xs us Q I r ⟨i, j, e, ⟨hc.1, PyProof.noPylong_of_log2 hc.2⟩, q.all⟩
/-! ### targets: o.f of an instance -/
def gFld (K : PySem.W.Frag) (to : TE) (f : Str) : TG := fun v σ H Q => to σ H fun x H1 => ∃ a C dx fs, x = .ref a ∧ H1 a = some (.ins C dx fs) ∧ Cls K C ∧ NoAttr K C f ∧ fs.length < 1000 ∧ Q σ (upd H1 a (.ins C dx (putF f v fs)))
theorem pg_fld {X : Cx} {o : Expr} {f : Str} {pos : Pos} {to : TE} (ho : PE X o to)
    (ha : ∀ v, assign (.Attribute o f pos) X.env v = (do
      let ov ← holding [v] (eval o X.env)
      standAt pos.atName
      holding [v, ov] (setAttr ov f v)
      release [v, ov] []) := by intro _; rfl) : PG X (.Attribute o f pos) (gFld X.K to f) := by
  refine ⟨fun pins s σ H v u Q I r h => ?_⟩
  rw [ha]
  refine wpAny_bind (wpAny_holding (thn (ho.run pins s σ H _ I h) fun ov s1 ⟨x, H1, I1, r1, a, C, dx, fs, ex, ea, c, n, l, q1⟩ => ?_))
  subst ex
  obtain rfl : ov = Value.ref a := r1
  refine wpAny_bind (wpAny_standAt (wpAny_bind (wpAny_holding (setattr_ok I1 ea c n l r fun s3 I3 => ?_))))
  exact wpAny_release ⟨σ, _, I3, q1⟩

/-! ### a def of the text, called by its name -/
section
variable (P : Program) (w : World) (K : PySem.W.Frag) (mg : Str → Option Value) (base : Heap)
/-- the module's name x holds a def that keeps sp -/
def Fn (CX : CXT) (k : Nat) (x : Str) (ps : List Str) (dvs : List V) (sp : Sp) : Prop :=
  ∃ f fd ds, FnOk P w K mg base CX k f fd ps sp ∧ mg x = some (.ref f) ∧ PySem.W.keepIn K (.ref f) = true ∧ Binds K fd ps ds ∧ Vals dvs ds
/-- the class at C has a method m that keeps sp -/
def Mt (CX : CXT) (k : Nat) (C : Addr) (m : Str) (ps : List Str) (sp : Sp) : Prop :=
  ∃ f fd, FnOk P w K mg base CX k f fd ps sp ∧ Meth K C m f ∧ Binds K fd ps [] ∧ Cls K C
/-- the name x holds a class at C that is made by an __init__ that keeps sp -/
def Cn (CX : CXT) (k : Nat) (x : Str) (C : Addr) (ps : List Str) (dvs : List V) (sp : Sp) : Prop :=
  ∃ f fd ds, FnOk P w K mg base CX k f fd ps sp ∧ Mk K C f ∧ mg x = some (.ref C) ∧ Binds K fd ps ds ∧ Vals dvs ds
end
section
variable {X : Cx} {CX : CXT} {k : Nat} {C : Addr} {x m : Str} {ps : List Str} {dvs : List V} {sp : Sp} {E : XK} {p pos apos : Pos} {e o : Expr} {es : List Expr} {ta : TE} {t : TA}
theorem pe_fn (F : Fn X.prog X.w X.K X.mg X.base CX k x ps dvs sp) (hr : Room k X.A) (hx : Passes CX X E) (ha : PA X (e :: es) t) (hg : Gl X x := by rfl)
    (hdb : (x == ("__debug__" : Str)) = false := by decide) (he : starEach (e :: es) X.env = (false, eval e X.env) :: starEach es X.env := by rfl) (hpl : (backTo pos (starEach es X.env)).any (·.1) = false := by rfl) :
    PE X (.Call (.Name x p) (e :: es) [] pos) (tCall sp dvs E t) := by
  obtain ⟨f, fd, ds, F, hm, hk, hb, hd⟩ := F
  exact pe_call F hr hg hm hk hb hd hx ha hdb he hpl
theorem pe_fn0 (F : Fn X.prog X.w X.K X.mg X.base CX k x ps dvs sp) (hr : Room k X.A) (hx : Passes CX X E) (hg : Gl X x := by rfl)
    (hdb : (x == ("__debug__" : Str)) = false := by decide) : PE X (.Call (.Name x p) [] [] pos) (tCall sp dvs E tNil) := by
  obtain ⟨f, fd, ds, F, hm, hk, hb, hd⟩ := F
  exact pe_call0 F hr hg hm hk hb hd hx hdb
/-- C(..): a new instance and its dict, then __init__ -/
def MakeR (C : Addr) (sp : Sp) (vs : List V) (H : Hp) (Q : VK) (E : XK) : Prop := ∀ x dx H', H x = none → H dx = none → dx ≠ x → Same H H' → H' x = some (.ins C dx []) → (∀ b, b ≠ x → b ≠ dx → H' b = H b) →
  sp (.ref x :: vs) H' (fun v H2 => v = .non ∧ Q (.ref x) H2) E
def tMakeN (C : Addr) (sp : Sp) (dvs : List V) (E : XK) (t : TA) : TE := fun σ H Q => t σ H fun vs H1 => MakeR C sp (vs ++ dvs) H1 Q E
theorem pe_cn (F : Cn X.prog X.w X.K X.mg X.base CX k x C ps dvs sp) (hr : Room (k + 1) X.A) (hx : Passes CX X E) (ha : PA X (e :: es) t) (hg : Gl X x := by rfl)
    (hdb : (x == ("__debug__" : Str)) = false := by decide) (he : starEach (e :: es) X.env = (false, eval e X.env) :: starEach es X.env := by rfl) (hpl : (backTo pos (starEach es X.env)).any (·.1) = false := by rfl) :
    PE X (.Call (.Name x p) (e :: es) [] pos) (tMakeN C sp dvs E t) := by
  obtain ⟨f, fd, ds, F, hM, hm, hb, hd⟩ := F
  refine ⟨fun pins s σ H Q I h => ?_⟩
  refine wpAny_Call_Name_kw (ld_glob I hg hm ?_ hdb)
  refine PySem.W.callWith_K (h₀ := X.base) I.ok.mod.kin hM.kp (thn (ha.run pos pins s σ H _ I h) fun us s1 ⟨vs, H1, I1, r, q⟩ => ⟨I1.kIn, ?_⟩) he hpl
  refine run_make hM F hr hb hd hx I1 r fun y dy n1 n2 ne => q y dy _ n1 n2 ne (fun b u z => ?_) upd_same fun b hb1 hb2 => ?_
  · rw [upd_ne (ne_of_none z n1), upd_ne (ne_of_none z n2)]; exact z
  · rw [upd_ne hb1, upd_ne hb2]
theorem pe_mt {pl : Sem Bool} (F : Mt X.prog X.w X.K X.mg X.base CX k C m ps sp) (hr : Room k X.A) (hx : Passes CX X E) (he : PE X o ta) (ha : PA X (e :: es) t)
    (hst : starEach (e :: es) X.env = (false, eval e X.env) :: starEach es X.env := by rfl) (hpl : (backTo pos (starEach es X.env)).any (·.1) = false := by rfl)
    (ht : eval (.Call (.Attribute o m apos) (e :: es) [] pos) X.env = (do
      let ov ← eval o X.env
      standAt apos.atName
      let (f, first) ← holding [ov] (getMethod ov m pl)
      callWith pos f first (backTo pos (starEach (e :: es) X.env)) (backToKw pos (keywordEach [] X.env))) := by rfl) :
    PE X (.Call (.Attribute o m apos) (e :: es) [] pos) (tMeth C m sp [] E ta t) := by
  obtain ⟨f, fd, F, hm, hb, c⟩ := F
  exact pe_meth (pl := pl) he c hm F hr hb .nil hx ha hst hpl ht
theorem pe_mt0 {pl : Sem Bool} (F : Mt X.prog X.w X.K X.mg X.base CX k C m ps sp) (hr : Room k X.A) (hx : Passes CX X E) (he : PE X o ta)
    (ht : eval (.Call (.Attribute o m apos) [] [] pos) X.env = (do
      let ov ← eval o X.env
      standAt apos.atName
      let (f, first) ← holding [ov] (getMethod ov m pl)
      callWith pos f first (backTo pos (starEach [] X.env)) (backToKw pos (keywordEach [] X.env))) := by rfl) :
    PE X (.Call (.Attribute o m apos) [] [] pos) (tMeth C m sp [] E ta tNil) := by
  obtain ⟨f, fd, F, hm, hb, c⟩ := F
  exact pe_meth0 (pl := pl) he c hm F hr hb .nil hx ht
end

/-! ### the rules with the written part named (within a comprehension) -/
section
variable {X : Cx} (K : PySem.W.Frag)
theorem call_isiE (h : X.K = K) : CallR X (.builtin "isinstance") (rIsi K) := h ▸ call_isi
theorem call_len_seqE (h : X.K = K) : CallR X (.builtin "len") (fun xs H Q => ∃ p ys, xs = [.ref p] ∧ (SqL K H p ys ∨ SqT K H p ys) ∧ Q (.int ys.length) H) := h ▸ call_len_seq
theorem op_oAddE (h : X.K = K) : OpR X (binaryOp .Add) (oAdd K) := h ▸ op_oAdd
theorem op_oEqE (h : X.K = K) (hu : X.A.units + 64 < cLine) : OpR X (compareOp .Eq) (oEq K) := h ▸ op_oEq hu
theorem op_oNeE (h : X.K = K) (hu : X.A.units + 64 < cLine) : OpR X (compareOp .NotEq) (oNe K) := h ▸ op_oNe hu
theorem op_inE (h : X.K = K) : OpR X (compareOp .In) (rIn K false) := h ▸ op_in_seq
theorem op_notInE (h : X.K = K) : OpR X (compareOp .NotIn) (rIn K true) := h ▸ op_notIn_seq
theorem ix_seqE (h : X.K = K) : IxR X (rIx K) := h ▸ ix_seq
theorem pe_fldE {e : Expr} {f : Str} {pos : Pos} {ta : TE} (h : X.K = K) (he : PE X e ta) (hb : attributeBase e f X.env (eval e X.env) = eval e X.env) : PE X (.Attribute e f pos) (tFld K ta f) := h ▸ pe_fld he hb
end
/-! ### names of the module -/
theorem pe_gint {X : Cx} {x : Str} {i : Int} {pos : Pos} (h : ∃ t, X.mg x = some (.int i t)) (hg : Gl X x := by rfl) (hd : (x == ("__debug__" : Str)) = false := by decide) : PE X (.Name x pos) (tC (.int i)) := by
  obtain ⟨t, h⟩ := h
  exact pe_glob hg h ⟨_, rfl⟩ hd
theorem pe_gref {X : Cx} {x : Str} {C : Addr} {pos : Pos} (h : X.mg x = some (.ref C)) (hg : Gl X x := by rfl) (hd : (x == ("__debug__" : Str)) = false := by decide) : PE X (.Name x pos) (tC (.ref C)) := pe_glob hg h rfl hd
/-- the built-ins that the text does not hide -/
structure Blt (mg : Str → Option Value) : Prop where
  len : mg "len" = none
  int : mg "int" = none
  bool : mg "bool" = none
  str : mg "str" = none
  isinstance : mg "isinstance" = none
  abs : mg "abs" = none
  max : mg "max" = none
  min : mg "min" = none
  divmod : mg "divmod" = none
  range : mg "range" = none
  enumerate : mg "enumerate" = none
  zip : mg "zip" = none
  list : mg "list" = none
  tuple : mg "tuple" = none
  ord : mg "ord" = none
  sorted : mg "sorted" = none
def bltNames : List Str := ["len", "int", "bool", "str", "isinstance", "abs", "max", "min", "divmod", "range", "enumerate", "zip", "list", "tuple", "ord", "sorted"]
theorem blt_of {mg : Str → Option Value} (h : ∀ x ∈ bltNames, mg x = none) : Blt mg := by
  have g : ∀ x, x ∈ bltNames → mg x = none := h
  exact ⟨g _ (by simp [bltNames]), g _ (by simp [bltNames]), g _ (by simp [bltNames]), g _ (by simp [bltNames]), g _ (by simp [bltNames]), g _ (by simp [bltNames]), g _ (by simp [bltNames]), g _ (by simp [bltNames]), g _ (by simp [bltNames]), g _ (by simp [bltNames]), g _ (by simp [bltNames]), g _ (by simp [bltNames]), g _ (by simp [bltNames]), g _ (by simp [bltNames]), g _ (by simp [bltNames]), g _ (by simp [bltNames])⟩
section
variable {X : Cx}
theorem pe_tyInt {pos : Pos} (B : Blt X.mg) (hg : Gl X "int" := by rfl) : PE X (.Name "int" pos) (tC (.ty "int")) := pe_bltn (u := .type "int") hg B.int (by decide +kernel) rfl
theorem pe_tyBool {pos : Pos} (B : Blt X.mg) (hg : Gl X "bool" := by rfl) : PE X (.Name "bool" pos) (tC (.ty "bool")) := pe_bltn (u := .type "bool") hg B.bool (by decide +kernel) rfl
theorem pe_tyStr {pos : Pos} (B : Blt X.mg) (hg : Gl X "str" := by rfl) : PE X (.Name "str" pos) (tC (.ty "str")) := pe_bltn (u := .type "str") hg B.str (by decide +kernel) rfl
end
end Up

set_option Elab.async false
set_option linter.all false
set_option maxRecDepth 100000
set_option maxHeartbeats 4000000
namespace Up
open PySem PySem.Spec PyProof.Rows L2
/-! ### one step of a reading each -/
section
variable {K : PySem.W.Frag} {D : Ends} {σ : L2.St} {H : Hp} {Q : VK} {ta tb te : TE} {t u : TS} {c d : TT}
theorem g_seq (h : t { D with nx := u D } σ H) : tSeq t u D σ H := h
theorem g_ifs (h : c σ H fun b H1 => if b = true then t D σ H1 else u D σ H1) : tIfS c t u D σ H := h
theorem g_asg {g : TG} (h : te σ H fun x H1 => g x σ H1 D.nx) : tAsg te g D σ H := h
theorem g_name {i : Nat} {v : V} {R : L2.St → Hp → Prop} (h : R (σ.set i (some v)) H) : gName i v σ H R := h
theorem g_drop (h : te σ H fun _ H1 => D.nx σ H1) : tDrop te D σ H := h
theorem g_ret (h : te σ H D.rt) : tRet te D σ H := h
theorem g_retN (h : D.rt .non H) : tRetN D σ H := h
theorem g_next (h : D.nx σ H) : tNext D σ H := h
theorem g_sfld {f : Str} (h : te σ H fun y H1 => ta σ H1 fun x H2 => ∃ a C dx fs, x = .ref a ∧ H2 a = some (.ins C dx fs) ∧ Cls K C ∧ NoAttr K C f ∧ fs.length < 1000 ∧ D.nx σ (upd H2 a (.ins C dx (putF f y fs)))) : sFld K ta te f D σ H := h
theorem g_var {i : Nat} {v : V} (e : σ[i]? = some (some v)) (h : Q v H) : tVar i σ H Q := ⟨v, e, h⟩
theorem g_c {v : V} (h : Q v H) : tC v σ H Q := h
theorem g_op {r : R2} (h : ta σ H fun x H1 => tb σ H1 fun y H2 => r x y H2 Q) : tOp r ta tb σ H Q := h
theorem g_un {r : V → Hp → VK → Prop} (h : ta σ H fun x H1 => r x H1 Q) : tUn r ta σ H Q := h
theorem g_neg {i : Int} (h : Q (.int (-i)) H) : rU (fun i => .int (-i)) (.int i) H Q := ⟨i, rfl, h⟩
theorem g_if (h : c σ H fun b H1 => if b = true then ta σ H1 Q else tb σ H1 Q) : tIf c ta tb σ H Q := h
theorem g_cb {r : List V → Hp → VK → Prop} {t : TA} (h : t σ H fun vs H1 => r vs H1 Q) : tCB r t σ H Q := h
theorem g_cons {t : TA} {R : List V → Hp → Prop} (h : ta σ H fun x H1 => t σ H1 fun xs H2 => R (x :: xs) H2) : tCons ta t σ H R := h
theorem g_nil {R : List V → Hp → Prop} (h : R [] H) : tNil σ H R := h
theorem g_bits (h : ta σ H fun x H1 => ∃ i, x = .int i ∧ Q (.int (Builtin.Int.intBits i : Nat)) H1) : tBits ta σ H Q := h
theorem g_call {sp : Sp} {dvs : List V} {E : XK} {t : TA} (h : t σ H fun vs H1 => sp (vs ++ dvs) H1 Q E) : tCall sp dvs E t σ H Q := h
theorem g_fld {f : Str} (h : ta σ H fun x H1 => ∃ a C dx fs v, x = .ref a ∧ H1 a = some (.ins C dx fs) ∧ Cls K C ∧ NoAttr K C f ∧ fs.lookup f = some v ∧ Q v H1) : tFld K ta f σ H Q := h
theorem g_gtup {n : Nat} {t : TGs} {v : V} {R : L2.St → Hp → Prop} (h : ∃ a xs, v = .ref a ∧ SqT K H a xs ∧ xs.length = n ∧ t xs σ H R) : gTup K n t v σ H R := h
theorem g_gcons {t : TG} {u : TGs} {v : V} {r : List V} {R : L2.St → Hp → Prop} (h : t v σ H fun σ' H' => u r σ' H' R) : gCons t u (v :: r) σ H R := ⟨v, r, rfl, h⟩
theorem g_gnil {R : L2.St → Hp → Prop} (h : R σ H) : gNil [] σ H R := ⟨rfl, h⟩
theorem g_gfld {f : Str} {v : V} {R : L2.St → Hp → Prop} (h : ta σ H fun x H1 => ∃ a C dx fs, x = .ref a ∧ H1 a = some (.ins C dx fs) ∧ Cls K C ∧ NoAttr K C f ∧ fs.length < 1000 ∧ R σ (upd H1 a (.ins C dx (putF f v fs)))) : gFld K ta f v σ H R := h
/-! tests -/
section
variable {R : Bool → Hp → Prop} {T : Bool → Prop}
theorem g_tt (h : ta σ H fun x H' => ∃ k, x = .bl k ∧ R k H') : tTest ta σ H R := h
theorem g_tB (h : ta σ H fun x H' => ∃ k, x = .bl k ∧ R k H') : tB ta σ H R := h
theorem g_bl {b : Bool} (h : T b) : ∃ k, V.bl b = .bl k ∧ T k := ⟨b, rfl, h⟩
theorem g_and (h : c σ H fun k H1 => if k = true then d σ H1 R else R false H1) : tAnd c d σ H R := h
theorem g_or (h : c σ H fun k H1 => if k = true then R true H1 else d σ H1 R) : tOr c d σ H R := h
theorem g_not (h : c σ H fun k H1 => R (!k) H1) : tNot c σ H R := h
theorem g_andV (h : ta σ H fun x H1 => ∃ c, x = .bl c ∧ if c = true then tb σ H1 Q else Q (.bl false) H1) : tAndV ta tb σ H Q := h
theorem g_orV (h : ta σ H fun x H1 => ∃ c, x = .bl c ∧ if c = true then Q (.bl true) H1 else tb σ H1 Q) : tOrV ta tb σ H Q := h
theorem g_notV (h : ta σ H fun x H1 => ∃ c, x = .bl c ∧ Q (.bl (!c)) H1) : tNotV ta σ H Q := h
end
/-! ints -/
section
variable {i j : Int}
theorem g_addI (h : Q (.int (i + j)) H) : oAdd K (.int i) (.int j) H Q := h
theorem g_addS {a b : Str} (hz : a.length + b.length ≤ sizeLine) (h : Q (.str (a ++ b)) H) : oAdd K (.str a) (.str b) H Q := ⟨hz, h⟩
theorem g_subI (h : Q (.int (i - j)) H) : oSub (.int i) (.int j) H Q := h
theorem g_subB {i j : Bool} (h : Q (.int (b2i i - b2i j)) H) : oSub (.bl i) (.bl j) H Q := h
theorem g_mulI (hm : IntMulOk i j) (h : Q (.int (i * j)) H) : oMul (.int i) (.int j) H Q := ⟨hm, h⟩
theorem g_divI (hm : j ≠ 0) (hl : j.natAbs.log2 < 9000) (h : Q (.int (i.fdiv j)) H) : oDiv (.int i) (.int j) H Q := ⟨⟨hm, hl⟩, h⟩
theorem g_modI (hm : j ≠ 0) (h : Q (.int (i.fmod j)) H) : oMod (.int i) (.int j) H Q := ⟨hm, h⟩
theorem g_II {C : Int → Int → Prop} {g : Int → Int → V} (hm : C i j) (h : Q (g i j) H) : oII C g (.int i) (.int j) H Q := ⟨hm, h⟩
theorem g_I0 {g : Int → Int → V} (h : Q (g i j) H) : oI0 g (.int i) (.int j) H Q := h
theorem g_cmpI {g : Int → Int → Bool} {k : Str → Str → Bool} (h : Q (.bl (g i j)) H) : oCmp g k (.int i) (.int j) H Q := h
theorem g_bitsI {T : Int → Prop} (h : T i) : ∃ n, V.int i = .int n ∧ T n := ⟨i, rfl, h⟩
theorem g_eqI (h : Q (.bl (decide (i = j))) H) : oEq K (.int i) (.int j) H Q := by
  refine Or.inl ⟨rfl, ?_⟩
  have e : decide (V.int i = V.int j) = decide (i = j) := by simp
  rw [e]; exact h
theorem g_neI (h : Q (.bl (!decide (i = j))) H) : oNe K (.int i) (.int j) H Q := by
  refine Or.inl ⟨rfl, ?_⟩
  have e : decide (V.int i = V.int j) = decide (i = j) := by simp
  rw [e]; exact h
theorem g_eqS {a b : Str} (h : Q (.bl (decide (a = b))) H) : oEq K (.str a) (.str b) H Q := by
  refine Or.inl ⟨rfl, ?_⟩
  have e : decide (V.str a = V.str b) = decide (a = b) := by simp
  rw [e]; exact h
theorem g_neS {a b : Str} (h : Q (.bl (!decide (a = b))) H) : oNe K (.str a) (.str b) H Q := by
  refine Or.inl ⟨rfl, ?_⟩
  have e : decide (V.str a = V.str b) = decide (a = b) := by simp
  rw [e]; exact h
theorem g_eqB {a b : Bool} (h : Q (.bl (decide (a = b))) H) : oEq K (.bl a) (.bl b) H Q := by
  refine Or.inl ⟨rfl, ?_⟩
  have e : decide (V.bl a = V.bl b) = decide (a = b) := by simp
  rw [e]; exact h
theorem g_neB {a b : Bool} (h : Q (.bl (!decide (a = b))) H) : oNe K (.bl a) (.bl b) H Q := by
  refine Or.inl ⟨rfl, ?_⟩
  have e : decide (V.bl a = V.bl b) = decide (a = b) := by simp
  rw [e]; exact h
theorem g_eqx {x y : V} (hs : scal x y = true) (hn : x ≠ y) (h : Q (.bl false) H) : oEq K x y H Q := by
  refine Or.inl ⟨hs, ?_⟩
  rw [decide_eq_false hn]; exact h
theorem g_nex {x y : V} (hs : scal x y = true) (hn : x ≠ y) (h : Q (.bl true) H) : oNe K x y H Q := by
  refine Or.inl ⟨hs, ?_⟩
  rw [decide_eq_false hn]; exact h
theorem g_isN {x : V} (h : Q (.bl (decide (x = .non))) H) : (fun x y H Q => y = V.non ∧ Q (.bl (decide (x = .non))) H : R2) x .non H Q := ⟨rfl, h⟩
end
/-! ifs -/
theorem g_ite {p : Prop} [Decidable p] {A B : Prop} (h1 : p → A) (h2 : ¬ p → B) : if decide p = true then A else B := by
  by_cases h : p
  · rw [if_pos (decide_eq_true h)]; exact h1 h
  · rw [if_neg (by simp [h])]; exact h2 h
theorem g_iten {p : Prop} [Decidable p] {A B : Prop} (h1 : ¬ p → A) (h2 : p → B) : if (!decide p) = true then A else B := by
  by_cases h : p
  · rw [if_neg (by simp [h])]; exact h2 h
  · rw [if_pos (by simp [h])]; exact h1 h
theorem g_iteb {b : Bool} {A B : Prop} (h1 : b = true → A) (h2 : b = false → B) : if b = true then A else B := by
  cases b
  · exact h2 rfl
  · exact h1 rfl
theorem g_yes {p : Prop} [Decidable p] {A B : Prop} (hp : p) (h : A) : if decide p = true then A else B := by
  rw [if_pos (decide_eq_true hp)]; exact h
theorem g_no {p : Prop} [Decidable p] {A B : Prop} (hp : ¬ p) (h : B) : if decide p = true then A else B := by
  rw [if_neg (by simp [hp])]; exact h
theorem g_cut {t u : TS} (R : L2.St → Hp → Prop) (h1 : t { D with nx := R } σ H) (h2 : ∀ σ' H', R σ' H' → u D σ' H') : C8.tCut t u D σ H := ⟨R, h1, h2⟩
theorem g_meth {C : Addr} {m : Str} {sp : Sp} {dvs : List V} {E : XK} {t : TA} (h : ta σ H fun x H1 => ∃ a dx fs, x = .ref a ∧ H1 a = some (.ins C dx fs) ∧ fs.lookup m = none ∧ t σ H1 fun vs H2 => sp (x :: (vs ++ dvs)) H2 Q E) : tMeth C m sp dvs E ta t σ H Q := h
theorem g_par {i j : Nat} {ta : TA} (h : ta σ H fun vs H1 => ∃ v w, vs = [v, w] ∧ D.nx ((σ.set i (some v)).set j (some w)) H1) : tPar i j ta D σ H := h
theorem g_par2 {a b : V} {T : V → V → Prop} (h : T a b) : ∃ v w, [a, b] = [v, w] ∧ T v w := ⟨a, b, rfl, h⟩
theorem g_rfl {a : V} {T : Prop} (h : T) : a = a ∧ T := ⟨rfl, h⟩
theorem g_ixT {p : Addr} {xs : List V} {i : Int} {v : V} (h : H p = some (.tup xs)) (e : atI xs i = some v) (q : Q v H) : rIx K (.ref p) (.int i) H Q := .inr (.inl ⟨p, xs, i, v, rfl, rfl, SqT.of h, e, q⟩)
theorem g_ixL {p : Addr} {xs : List V} {i : Int} {v : V} (h : H p = some (.lst xs)) (e : atI xs i = some v) (q : Q v H) : rIx K (.ref p) (.int i) H Q := .inl ⟨p, xs, i, v, rfl, rfl, SqL.of h, e, q⟩
/-! loops -/
theorem g_for {wi : TI} {g : TG} {tb : TS} (h : wi σ H fun J H1 => ∃ W : Nat → Nat → L2.St → Hp → Prop, (∃ m, W 0 m σ H1) ∧ ∀ i m σ H, W i m σ H →
  (J.stop i H ∧ D.nx σ H) ∨ (J.go i H ∧ ∃ N : L2.St → Hp → Prop, (∀ σ' H', N σ' H' → ∃ m', m' < m ∧ W (i + 1) m' σ' H') ∧ ∀ x H', J.yld i H x H' → g x σ H' fun σ2 H2 => tb { D with nx := N, ct := N, bk := D.nx } σ2 H2)) : tFor wi g tb D σ H := h
theorem g_iList {R : It → Hp → Prop} (h : te σ H fun x H1 => ∃ a, x = .ref a ∧ (∃ xs, SqL K H1 a xs) ∧ R (Itl K a) H1) : iList K te σ H R := h
theorem g_iTup {R : It → Hp → Prop} (h : te σ H fun x H1 => ∃ a, x = .ref a ∧ (∃ xs, SqT K H1 a xs) ∧ R (Itt K a) H1) : iTup K te σ H R := h
theorem g_iRng1 {ta : TA} {R : It → Hp → Prop} (h : ta σ H fun vs H1 => ∃ j : Int, vs = [.int j] ∧ -(2 ^ 62) ≤ j ∧ j < 2 ^ 62 ∧ R (Itr 0 j.toNat) H1) : iRng1 ta σ H R := h
theorem g_iEnum {ta : TA} {R : It → Hp → Prop} (h : ta σ H fun vs H1 => ∃ a xs, vs = [.ref a] ∧ SqL K H1 a xs ∧ R (Ite K a) H1) : iEnum K ta σ H R := h
theorem g_slice {r : V → Option Int → Option Int → Hp → VK → Prop} {tl th : TO} (h : te σ H fun x H1 => tl σ H1 fun l H2 => th σ H2 fun u H3 => r x l u H3 Q) : tSl r te tl th σ H Q := h
theorem g_po0 {R : Option Int → Hp → Prop} (h : R none H) : tNoPart σ H R := h
theorem g_po1 {R : Option Int → Hp → Prop} (h : te σ H fun x H1 => ∃ i, x = .int i ∧ R (some i) H1) : tPart te σ H R := h
theorem g_poI {i : Int} {T : Int → Prop} (h : T i) : ∃ n, V.int i = .int n ∧ T n := ⟨i, rfl, h⟩
theorem g_gsub {to ti : TE} {t : TSet} {v : V} {R : L2.St → Hp → Prop} (h : to σ H fun o H1 => ti σ H1 fun i H2 => t o i v H2 fun H3 => R σ H3) : gSub to ti t v σ H R := h
theorem g_intI {i : Int} {T : Int → Prop} {U : Prop} (h : T i) : (∃ j, [V.int i] = [.int j] ∧ T j) ∨ U := .inl ⟨i, rfl, h⟩
theorem g_intB {b : Bool} {T : Bool → Prop} {U : Prop} (h : T b) : U ∨ ∃ k, [V.bl b] = [.bl k] ∧ T k := .inr ⟨b, rfl, h⟩
theorem g_setL {p : Addr} {xs : List V} {k : Int} {j : Nat} {v : V} {R : Hp → Prop} (h : H p = some (.lst xs)) (e : ixN xs.length k = some j) (q : ∀ H', H' p = some (.lst (xs.set j v)) → (∀ b, b ≠ p → H' b = H b) → R H') : rSetL (.ref p) (.int k) v H R :=
  ⟨p, xs, k, j, rfl, rfl, h, e, q _ upd_same fun b hb => upd_ne hb⟩
theorem g_max2 {i j : Int} {T : Int → Int → Prop} (h : T i j) : ∃ a b, [V.int i, V.int j] = [.int a, .int b] ∧ T a b := ⟨i, j, rfl, h⟩
theorem g_abs1 {i : Int} {T : Int → Prop} (h : T i) : ∃ a, [V.int i] = [.int a] ∧ T a := ⟨i, rfl, h⟩
theorem g_lenL {p : Addr} {xs : List V} {T : List V → Prop} (h : H p = some (.lst xs)) (q : T xs) : ∃ p' ys, [V.ref p] = [.ref p'] ∧ (SqL K H p' ys ∨ SqT K H p' ys) ∧ T ys := ⟨p, xs, rfl, .inl (SqL.of h), q⟩
theorem g_lc {wi : TI} {g : TG} {tt : TT} {vs : List Nat} (h : wi σ H fun J H1 => ∀ D, H1 D = none → ∃ W : Nat → Nat → Hp → Prop, (∃ m, W 0 m (upd H1 D (.lst []))) ∧ ∀ i m H, W i m H →
  (J.stop i H ∧ Q (.ref D) H) ∨ (J.go i H ∧ ∃ Nx : Hp → Prop, (∀ H', Nx H' → ∃ m', m' < m ∧ W (i + 1) m' H') ∧ ∀ x H', J.yld i H x H' → g x (wipe σ vs) H' fun σ2 H2 => wipe σ2 vs = wipe σ vs ∧ tt σ2 H2 fun b H3 =>
    if b = true then te σ2 H3 fun y H4 => ∃ acc, H4 D = some (.lst acc) ∧ acc.length < sizeLine ∧ Nx (upd H4 D (.lst (acc ++ [y]))) else Nx H3)) : tLc wi g tt te vs σ H Q := h
theorem g_yesT {R : Bool → Hp → Prop} (h : R true H) : tYes σ H R := h
theorem dp_bl : ∀ bs : List Bool, DpAll K H (bs.map V.bl) (bs.map PyData.bool)
  | [] => .nil
  | b :: bs => .cons (.bl b) (dp_bl bs)
theorem g_eqBs {a b : Addr} {bs : List Bool} (ha : H a = some (.lst (bs.map V.bl))) (hb : H b = some (.lst (bs.map V.bl))) (hs : SeqAt.shaped (.list (bs.map PyData.bool)) = true) (q : Q (.bl true) H) : oEq K (.ref a) (.ref b) H Q := by
  refine .inr ⟨_, _, .lst (SqL.of ha) (dp_bl bs), .lst (SqL.of hb) (dp_bl bs), hs, hs, ?_⟩
  rw [SeqAt.eqv_refl _ (SeqAt.canLay_of_shaped hs)]
  exact q
/-! new objects -/
theorem g_tup {t : TA} (h : t σ H fun xs H1 => xs.length ≤ sizeLine ∧ NewAt H1 (.tup xs) Q) : tTupN t σ H Q := h
theorem g_lst {t : TA} (h : t σ H fun xs H1 => xs.length ≤ sizeLine ∧ NewAt H1 (.lst xs) Q) : tLstN t σ H Q := h
theorem g_new {n : Nat} {o : HO} (hn : n ≤ sizeLine) (h : ∀ p H', H p = none → Same H H' → H' p = some o → (∀ b, b ≠ p → H' b = H b) → Q (.ref p) H') : n ≤ sizeLine ∧ NewAt H o Q := ⟨hn, h⟩
theorem g_make {C : Addr} {sp : Sp} {dvs : List V} {E : XK} {t : TA} (h : t σ H fun vs H1 => MakeR C sp (vs ++ dvs) H1 Q E) : tMakeN C sp dvs E t σ H Q := h
end
end Up

set_option Elab.async false
set_option linter.all false
set_option maxRecDepth 100000
set_option maxHeartbeats 4000000
namespace Up
open PySem PySem.Spec PyProof.Rows L2
/-! ### what a call hands back, over a heap in which all that stood stands -/
abbrev Ret (H : Hp) (v : V) (Q : VK) : Prop := ∀ H', Same H H' → Q v H'
abbrev RetT (H : Hp) (xs : List V) (Q : VK) : Prop := ∀ H' a, H a = none → Same H H' → H' a = some (.tup xs) → Q (.ref a) H'
abbrev RetL (H : Hp) (xs : List V) (Q : VK) : Prop := ∀ H' a, H a = none → Same H H' → H' a = some (.lst xs) → Q (.ref a) H'
/-! ### what is known of a value's kind -/
def isI : V → Bool
  | .int _ => true
  | _ => false
def isB : V → Bool
  | .bl _ => true
  | _ => false
def isS : V → Bool
  | .str _ => true
  | _ => false
/-- the classes int, bool, str asked of x -/
structure Kn (K : PySem.W.Frag) (H : Hp) (x : V) (t : Value) : Prop where
  ty : TyX K H x t
  int : PySem.W.kitOne K t (.type "int") = some (isI x || isB x)
  bool : PySem.W.kitOne K t (.type "bool") = some (isB x)
  str : PySem.W.kitOne K t (.type "str") = some (isS x)
theorem kn_non {K : PySem.W.Frag} {H : Hp} : Kn K H .non (.type "NoneType") := ⟨.base .non, kit_ty (r := false) (by decide +kernel), kit_ty (r := false) (by decide +kernel), kit_ty (r := false) (by decide +kernel)⟩
theorem kn_bl {K : PySem.W.Frag} {H : Hp} {b : Bool} : Kn K H (.bl b) (.type "bool") := ⟨.base (.bl b), kit_ty (r := true) (by decide +kernel), kit_ty (r := true) (by decide +kernel), kit_ty (r := false) (by decide +kernel)⟩
theorem kn_int {K : PySem.W.Frag} {H : Hp} {i : Int} : Kn K H (.int i) (.type "int") := ⟨.base (.int i), kit_ty (r := true) (by decide +kernel), kit_ty (r := false) (by decide +kernel), kit_ty (r := false) (by decide +kernel)⟩
theorem kn_str {K : PySem.W.Frag} {H : Hp} {i : Str} : Kn K H (.str i) (.type "str") := ⟨.base (.str i), kit_ty (r := false) (by decide +kernel), kit_ty (r := false) (by decide +kernel), kit_ty (r := true) (by decide +kernel)⟩
theorem kn_lst {K : PySem.W.Frag} {H : Hp} {a : Addr} {xs : List V} (h : H a = some (.lst xs)) : Kn K H (.ref a) (.type "list") := ⟨.base (.lst h), kit_ty (r := false) (by decide +kernel), kit_ty (r := false) (by decide +kernel), kit_ty (r := false) (by decide +kernel)⟩
theorem kn_tup {K : PySem.W.Frag} {H : Hp} {a : Addr} {xs : List V} (h : H a = some (.tup xs)) : Kn K H (.ref a) (.type "tuple") := ⟨.base (.tup h), kit_ty (r := false) (by decide +kernel), kit_ty (r := false) (by decide +kernel), kit_ty (r := false) (by decide +kernel)⟩
theorem kn_dK {K : PySem.W.Frag} {H : Hp} {a : Addr} {xs : List (Key × V)} (h : H a = some (.dK xs)) : Kn K H (.ref a) (.type "dict") := ⟨.base (.dK h), kit_ty (r := false) (by decide +kernel), kit_ty (r := false) (by decide +kernel), kit_ty (r := false) (by decide +kernel)⟩
/-- an own class whose instances are no int, bool, str -/
structure OwnC (K : PySem.W.Frag) (C : Addr) : Prop where
  cl : Cls K C
  ha : PySem.W.findIn K (.ref C) "__class__" = some (some (.builtin "object.__class__"))
  hn : PySem.W.specialIn K (.builtin "object.__class__") "__get__" = some (some (.builtin "getset_descriptor.__get__"))
  htk : PySem.W.takesIn K (.builtin "object.__class__") = some true
  hm : PySem.W.mroIn K C (.type "object") = some true
  int : PySem.W.kitOne K (.ref C) (.type "int") = some false
  bool : PySem.W.kitOne K (.ref C) (.type "bool") = some false
  str : PySem.W.kitOne K (.ref C) (.type "str") = some false
theorem kn_ins {K : PySem.W.Frag} {H : Hp} {a C dx : Addr} {fs : List (Str × V)} (T : OwnC K C) (h : H a = some (.ins C dx fs)) : Kn K H (.ref a) (.ref C) := ⟨.base (.ins h T.cl T.ha T.hn T.htk T.hm), T.int, T.bool, T.str⟩
theorem g_isi {K : PySem.W.Frag} {H : Hp} {Q : VK} {x c : V} {t u : Value} {b : Bool} (ht : TyX K H x t) (hc : ClsV c u) (hk : PySem.W.kitOne K t u = some b) (q : Q (.bl b) H) : rIsi K [x, c] H Q := ⟨x, c, t, u, b, rfl, hc, ht, hk, q⟩
section
variable {K : PySem.W.Frag} {H H' : Hp} {Q : VK} {x : V} {t : Value}
theorem TyX.same (s : Same H H') (h : TyX K H x t) : TyX K H' x t := by
  cases h with
  | base h => cases h with
    | non => exact .base .non
    | bl b => exact .base (.bl b)
    | int b => exact .base (.int b)
    | str b => exact .base (.str b)
    | flt b => exact .base (.flt b)
    | lst e => exact .base (.lst (s _ _ e))
    | frz e => exact .base (.frz (s _ _ e))
    | tup e => exact .base (.tup (s _ _ e))
    | dK e => exact .base (.dK (s _ _ e))
    | dT e => exact .base (.dT (s _ _ e))
    | ins e c h1 h2 h3 h4 => exact .base (.ins (s _ _ e) c h1 h2 h3 h4)
  | byt b => exact .byt b
  | set e => exact .set (s _ _ e)
  | kList e c => exact .kList e c
  | kTuple e c => exact .kTuple e c
  | kDict e c => exact .kDict e c
  | fTuple e => exact .fTuple (s _ _ e)
  | fDict e => exact .fDict (s _ _ e)
theorem Kn.same (s : Same H H') (h : Kn K H x t) : Kn K H' x t := ⟨TyX.same s h.ty, h.int, h.bool, h.str⟩
theorem g_isiInt (h : Kn K H x t) (q : Q (.bl (isI x || isB x)) H) : rIsi K [x, .ty "int"] H Q := g_isi h.ty (.ty _) h.int q
theorem g_isiBool (h : Kn K H x t) (q : Q (.bl (isB x)) H) : rIsi K [x, .ty "bool"] H Q := g_isi h.ty (.ty _) h.bool q
theorem g_isiStr (h : Kn K H x t) (q : Q (.bl (isS x)) H) : rIsi K [x, .ty "str"] H Q := g_isi h.ty (.ty _) h.str q
end
end Up

set_option Elab.async false
set_option linter.all false
set_option maxRecDepth 100000
set_option maxHeartbeats 4000000
namespace Up
open PySem PySem.Spec PyProof.Rows L2 PySem.SeqAt HN
/-! ### == of None and of instances of a class without an own one -/
structure IdC (K : PySem.W.Frag) (C : Addr) : Prop where
  hm : PySem.W.mroIn K C (.type "object") = some true
  he : PySem.W.findIn K (.ref C) "__eq__" = some (some (.builtin "object.__eq__"))
  hn : PySem.W.subIn K (.ref C) (.type "NoneType") = some false
section
variable {M : Model} {prog : Program} {w : World} {A : Around} {E : Value → Shared → Prop} {s : Shared} {K : PySem.W.Frag} {x y C : Addr} {ox oy : Obj} {od oe : Option Obj}
theorem inst_nt (I : PySem.W.InstAt s.heap x ox C od) : ox.cls ≠ .type "tuple" := by
  obtain ⟨_, hc, _, _⟩ := I
  rw [hc]; exact fun z => nomatch z
theorem obj_other {Q : Value → Shared → Prop} (X : K.In s.heap) (I : PySem.W.InstAt s.heap x ox C od) (J : PySem.W.InstAt s.heap y oy C oe) (T : IdC K C) (hxy : x ≠ y) (hq : Q .notImplemented s) :
    wpAny (model prog w) A (call (.builtin "object.__eq__") [.ref x, .ref y]) Q E s :=
  wpAny_call (codeAny_call_builtin PySem.F.cmp_object.eq.plain PySem.F.cmpEntry_eq (PySem.W.check_slot PySem.F.cmpKind_eq PySem.F.cmpSplit_eq (I.type.andThen (PySem.W.looks_mroIn X T.hm)) (PySem.F.cmpArgs_eq _ _) (objEq_entry_other hxy I.1 J.1 (inst_nt I) hq)))
theorem obj_same {Q : Value → Shared → Prop} (X : K.In s.heap) (I : PySem.W.InstAt s.heap x ox C od) (T : IdC K C) (hq : Q (.bool true) s) :
    wpAny (model prog w) A (call (.builtin "object.__eq__") [.ref x, .ref x]) Q E s :=
  wpAny_call (codeAny_call_builtin PySem.F.cmp_object.eq.plain PySem.F.cmpEntry_eq (PySem.W.check_slot PySem.F.cmpKind_eq PySem.F.cmpSplit_eq (I.type.andThen (PySem.W.looks_mroIn X T.hm)) (PySem.F.cmpArgs_eq _ _) (objEq_entry_same hq)))
theorem try_other {Q : Option Value → Shared → Prop} (X : K.In s.heap) (I : PySem.W.InstAt s.heap x ox C od) (J : PySem.W.InstAt s.heap y oy C oe) (T : IdC K C) (hxy : x ≠ y) (hq : Q none s) :
    wpAny (model prog w) A (tryCompare (.ref x) "__eq__" (.ref y)) Q E s := by
  unfold tryCompare
  exact wpAny_bind (ifBound_objEq X I T.he (obj_other X I J T hxy (wpAny_pure hq)))
theorem try_same {Q : Option Value → Shared → Prop} (X : K.In s.heap) (I : PySem.W.InstAt s.heap x ox C od) (T : IdC K C) (hq : Q (some (.bool true)) s) :
    wpAny (model prog w) A (tryCompare (.ref x) "__eq__" (.ref x)) Q E s := by
  unfold tryCompare
  exact wpAny_bind (ifBound_objEq X I T.he (obj_same X I T (wpAny_pure hq)))
theorem try_rn {Q : Option Value → Shared → Prop} (X : K.In s.heap) (I : PySem.W.InstAt s.heap x ox C od) (T : IdC K C) (hq : Q none s) :
    wpAny (model prog w) A (tryCompare (.ref x) "__eq__" .none) Q E s := by
  unfold tryCompare
  exact wpAny_bind (ifBound_objEq X I T.he (HN.call_objEq X I T.hm (wpAny_pure hq)))
theorem try_nr {Q : Option Value → Shared → Prop} (hq : Q none s) : wpAny (model prog w) A (tryCompare .none "__eq__" (.ref x)) Q E s :=
  wpAny_tryCompare_declines (show s.TypeIs .none "NoneType" from rfl) PySem.F.slot_NoneType_eq_refl (call_gives PySem.F.slot_NoneType_eq_refl rfl PySem.F.entry_NoneType_eq (PySem.F.args_NoneType_eq_2 _ _) (NoneType___eq___none_ref_0 x) ⟨rfl, hq⟩)
theorem rc_same {Q : Value → Shared → Prop} (hu : A.units < cLine) (X : K.In s.heap) (I : PySem.W.InstAt s.heap x ox C od) (T : IdC K C) (hq : Q (.bool true) s) : wpAny (model prog w) A (richCompare .Eq (.ref x) (.ref x)) Q E s := by
  simp only [richCompare, cmpInfo_Eq, oneThing_ref]
  refine wpAny_holding (wpAny_bind (wpAny_cRoomFor hu ?_))
  refine wpAny_bind (I.type.here (wpAny_bind (I.type.here ?_)))
  simp only [bne_self_eq_false, Bool.false_eq_true, if_false]
  refine wpAny_bind (wpAny_pure (wpAny_bind (m := tryCompare (.ref x) _ (.ref x)) (try_same X I T ?_)))
  exact wpAny_pure hq
theorem rc_other {Q : Value → Shared → Prop} (hu : A.units < cLine) (X : K.In s.heap) (I : PySem.W.InstAt s.heap x ox C od) (J : PySem.W.InstAt s.heap y oy C oe) (T : IdC K C) (hxy : x ≠ y) (hq : Q (.bool false) s) : wpAny (model prog w) A (richCompare .Eq (.ref x) (.ref y)) Q E s := by
  simp only [richCompare, cmpInfo_Eq, oneThing_ref]
  refine wpAny_holding (wpAny_bind (wpAny_cRoomFor hu ?_))
  refine wpAny_bind (I.type.here (wpAny_bind (J.type.here ?_)))
  simp only [bne_self_eq_false, Bool.false_eq_true, if_false]
  refine wpAny_bind (wpAny_pure (wpAny_bind (m := tryCompare (.ref x) _ (.ref y)) (try_other X I J T hxy ?_)))
  simp only [Bool.false_eq_true, if_false, Bool.not_false, if_true]
  refine wpAny_bind (m := tryCompare (.ref y) _ (.ref x)) (try_other X J I T hxy.symm ?_)
  exact wpAny_bind (wpAny_rule (wpAny_bind (wpAny_isSame_ref_other hxy I.1 J.1 (inst_nt I) (wpAny_pure hq))))
theorem rc_nr {Q : Value → Shared → Prop} (hu : A.units < cLine) (X : K.In s.heap) (I : PySem.W.InstAt s.heap x ox C od) (T : IdC K C) (hq : Q (.bool false) s) : wpAny (model prog w) A (richCompare .Eq .none (.ref x)) Q E s := by
  have h0 : oneThing? .Eq .none (.ref x) = none := rfl
  simp only [richCompare, cmpInfo_Eq, h0]
  refine wpAny_holding (wpAny_bind (wpAny_cRoomFor hu ?_))
  refine wpAny_bind (wpAny_typeOf (show s.TypeIs .none "NoneType" from rfl) (wpAny_bind (I.type.here ?_)))
  split
  · refine wpAny_bind ((PySem.W.looks_subIn X T.hn).here ?_)
    simp only [Bool.false_eq_true, if_false, Bool.not_false, if_true]
    refine wpAny_bind (m := tryCompare .none _ (.ref x)) (try_nr ?_)
    refine wpAny_bind (m := tryCompare (.ref x) _ .none) (try_rn X I T ?_)
    exact wpAny_bind (wpAny_rule (wpAny_bind (wpAny_of_eq (rfl : isSame .none (.ref x) = pure false) (wpAny_pure hq))))
  · rename_i q
    exact absurd (by simp) q
end
/-- None, or an instance of the class at C -/
def IdV (C : Addr) (H : Hp) (x : V) : Prop := x = .non ∨ ∃ a dx fs, x = .ref a ∧ H a = some (.ins C dx fs)
def rEqId (C : Addr) : R2 := fun x y H Q => IdV C H x ∧ IdV C H y ∧ Q (.bl (decide (x = y))) H
theorem op_eqId {X : Cx} {C : Addr} (T : IdC X.K C) (hu : X.A.units + 64 < cLine) : OpR X (compareOp .Eq) (rEqId C) := by
  intro pins s σ H x y v u Q I rx ry h
  obtain ⟨h1, h2, q⟩ := h
  have hu0 : X.A.units < cLine := by omega
  show wpAny (model X.prog X.w) X.A (richCompare .Eq v u) (EP X pins σ Q) X.xe s
  rcases h1 with rfl | ⟨a, dx, fs, rfl, ha⟩
  · rcases h2 with rfl | ⟨b, dy, gs, rfl, hb⟩
    · exact op_eq pins s σ H .non .non v u Q I rx ry ⟨rfl, q⟩
    · cases rx
      cases ry
      obtain ⟨mA, O, _⟩ := ins_get I.hok hb
      obtain ⟨od, J, _⟩ := O.look
      exact rc_nr hu0 I.kIn J T ⟨.bl false, H, I, rfl, q⟩
  · obtain ⟨mA, O, _⟩ := ins_get I.hok ha
    obtain ⟨od, J, _⟩ := O.look
    rcases h2 with rfl | ⟨b, dy, gs, rfl, hb⟩
    · cases rx
      cases ry
      exact rc_none hu0 I.kIn J T.hm T.he X.prog X.w X.xe _ ⟨.bl false, H, I, rfl, q⟩
    · cases rx
      cases ry
      obtain ⟨mB, O2, _⟩ := ins_get I.hok hb
      obtain ⟨oe, J2, _⟩ := O2.look
      by_cases hab : a = b
      · subst hab
        rw [decide_eq_true rfl] at q
        exact rc_same hu0 I.kIn J T ⟨.bl true, H, I, rfl, q⟩
      · rw [decide_eq_false (fun z => hab (by injection z))] at q
        exact rc_other hu0 I.kIn J J2 T hab ⟨.bl false, H, I, rfl, q⟩
def oEqI (K : PySem.W.Frag) (C : Addr) : R2 := fun x y H Q => oEq K x y H Q ∨ rEqId C x y H Q
theorem op_oEqI {X : Cx} {C : Addr} (T : IdC X.K C) (hu : X.A.units + 64 < cLine) : OpR X (compareOp .Eq) (oEqI X.K C) := op_or (op_oEq hu) (op_eqId T hu)
end Up

set_option Elab.async false
set_option linter.all false
set_option maxRecDepth 100000
set_option maxHeartbeats 4000000
namespace Up
open PySem PySem.Spec PyProof.Rows L2 PySem.SeqAt HN
/-! ### == and != of two instances of a class with its own __eq__ -/
def EqC (P : Program) (w : World) (K : PySem.W.Frag) (mg : Str → Option Value) (base : Heap) (k : Nat) (C : Addr) (sp : Sp) : Prop :=
  ∃ f fd, FnOk P w K mg base CX0 k f fd ["self", "other"] sp ∧ PySem.W.findIn K (.ref C) "__eq__" = some (some (.ref f)) ∧ PySem.W.isFn K (.ref f) = true ∧ Binds K fd ["self", "other"] [] ∧
    PySem.W.findIn K (.ref C) "__ne__" = some (some (.builtin "object.__ne__")) ∧ PySem.W.mroIn K C (.type "object") = some true
def rEqO (C : Addr) (sp : Sp) : R2 := fun x y H Q => ∃ a b dx dy fs gs, x = .ref a ∧ y = .ref b ∧ H a = some (.ins C dx fs) ∧ H b = some (.ins C dy gs) ∧ sp [.ref a, .ref b] H (fun v H' => ∃ c, v = .bl c ∧ Q (.bl c) H') E0
def rNeO (C : Addr) (sp : Sp) : R2 := fun x y H Q => ∃ a b dx dy fs gs, x = .ref a ∧ y = .ref b ∧ H a = some (.ins C dx fs) ∧ H b = some (.ins C dy gs) ∧ sp [.ref a, .ref b] H (fun v H' => ∃ c, v = .bl c ∧ Q (.bl (!c)) H') E0
section
variable {X : Cx} {C : Addr} {k : Nat} {sp : Sp}
/-- the own __eq__ runs, wherever it is called from -/
theorem run_eq {pins : List (Addr × Obj)} {σ : L2.St} {H : Hp} {s : Shared} {A : Around} {f a b : Addr} {fd : FuncData} {Qv : VK} {R : Value → Shared → Prop} {E : Value → Shared → Prop} (F : FnOk X.prog X.w X.K X.mg X.base CX0 k f fd ["self", "other"] sp) (hb : Binds X.K fd ["self", "other"] [])
    (hr : Room k A) (hA : A.frames = X.A.frames) (I : L2.Inv X pins σ H s) (h : sp [.ref a, .ref b] H Qv E0) (q : ∀ v u H' s', L2.Inv X pins σ H' s' → L2.RelV v u → Qv v H' → R u s') : wpAny (model X.prog X.w) A (call (.ref f) [.ref a, .ref b]) R E s := by
  have e := I.env0
  have e0 : Env0 X.prog X.w X.K X.mg X.base A X.stack s H := ⟨by rw [hA]; exact e.frames, e.mod, e.bs, e.bsz, e.funs, e.frf, e.hok, e.bare⟩
  have r2 : Vals [V.ref a, V.ref b] [Value.ref a, Value.ref b] := .cons rfl (.cons rfl .nil)
  have bb := hb s [.ref a, .ref b] I.kIn rfl
  refine wpAny_call (codeAny_mono (F.run A X.stack s H ⟨[.ref a, .ref b], []⟩ [.ref a, .ref b] [.ref a, .ref b] Qv E0 hr e0 bb r2 h) fun r s' hq => ?_)
  cases r with
  | error e => exact hq.elim
  | ok fl =>
    cases fl with
    | ret u =>
      obtain ⟨v, H', I', rv, qv⟩ := I.after hq
      exact q v u H' s' I' rv qv
    | next => exact False.elim hq
    | brk => exact False.elim hq
    | cont => exact False.elim hq
theorem op_eqO (T : EqC X.prog X.w X.K X.mg X.base k C sp) (hr : Room k X.A) : OpR X (compareOp .Eq) (rEqO C sp) := by
  intro pins s σ H x y v u Q I rx ry h
  obtain ⟨f, fd, F, hs, hf, hb, hne, hm⟩ := T
  obtain ⟨a, b, dx, dy, fs, gs, rfl, rfl, ha, hb', h⟩ := h
  cases rx
  cases ry
  obtain ⟨mA, J, _⟩ := ins_get I.hok ha
  obtain ⟨mB, J', _⟩ := ins_get I.hok hb'
  obtain ⟨od, J, _⟩ := J.look
  obtain ⟨od', J', _⟩ := J'.look
  obtain ⟨m, hF⟩ := I.fr
  show wpAny (model X.prog X.w) X.A (richCompare .Eq (.ref a) (.ref b)) (EP X pins σ Q) X.xe s
  refine PySem.W.cmp_K (op := .Eq) (tb := .ref C) hr.units0 hF I.ok.mod.kin J J'.type (by simp [PySem.W.notFirst]) hs hf ?_
  refine run_eq F hb hr rfl I h fun v u H' s' I' rv qv => ?_
  obtain ⟨c, rfl, qv⟩ := qv
  cases rv
  exact ⟨.bl c, H', I', rfl, qv⟩
theorem ifBound_objNe {M : Model} {A : Around} {E : Value → Shared → Prop} {s : Shared} {K : PySem.W.Frag} {x C : Addr} {ox : Obj} {od : Option Obj} {args : List Value} {Q : Option Value → Shared → Prop} (Y : K.In s.heap) (I : PySem.W.InstAt s.heap x ox C od) (hs : PySem.W.findIn K (.ref C) "__ne__" = some (some (.builtin "object.__ne__")))
    (h : wpAny M A (call (.builtin "object.__ne__") (.ref x :: args)) (fun v => Q (some v)) E s) : wpAny M A (callSpecialIfBound? (.ref x) "__ne__" args) Q E s := by
  simp only [callSpecialIfBound?, bindSpecialIfBound?]
  refine wpAny_holding (wpAny_bind (wpAny_bind (wpAny_bind (I.type.here ((PySem.W.looks_findIn Y hs).here ?_)))))
  refine wpAny_bind (wpAny_askSetting (wpAny_ite ?_))
  have fin : wpAny M A (call (.builtin "object.__ne__") ([.ref x] ++ args) >>= fun v => pure (some v)) Q E s := wpAny_bind (wpAny_mono h (fun v s' z => wpAny_pure z) fun _ _ z => z)
  split
  · exact wpAny_bind (wpAny_of_eq (PySem.F.cmp_object.ne.bind _) (wpAny_pure (by exact fin)))
  · exact wpAny_tryCatch (wpAny_bind (wpAny_of_eq (PySem.F.cmp_object.ne.bind _) (wpAny_pure (by exact fin))))
theorem op_neO (T : EqC X.prog X.w X.K X.mg X.base k C sp) (hr : Room (k + 1) X.A) : OpR X (compareOp .NotEq) (rNeO C sp) := by
  intro pins s σ H x y v u Q I rx ry h
  obtain ⟨f, fd, F, hs, hf, hb, hne, hm⟩ := T
  obtain ⟨a, b, dx, dy, fs, gs, rfl, rfl, ha, hb', h⟩ := h
  cases rx
  cases ry
  obtain ⟨mA, J, _⟩ := ins_get I.hok ha
  obtain ⟨mB, J', _⟩ := ins_get I.hok hb'
  obtain ⟨od, J, _⟩ := J.look
  obtain ⟨od', J', _⟩ := J'.look
  show wpAny (model X.prog X.w) X.A (richCompare .NotEq (.ref a) (.ref b)) (EP X pins σ Q) X.xe s
  have hu := hr.un
  have one : wpAny (model X.prog X.w) X.A (tryCompare (.ref a) "__ne__" (.ref b)) (fun r s' => ∃ v, r = some v ∧ EP X pins σ Q v s') X.xe s := by
    unfold tryCompare
    refine wpAny_bind (ifBound_objNe I.kIn J hne ?_)
    refine wpAny_call (codeAny_call_builtin PySem.F.cmp_object.ne.plain PySem.F.cmpEntry_ne (PySem.W.check_slot PySem.F.cmpKind_ne PySem.F.cmpSplit_ne (J.type.andThen (PySem.W.looks_mroIn I.kIn hm)) (PySem.F.cmpArgs_ne _ _) ?_))
    unfold Builtin.«object.__ne__»
    refine wpAny_bind (wpAny_of_eq (a := ((Value.ref a : Value), [Value.ref b])) (by first | rfl | (simp only [slotArgs]; rfl)) ?_)
    refine wpAny_bind (wpAny_cRoomFor (by show X.A.units + 1 < cLine; omega) ?_)
    refine wpAny_bind (PySem.W.ifBound_K I.kIn J hs hf ?_)
    refine run_eq F hb hr.in1 rfl I h fun v u H' s' I' rv qv => ?_
    obtain ⟨c, rfl, qv⟩ := qv
    cases rv
    refine wpAny_bind (wpAny_truthy_bool (wpAny_pure ?_))
    exact wpAny_pure ⟨_, rfl, .bl (!c), H', I', rfl, qv⟩
  unfold richCompare
  simp only [oneThing_ref, cmpInfo_NotEq]
  refine wpAny_holding (wpAny_bind (wpAny_cRoomFor (by omega) ?_))
  refine wpAny_bind (J.type.here (wpAny_bind (J'.type.here ?_)))
  simp only [bne_self_eq_false, Bool.false_eq_true, if_false]
  refine wpAny_bind (wpAny_pure (wpAny_bind (m := tryCompare (.ref a) _ (.ref b)) (wpAny_mono one (fun r s' z => ?_) fun _ _ e => e)))
  obtain ⟨v, rfl, z⟩ := z
  exact wpAny_pure z
end
end Up

set_option Elab.async false
set_option linter.all false
set_option maxRecDepth 100000
set_option maxHeartbeats 4000000
namespace Up
open PySem PySem.Spec PyProof.Rows L2
/-- an expression that the proof never comes to -/
def tNevE : TE := fun _ _ _ => False
theorem pe_never {X : Cx} {e : Expr} : PE X e tNevE := ⟨fun _ _ _ _ _ _ h => h.elim⟩
/-- a test, a value read once with a middle term -/
def tCutT (t : TT) : TT := fun σ H R => ∃ P : Bool → Hp → Prop, t σ H P ∧ ∀ b H', P b H' → R b H'
theorem pt_cut {X : Cx} {e : Expr} {t : TT} (h : PT X e t) : PT X e (tCutT t) := ⟨fun pins s σ H Q I ⟨P, h1, h2⟩ => wpAny_mono (h.run pins s σ H P I h1) (fun b s' ⟨H', I', p⟩ => ⟨H', I', h2 _ _ p⟩) fun _ _ e => e⟩
def tCutE (t : TE) : TE := fun σ H R => ∃ P : VK, t σ H P ∧ ∀ b H', P b H' → R b H'
theorem pe_cut {X : Cx} {e : Expr} {t : TE} (h : PE X e t) : PE X e (tCutE t) := ⟨fun pins s σ H Q I ⟨P, h1, h2⟩ => wpAny_mono (h.run pins s σ H P I h1) (fun b s' ⟨v, H', I', r, p⟩ => ⟨v, H', I', r, h2 _ _ p⟩) fun _ _ e => e⟩
theorem g_cutT {t : TT} {σ : L2.St} {H : Hp} {R : Bool → Hp → Prop} (P : Bool → Hp → Prop) (h1 : t σ H P) (h2 : ∀ b H', P b H' → R b H') : tCutT t σ H R := ⟨P, h1, h2⟩
theorem g_cutE {t : TE} {σ : L2.St} {H : Hp} {R : VK} (P : VK) (h1 : t σ H P) (h2 : ∀ b H', P b H' → R b H') : tCutE t σ H R := ⟨P, h1, h2⟩
theorem g_chain {r r' : R2} {ta tb tc : TE} {σ : L2.St} {H : Hp} {Q : VK} (h : ta σ H fun x H1 => tb σ H1 fun y H2 => r x y H2 fun z H3 => ∃ k, z = .bl k ∧ (if k = true then tc σ H3 fun w' H4 => r' y w' H4 Q else Q (.bl false) H3)) : tChain r r' ta tb tc σ H Q := h
theorem g_par3 {i j l : Nat} {ta : TA} {D : Ends} {σ : L2.St} {H : Hp} (h : ta σ H fun vs H1 => ∃ u v w, vs = [u, v, w] ∧ D.nx (((σ.set i (some u)).set j (some v)).set l (some w)) H1) : tPar3 i j l ta D σ H := h
theorem g_par3' {a b c : V} {T : V → V → V → Prop} (h : T a b c) : ∃ u v w, [a, b, c] = [u, v, w] ∧ T u v w := ⟨a, b, c, rfl, h⟩
theorem g_while {c : TT} {tb : TS} {D : Ends} {σ : L2.St} {H : Hp} (W : Nat → L2.St → Hp → Prop) (m0 : Nat) (h0 : W m0 σ H) (hs : ∀ m σ H, W m σ H →
    c σ H fun b H1 => if b = true then ∃ N : L2.St → Hp → Prop, (∀ σ' H', N σ' H' → ∃ m', m' < m ∧ W m' σ' H') ∧ tb { D with nx := N, ct := N, bk := D.nx } σ H1 else D.nx σ H1) : tWhile c tb D σ H := ⟨W, ⟨m0, h0⟩, hs⟩
theorem g_wbody {tb : TS} {D : Ends} {σ : L2.St} {H : Hp} {W : Nat → L2.St → Hp → Prop} {m : Nat} (h : tb { D with nx := fun σ' H' => ∃ m', m' < m ∧ W m' σ' H', ct := fun σ' H' => ∃ m', m' < m ∧ W m' σ' H', bk := D.nx } σ H) :
    ∃ N : L2.St → Hp → Prop, (∀ σ' H', N σ' H' → ∃ m', m' < m ∧ W m' σ' H') ∧ tb { D with nx := N, ct := N, bk := D.nx } σ H := ⟨_, fun _ _ z => z, h⟩
section
variable {K : PySem.W.Frag} {H : Hp} {Q : VK} {x y : V}
theorem g_eqV (hs : scal x y = true) (h : Q (.bl (decide (x = y))) H) : oEq K x y H Q := .inl ⟨hs, h⟩
theorem g_neV (hs : scal x y = true) (h : Q (.bl (!decide (x = y))) H) : oNe K x y H Q := .inl ⟨hs, h⟩
end
/-- an int or a text -/
def IS (t : V) : Prop := (∃ n, t = .int n) ∨ ∃ x, t = .str x
theorem IS.int (n : Int) : IS (.int n) := .inl ⟨n, rfl⟩
theorem IS.str (n : Str) : IS (.str n) := .inr ⟨n, rfl⟩
theorem IS.scal {t u : V} (ht : IS t) (hu : IS u) : scal t u = true := by
  rcases ht with ⟨n, rfl⟩ | ⟨n, rfl⟩ <;> rcases hu with ⟨m, rfl⟩ | ⟨m, rfl⟩ <;> rfl
theorem IS.flat {t : V} (ht : IS t) : flatV t = true := by
  rcases ht with ⟨n, rfl⟩ | ⟨n, rfl⟩ <;> rfl
theorem IS.eqV {t u : V} (ht : IS t) (hu : IS u) : eqV t u = decide (t = u) := by
  rcases ht with ⟨n, rfl⟩ | ⟨n, rfl⟩ <;> rcases hu with ⟨m, rfl⟩ | ⟨m, rfl⟩
  · show (n == m) = _
    by_cases h : n = m
    · subst h; simp
    · have : (n == m) = false := beq_eq_false_iff_ne.mpr h
      rw [this]; simp [h]
  · show false = _
    simp
  · show false = _
    simp
  · show (n == m) = _
    by_cases h : n = m
    · subst h; simp
    · have : (n == m) = false := beq_eq_false_iff_ne.mpr h
      rw [this]; simp [h]
/-- x in (a, b) -/
theorem IS.in2 {x a b : V} (hx : IS x) (ha : IS a) (hb : IS b) : inV x [a, b] = decide (a = x ∨ b = x) := by
  unfold inV
  simp only [List.any_cons, List.any_nil, Bool.or_false]
  rw [ha.eqV hx, hb.eqV hx]
  by_cases h1 : a = x <;> by_cases h2 : b = x <;> simp [h1, h2]
theorem g_in2 {K : PySem.W.Frag} {H : Hp} {Q : VK} {x a b : V} {p : Addr} (hp : H p = some (.tup [a, b])) (hx : IS x) (ha : IS a) (hb : IS b) (q : Q (.bl (decide (a = x ∨ b = x))) H) : rIn K false x (.ref p) H Q :=
  ⟨p, _, rfl, .inr (SqT.of hp), hx.flat, by simp [ha.flat, hb.flat], by rw [hx.in2 ha hb]; exact q⟩
def dV : V → PyData
  | .int n => .int n
  | .str x => .str x
  | _ => .none
theorem IS.dp {K : PySem.W.Frag} {H : Hp} {t : V} (ht : IS t) : Dp K H t (dV t) := by
  rcases ht with ⟨n, rfl⟩ | ⟨n, rfl⟩
  · exact .int n
  · exact .str n
theorem IS.eqv {t u : V} (ht : IS t) (hu : IS u) : PyData.eqv (dV t) (dV u) = decide (t = u) := by
  rw [← ht.eqV hu]
  rcases ht with ⟨n, rfl⟩ | ⟨n, rfl⟩ <;> rcases hu with ⟨m, rfl⟩ | ⟨m, rfl⟩ <;> simp [dV, PyData.eqv, L2.eqV]
end Up

set_option Elab.async false
set_option linter.all false
set_option maxRecDepth 100000
set_option maxHeartbeats 4000000
namespace Up
open PySem PySem.Spec PyProof.Rows L2
/-! ### calls with keywords: o.m(e, k = v), C(k = v) -/
def tMethK (C : Addr) (m : Str) (n l : Nat) (sp : Sp) (gV : List V → List V → List V) (E : XK) (ta : TE) (t tk : TA) : TE := fun σ H Q => ta σ H fun x H1 => ∃ a dx fs, x = .ref a ∧ H1 a = some (.ins C dx fs) ∧ fs.lookup m = none ∧
  t σ H1 fun vs H2 => tk σ H2 fun zs H3 => vs.length + 1 = n ∧ zs.length = l ∧ sp (gV (x :: vs) zs) H3 Q E
def MakeRK (C : Addr) (sp : Sp) (gV : List V → List V → List V) (vs zs : List V) (H : Hp) (Q : VK) (E : XK) : Prop := ∀ x dx H', H x = none → H dx = none → dx ≠ x → Same H H' → H' x = some (.ins C dx []) → (∀ b, b ≠ x → b ≠ dx → H' b = H b) →
  sp (gV (.ref x :: vs) zs) H' (fun v H2 => v = .non ∧ Q (.ref x) H2) E
def tMakeKN (C : Addr) (n l : Nat) (sp : Sp) (gV : List V → List V → List V) (E : XK) (t tk : TA) : TE := fun σ H Q => t σ H fun vs H1 => tk σ H1 fun zs H2 => vs.length = n ∧ zs.length = l ∧ MakeRK C sp gV vs zs H2 Q E
section
variable (P : Program) (w : World) (K : PySem.W.Frag) (mg : Str → Option Value) (base : Heap)
def MtK (CX : CXT) (k : Nat) (C : Addr) (m : Str) (ps : List Str) (n : Nat) (ks : List Str) (gV : List V → List V → List V) (sp : Sp) : Prop :=
  ∃ f fd g, FnOk P w K mg base CX k f fd ps sp ∧ Meth K C m f ∧ KBn K fd ps n ks g gV ∧ Cls K C
def CnK (CX : CXT) (k : Nat) (x : Str) (C : Addr) (ps : List Str) (n : Nat) (ks : List Str) (gV : List V → List V → List V) (sp : Sp) : Prop :=
  ∃ f fd g, FnOk P w K mg base CX k f fd ps sp ∧ Mk K C f ∧ mg x = some (.ref C) ∧ KBn K fd ps (n + 1) ks g gV
end
section
variable {X : Cx} {CX : CXT} {k n : Nat} {C : Addr} {x m : Str} {ps ks : List Str} {sp : Sp} {E : XK} {p pos apos : Pos} {e o : Expr} {es : List Expr} {kws : List Keyword} {ta : TE} {t tk : TA} {gV : List V → List V → List V}
theorem pe_mtK {pl : Sem Bool} (F : MtK X.prog X.w X.K X.mg X.base CX k C m ps n ks gV sp) (hr : Room k X.A) (hx : Passes CX X E) (he : PE X o ta) (ha : PA X (e :: es) t) (hkw : PK X kws tk)
    (hall : (backToKw pos (keywordEach kws X.env)).all (·.1.isSome) = true := by rfl) (hks : (backToKw pos (keywordEach kws X.env)).filterMap (·.1) = ks := by rfl)
    (hst : starEach (e :: es) X.env = (false, eval e X.env) :: starEach es X.env := by rfl) (hpl : ((backTo pos (starEach (e :: es) X.env)).any (·.1) || (backToKw pos (keywordEach kws X.env)).any (·.1.isNone)) = false := by rfl)
    (ht : eval (.Call (.Attribute o m apos) (e :: es) kws pos) X.env = (do
      let ov ← eval o X.env
      standAt apos.atName
      let (f, first) ← holding [ov] (getMethod ov m pl)
      callWith pos f first (backTo pos (starEach (e :: es) X.env)) (backToKw pos (keywordEach kws X.env))) := by rfl) :
    PE X (.Call (.Attribute o m apos) (e :: es) kws pos) (tMethK C m n ks.length sp gV E ta t tk) := by
  obtain ⟨f, fd, g, F, hm, hb, c⟩ := F
  refine ⟨fun pins s σ H Q I h => ?_⟩
  refine PySem.W.methodCall_KW (pl := pl) (thn (he.run pins s σ H _ I h) fun u s1 ⟨x, H1, I1, rx, a, dx, fs, ex, ea, l, q⟩ => ?_) ht
  subst ex
  obtain rfl : u = Value.ref a := rx
  refine getmeth_ok I1 ea c hm l ?_
  refine PySem.W.callWith_KW (first := [.ref a]) (h₀ := X.base) I.ok.mod.kin hm.kp hall (thn (ha.run pos pins s1 σ H1 _ I1 q) fun us s2 ⟨vs, H2, I2, r, q2⟩ => ?_) hpl hst
  refine thn (hkw.run pos pins s2 σ H2 _ I2 q2) fun ws s3 ⟨zs, H3, I3, rz, l1, l2, q3⟩ => ⟨I3.kIn, ?_⟩
  rw [hks]
  exact run_fnN (us := .ref a :: us) (vs := .ref a :: vs) F hr hb hx I3 (.cons rfl r) rz l1 l2 q3
theorem pe_mtK0 {pl : Sem Bool} (F : MtK X.prog X.w X.K X.mg X.base CX k C m ps n ks gV sp) (hr : Room k X.A) (hx : Passes CX X E) (he : PE X o ta) (hkw : PK X kws tk)
    (hall : (backToKw pos (keywordEach kws X.env)).all (·.1.isSome) = true := by rfl) (hks : (backToKw pos (keywordEach kws X.env)).filterMap (·.1) = ks := by rfl)
    (hpl : ((backTo pos (starEach [] X.env)).any (·.1) || (backToKw pos (keywordEach kws X.env)).any (·.1.isNone)) = false := by rfl)
    (ht : eval (.Call (.Attribute o m apos) [] kws pos) X.env = (do
      let ov ← eval o X.env
      standAt apos.atName
      let (f, first) ← holding [ov] (getMethod ov m pl)
      callWith pos f first (backTo pos (starEach [] X.env)) (backToKw pos (keywordEach kws X.env))) := by rfl) :
    PE X (.Call (.Attribute o m apos) [] kws pos) (tMethK C m n ks.length sp gV E ta tNil tk) := by
  obtain ⟨f, fd, g, F, hm, hb, c⟩ := F
  refine ⟨fun pins s σ H Q I h => ?_⟩
  refine PySem.W.methodCall_KW (pl := pl) (thn (he.run pins s σ H _ I h) fun u s1 ⟨x, H1, I1, rx, a, dx, fs, ex, ea, l, q⟩ => ?_) ht
  subst ex
  obtain rfl : u = Value.ref a := rx
  refine getmeth_ok I1 ea c hm l ?_
  refine PySem.W.callWith_KW0 (first := [.ref a]) (h₀ := X.base) I.ok.mod.kin hm.kp hall ?_ hpl
  refine thn (hkw.run pos pins s1 σ H1 _ I1 q) fun ws s3 ⟨zs, H3, I3, rz, l1, l2, q3⟩ => ⟨I3.kIn, ?_⟩
  rw [hks]
  exact run_fnN (us := [.ref a]) (vs := [.ref a]) F hr hb hx I3 (.cons rfl .nil) rz l1 l2 q3
theorem pe_cnK0 (F : CnK X.prog X.w X.K X.mg X.base CX k x C ps 0 ks gV sp) (hr : Room (k + 1) X.A) (hx : Passes CX X E) (hkw : PK X kws tk) (hg : Gl X x := by rfl)
    (hall : (backToKw pos (keywordEach kws X.env)).all (·.1.isSome) = true := by rfl) (hks : (backToKw pos (keywordEach kws X.env)).filterMap (·.1) = ks := by rfl) (hdb : (x == ("__debug__" : Str)) = false := by decide)
    (hpl : ((backTo pos (starEach [] X.env)).any (·.1) || (backToKw pos (keywordEach kws X.env)).any (·.1.isNone)) = false := by rfl) :
    PE X (.Call (.Name x p) [] kws pos) (tMakeKN C 0 ks.length sp gV E tNil tk) := by
  obtain ⟨f, fd, g, F, M, hm, hb⟩ := F
  refine ⟨fun pins s σ H Q I h => ?_⟩
  refine wpAny_Call_Name_kw (ld_glob I hg hm ?_ hdb)
  refine PySem.W.callWith_KW0 (h₀ := X.base) I.ok.mod.kin M.kp hall ?_ hpl
  refine thn (hkw.run pos pins s σ H _ I h) fun ws s2 ⟨zs, H2, I2, rz, l1, l2, q2⟩ => ⟨I2.kIn, ?_⟩
  rw [hks]
  refine run_makeK (us := []) (vs := []) M F hr hb hx I2 .nil rz rfl l2 fun y dy n1 n2 ne => q2 y dy _ n1 n2 ne (fun b u z => ?_) upd_same fun b hb1 hb2 => ?_
  · rw [upd_ne (ne_of_none z n1), upd_ne (ne_of_none z n2)]; exact z
  · rw [upd_ne hb1, upd_ne hb2]
end
/-- no defaults -/
theorem kbnN {K : PySem.W.Frag} {x qual : Str} {params : Arguments} {body : List Stmt} {scope : Scope} {f : Addr} {fd : FuncData} {ps : List Str} {n : Nat} {ks : List Str} {g : {α : Type} → List α → List α → List α} (F : FunD K x qual params body scope [] [] f fd)
    (hrel : ∀ {vs zs : List V} {us ws : List Value}, Vals vs us → Vals zs ws → Vals (g vs zs) (g us ws))
    (h : ∀ (kV doc pm : Value) (an : Option Addr) (cdv ct : Value) (us ws : List Value), us.length = n → ws.length = ks.length → bindArgs (PySem.W.fnOf x qual params body scope .none kV doc pm an cdv ct) ⟨us, ks.zip ws⟩ = pure (ps.zip (g us ws))) : KBn K fd ps n ks (fun us ws => g us ws) (fun vs zs => g vs zs) := by
  obtain ⟨oc, od, dV, kV, doc, pm, an, cdv, ct, osl, rfl, lk, hcd, hD, hK⟩ := F.ex
  rcases hD with ⟨_, rfl⟩ | ⟨e, _⟩
  · exact ⟨fun s us ws X l1 l2 => .of_eq (h kV doc pm an cdv ct us ws l1 l2), fun r1 r2 => hrel r1 r2⟩
  · exact absurd rfl e
theorem g_iRng2 {ta : TA} {σ : L2.St} {H : Hp} {R : It → Hp → Prop} (h : ta σ H fun vs H1 => ∃ i j : Int, vs = [.int i, .int j] ∧ (-(2 ^ 62) ≤ i ∧ i < 2 ^ 62 ∧ -(2 ^ 62) ≤ j ∧ j < 2 ^ 62) ∧ R (Itr i (j - i).toNat) H1) : iRng2 ta σ H R := h
section
variable {σ : L2.St} {H : Hp} {Q : VK} {C : Addr} {m : Str} {n l : Nat} {sp : Sp} {gV : List V → List V → List V} {E : XK} {ta : TE} {t tk : TA}
theorem g_methK (h : ta σ H fun x H1 => ∃ a dx fs, x = .ref a ∧ H1 a = some (.ins C dx fs) ∧ fs.lookup m = none ∧ t σ H1 fun vs H2 => tk σ H2 fun zs H3 => vs.length + 1 = n ∧ zs.length = l ∧ sp (gV (x :: vs) zs) H3 Q E) : tMethK C m n l sp gV E ta t tk σ H Q := h
theorem g_makeK (h : t σ H fun vs H1 => tk σ H1 fun zs H2 => vs.length = n ∧ zs.length = l ∧ MakeRK C sp gV vs zs H2 Q E) : tMakeKN C n l sp gV E t tk σ H Q := h
end
end Up

set_option Elab.async false
set_option linter.all false
set_option maxRecDepth 100000
set_option maxHeartbeats 4000000
namespace Up
open PySem PySem.Spec PyProof.Rows L2 PySem.SeqAt
/-! ### == of lists and tuples whose parts are the same, one by one -/
def okV : V → Prop
  | .non => True
  | .bl _ => True
  | .int _ => True
  | .str _ => True
  | .ref _ => True
  | _ => False
inductive DS (K : PySem.W.Frag) (H : Hp) : Nat → V → V → Prop
  | same {n : Nat} {v : V} : okV v → DS K H n v v
  | tup {n : Nat} {a b : Addr} {xs ys : List V} : SqT K H a xs → SqT K H b ys → xs.length = ys.length → (∀ (i : Nat) (x y : V), xs[i]? = some x → ys[i]? = some y → DS K H n x y) → DS K H (n + 1) (.ref a) (.ref b)
  | lst {n : Nat} {a b : Addr} {xs ys : List V} : SqL K H a xs → SqL K H b ys → xs.length = ys.length → (∀ (i : Nat) (x y : V), xs[i]? = some x → ys[i]? = some y → DS K H n x y) → DS K H (n + 1) (.ref a) (.ref b)
/-- two sequences, one by one -/
inductive DTop (K : PySem.W.Frag) (H : Hp) (n : Nat) : V → V → Prop
  | tup {a b : Addr} {xs ys : List V} : SqT K H a xs → SqT K H b ys → xs.length = ys.length → (∀ (i : Nat) (x y : V), xs[i]? = some x → ys[i]? = some y → DS K H n x y) → DTop K H n (.ref a) (.ref b)
  | lst {a b : Addr} {xs ys : List V} : SqL K H a xs → SqL K H b ys → xs.length = ys.length → (∀ (i : Nat) (x y : V), xs[i]? = some x → ys[i]? = some y → DS K H n x y) → DTop K H n (.ref a) (.ref b)
theorem range_all (n : Nat) : (List.range n).all (fun _ => true) = true := by simp
theorem DS.eqAt {X : Cx} {pins : List (Addr × Obj)} {σ : L2.St} {H : Hp} {s : Shared} (I : Inv X pins σ H s) {n : Nat} {x y : V} (h : DS X.K H n x y) : ∀ {v u : Value} {A : Around}, RelV x v → RelV y u → A.units + n < cLine → EqAt A s v u true := by
  induction h with
  | @same n x hx =>
    intro v u A r1 r2 _
    cases x with
    | non => cases r1; cases r2; exact EqAt.same _
    | bl b => cases r1; cases r2; exact EqAt.same _
    | int i =>
      obtain ⟨t, rfl⟩ := r1
      obtain ⟨t', rfl⟩ := r2
      have := EqAt.int_int (A := A) (s := s) i t i t'
      rw [show (i == i) = true by simp] at this
      exact this
    | str i =>
      obtain ⟨t, rfl⟩ := r1
      obtain ⟨t', rfl⟩ := r2
      have := EqAt.str_str (A := A) (s := s) i t i t'
      rw [show (i == i) = true by simp] at this
      exact this
    | ref a => cases r1; cases r2; exact EqAt.same _
    | _ => exact hx.elim
  | @tup n a b xs ys ha hb hl _ ih =>
    intro v u A r1 r2 hu
    cases r1
    cases r2
    by_cases hab : a = b
    · subst hab; exact EqAt.same _
    · refine EqAt.of_refs hab ?_
      obtain ⟨its, q1, p1, _⟩ := I.tuple ha
      obtain ⟨jts, q2, p2, _⟩ := I.tuple hb
      have l1 := q1.length
      have l2 := q2.length
      have h1 := RcAt.tuples (A := A) (e := fun _ => true) p1 p2 (by omega) (fun j h1 h2 => by
        obtain ⟨x, ex⟩ : ∃ x, xs[j]? = some x := ⟨_, List.getElem?_eq_getElem (by simp at h1; omega)⟩
        obtain ⟨y, ey⟩ : ∃ y, ys[j]? = some y := ⟨_, List.getElem?_eq_getElem (by simp at h2; omega)⟩
        obtain ⟨w1, e1, rw1⟩ := q1.get ex
        obtain ⟨w2, e2, rw2⟩ := q2.get ey
        have f1 : its.toArray[j] = w1 := by have := List.getElem?_eq_some_iff.mp e1; obtain ⟨_, z⟩ := this; simpa using z
        have f2 : jts.toArray[j] = w2 := by have := List.getElem?_eq_some_iff.mp e2; obtain ⟨_, z⟩ := this; simpa using z
        rw [f1, f2]
        exact ih j x y ex ey rw1 rw2 (by show A.units + 1 + n < cLine; omega))
      have e : ((List.range (min its.toArray.size jts.toArray.size)).all (fun _ => true) && its.toArray.size == jts.toArray.size) = true := by
        rw [range_all, List.size_toArray, List.size_toArray, ← l1, ← l2, hl]
        simp
      rw [e] at h1
      exact h1
  | @lst n a b xs ys ha hb hl _ ih =>
    intro v u A r1 r2 hu
    cases r1
    cases r2
    by_cases hab : a = b
    · subst hab; exact EqAt.same _
    · refine EqAt.of_refs hab ?_
      obtain ⟨its, q1, p1, _⟩ := I.list ha
      obtain ⟨jts, q2, p2, _⟩ := I.list hb
      have l1 := q1.length
      have l2 := q2.length
      have h1 := RcAt.lists (A := A) (e := fun _ => true) p1.isList p2.isList (by rw [List.size_toArray, List.size_toArray, ← l1, ← l2, hl]) (by omega) (fun j h1 h2 => by
        obtain ⟨x, ex⟩ : ∃ x, xs[j]? = some x := ⟨_, List.getElem?_eq_getElem (by simp at h1; omega)⟩
        obtain ⟨y, ey⟩ : ∃ y, ys[j]? = some y := ⟨_, List.getElem?_eq_getElem (by simp at h2; omega)⟩
        obtain ⟨w1, e1, rw1⟩ := q1.get ex
        obtain ⟨w2, e2, rw2⟩ := q2.get ey
        have f1 : its.toArray[j] = w1 := by have := List.getElem?_eq_some_iff.mp e1; obtain ⟨_, z⟩ := this; simpa using z
        have f2 : jts.toArray[j] = w2 := by have := List.getElem?_eq_some_iff.mp e2; obtain ⟨_, z⟩ := this; simpa using z
        rw [f1, f2]
        exact ih j x y ex ey rw1 rw2 (by show A.units + 1 + n < cLine; omega))
      rw [range_all] at h1
      exact h1
section
variable {X : Cx}
def oEqDS (K : PySem.W.Frag) : R2 := fun x y H Q => ∃ n, n ≤ 60 ∧ DTop K H n x y ∧ Q (.bl true) H
def oNeDS (K : PySem.W.Frag) : R2 := fun x y H Q => ∃ n, n ≤ 60 ∧ DTop K H n x y ∧ Q (.bl false) H
theorem op_eqDS (hu : X.A.units + 64 < cLine) : OpR X (compareOp .Eq) (oEqDS X.K) := by
  intro pins s σ H x y v u Q I rx ry h
  obtain ⟨n, hn, d, q⟩ := h
  cases d with
  | @tup a b xs ys ha hb hl hd =>
    cases rx
    cases ry
    obtain ⟨its, q1, p1, _⟩ := I.tuple ha
    obtain ⟨jts, q2, p2, _⟩ := I.tuple hb
    have l1 := q1.length
    have l2 := q2.length
    refine eq_tupleAt (e := fun _ => true) p1 p2 (by omega) (fun j h1 h2 => ?_) ?_
    · obtain ⟨x, ex⟩ : ∃ x, xs[j]? = some x := ⟨_, List.getElem?_eq_getElem (by simp at h1; omega)⟩
      obtain ⟨y, ey⟩ : ∃ y, ys[j]? = some y := ⟨_, List.getElem?_eq_getElem (by simp at h2; omega)⟩
      obtain ⟨w1, e1, rw1⟩ := q1.get ex
      obtain ⟨w2, e2, rw2⟩ := q2.get ey
      have f1 : its.toArray[j] = w1 := by have := List.getElem?_eq_some_iff.mp e1; obtain ⟨_, z⟩ := this; simpa using z
      have f2 : jts.toArray[j] = w2 := by have := List.getElem?_eq_some_iff.mp e2; obtain ⟨_, z⟩ := this; simpa using z
      rw [f1, f2]
      exact (hd j x y ex ey).eqAt I rw1 rw2 (by show X.A.units + 1 + n < cLine; omega)
    · have e : ((List.range (min its.toArray.size jts.toArray.size)).all (fun _ => true) && its.toArray.size == jts.toArray.size) = true := by
        rw [range_all, List.size_toArray, List.size_toArray, ← l1, ← l2, hl]
        simp
      rw [e]
      exact ⟨.bl true, H, I, rfl, q⟩
  | @lst a b xs ys ha hb hl hd =>
    cases rx
    cases ry
    obtain ⟨its, q1, p1, _⟩ := I.list ha
    obtain ⟨jts, q2, p2, _⟩ := I.list hb
    have l1 := q1.length
    have l2 := q2.length
    refine eq_listAt (e := fun _ => true) p1.isList p2.isList (by rw [List.size_toArray, List.size_toArray, ← l1, ← l2, hl]) (by omega) (fun j h1 h2 => ?_) ?_
    · obtain ⟨x, ex⟩ : ∃ x, xs[j]? = some x := ⟨_, List.getElem?_eq_getElem (by simp at h1; omega)⟩
      obtain ⟨y, ey⟩ : ∃ y, ys[j]? = some y := ⟨_, List.getElem?_eq_getElem (by simp at h2; omega)⟩
      obtain ⟨w1, e1, rw1⟩ := q1.get ex
      obtain ⟨w2, e2, rw2⟩ := q2.get ey
      have f1 : its.toArray[j] = w1 := by have := List.getElem?_eq_some_iff.mp e1; obtain ⟨_, z⟩ := this; simpa using z
      have f2 : jts.toArray[j] = w2 := by have := List.getElem?_eq_some_iff.mp e2; obtain ⟨_, z⟩ := this; simpa using z
      rw [f1, f2]
      exact (hd j x y ex ey).eqAt I rw1 rw2 (by show X.A.units + 1 + n < cLine; omega)
    · rw [range_all]
      exact ⟨.bl true, H, I, rfl, q⟩
theorem op_neDS (hu : X.A.units + 64 < cLine) : OpR X (compareOp .NotEq) (oNeDS X.K) := by
  intro pins s σ H x y v u Q I rx ry h
  obtain ⟨n, hn, d, q⟩ := h
  cases d with
  | @tup a b xs ys ha hb hl hd =>
    cases rx
    cases ry
    obtain ⟨its, q1, p1, _⟩ := I.tuple ha
    obtain ⟨jts, q2, p2, _⟩ := I.tuple hb
    have l1 := q1.length
    have l2 := q2.length
    refine RcNeAt.tuples (e := fun _ => true) p1 p2 (by omega) (fun j h1 h2 => ?_) _ _ _ _ ?_
    · obtain ⟨x, ex⟩ : ∃ x, xs[j]? = some x := ⟨_, List.getElem?_eq_getElem (by simp at h1; omega)⟩
      obtain ⟨y, ey⟩ : ∃ y, ys[j]? = some y := ⟨_, List.getElem?_eq_getElem (by simp at h2; omega)⟩
      obtain ⟨w1, e1, rw1⟩ := q1.get ex
      obtain ⟨w2, e2, rw2⟩ := q2.get ey
      have f1 : its.toArray[j] = w1 := by have := List.getElem?_eq_some_iff.mp e1; obtain ⟨_, z⟩ := this; simpa using z
      have f2 : jts.toArray[j] = w2 := by have := List.getElem?_eq_some_iff.mp e2; obtain ⟨_, z⟩ := this; simpa using z
      rw [f1, f2]
      exact (hd j x y ex ey).eqAt I rw1 rw2 (by show X.A.units + 1 + n < cLine; omega)
    · have e : ((List.range (min its.toArray.size jts.toArray.size)).all (fun _ => true) && its.toArray.size == jts.toArray.size) = true := by
        rw [range_all, List.size_toArray, List.size_toArray, ← l1, ← l2, hl]
        simp
      rw [e]
      exact ⟨.bl false, H, I, rfl, q⟩
  | @lst a b xs ys ha hb hl hd =>
    cases rx
    cases ry
    obtain ⟨its, q1, p1, _⟩ := I.list ha
    obtain ⟨jts, q2, p2, _⟩ := I.list hb
    have l1 := q1.length
    have l2 := q2.length
    refine RcNeAt.lists (e := fun _ => true) p1.isList p2.isList (by rw [List.size_toArray, List.size_toArray, ← l1, ← l2, hl]) (by omega) (fun j h1 h2 => ?_) _ _ _ _ ?_
    · obtain ⟨x, ex⟩ : ∃ x, xs[j]? = some x := ⟨_, List.getElem?_eq_getElem (by simp at h1; omega)⟩
      obtain ⟨y, ey⟩ : ∃ y, ys[j]? = some y := ⟨_, List.getElem?_eq_getElem (by simp at h2; omega)⟩
      obtain ⟨w1, e1, rw1⟩ := q1.get ex
      obtain ⟨w2, e2, rw2⟩ := q2.get ey
      have f1 : its.toArray[j] = w1 := by have := List.getElem?_eq_some_iff.mp e1; obtain ⟨_, z⟩ := this; simpa using z
      have f2 : jts.toArray[j] = w2 := by have := List.getElem?_eq_some_iff.mp e2; obtain ⟨_, z⟩ := this; simpa using z
      rw [f1, f2]
      exact (hd j x y ex ey).eqAt I rw1 rw2 (by show X.A.units + 1 + n < cLine; omega)
    · rw [range_all]
      exact ⟨.bl false, H, I, rfl, q⟩
/-- all of these -/
def oEqG (K : PySem.W.Frag) : R2 := fun x y H Q => oEq K x y H Q ∨ oEqDS K x y H Q
def oNeG (K : PySem.W.Frag) : R2 := fun x y H Q => oNe K x y H Q ∨ oNeDS K x y H Q
theorem op_oEqG (hu : X.A.units + 64 < cLine) : OpR X (compareOp .Eq) (oEqG X.K) := op_or (op_oEq hu) (op_eqDS hu)
theorem op_oNeG (hu : X.A.units + 64 < cLine) : OpR X (compareOp .NotEq) (oNeG X.K) := op_or (op_oNe hu) (op_neDS hu)
theorem op_oEqGE (K : PySem.W.Frag) (h : X.K = K) (hu : X.A.units + 64 < cLine) : OpR X (compareOp .Eq) (oEqG K) := h ▸ op_oEqG hu
theorem op_oNeGE (K : PySem.W.Frag) (h : X.K = K) (hu : X.A.units + 64 < cLine) : OpR X (compareOp .NotEq) (oNeG K) := h ▸ op_oNeG hu
end
end Up

set_option Elab.async false
set_option linter.all false
set_option maxRecDepth 100000
set_option maxHeartbeats 4000000
namespace Up
open PySem PySem.Spec PyProof.Rows L2
/-! ### a list beside an empty one -/
def oEqE (K : PySem.W.Frag) : R2 := fun x y H Q => ∃ a b xs, x = .ref a ∧ y = .ref b ∧ SqL K H a xs ∧ SqL K H b [] ∧ Q (.bl xs.isEmpty) H
def oNeE (K : PySem.W.Frag) : R2 := fun x y H Q => ∃ a b xs, x = .ref a ∧ y = .ref b ∧ SqL K H a xs ∧ SqL K H b [] ∧ Q (.bl (!xs.isEmpty)) H
theorem op_eqE {X : Cx} (hu : X.A.units + 64 < cLine) : OpR X (compareOp .Eq) (oEqE X.K) := by
  intro pins s σ H x y v u Q I rx ry h
  obtain ⟨a, b, xs, rfl, rfl, ha, hb, q⟩ := h
  cases rx
  cases ry
  obtain ⟨its, r1, p1, _⟩ := I.list ha
  obtain ⟨jts, r2, p2, _⟩ := I.list hb
  have l1 := r1.length
  have l2 := r2.length
  by_cases e : xs = []
  · subst e
    have z1 : its.toArray.size = 0 := by rw [List.size_toArray, ← l1]; rfl
    refine SeqAt.eq_listAt (e := fun _ => true) p1.isList p2.isList (by rw [z1, List.size_toArray, ← l2]; rfl) (by omega) (fun j h1 => absurd h1 (by omega)) ?_
    rw [z1]
    exact ⟨.bl true, H, I, rfl, q⟩
  · refine SeqAt.eq_list_lengthsAt p1.isList p2.isList ?_ (by omega) ?_
    · rw [List.size_toArray, List.size_toArray, ← l1, ← l2]
      cases xs with
      | nil => exact absurd rfl e
      | cons _ _ => rfl
    · cases xs with
      | nil => exact absurd rfl e
      | cons _ _ => exact ⟨.bl false, H, I, rfl, q⟩
theorem op_neE {X : Cx} (hu : X.A.units + 64 < cLine) : OpR X (compareOp .NotEq) (oNeE X.K) := by
  intro pins s σ H x y v u Q I rx ry h
  obtain ⟨a, b, xs, rfl, rfl, ha, hb, q⟩ := h
  cases rx
  cases ry
  obtain ⟨its, r1, p1, _⟩ := I.list ha
  obtain ⟨jts, r2, p2, _⟩ := I.list hb
  have l1 := r1.length
  have l2 := r2.length
  by_cases e : xs = []
  · subst e
    have z1 : its.toArray.size = 0 := by rw [List.size_toArray, ← l1]; rfl
    refine SeqAt.RcNeAt.lists (e := fun _ => true) p1.isList p2.isList (by rw [z1, List.size_toArray, ← l2]; rfl) (by omega) (fun j h1 => absurd h1 (by omega)) _ _ _ _ ?_
    rw [z1]
    exact ⟨.bl false, H, I, rfl, q⟩
  · refine SeqAt.RcNeAt.lists_lengths p1.isList p2.isList ?_ (by omega) _ _ _ _ ?_
    · rw [List.size_toArray, List.size_toArray, ← l1, ← l2]
      cases xs with
      | nil => exact absurd rfl e
      | cons _ _ => rfl
    · cases xs with
      | nil => exact absurd rfl e
      | cons _ _ => exact ⟨.bl true, H, I, rfl, q⟩
theorem g_eqE {K : PySem.W.Frag} {H : Hp} {Q : VK} {a b : Addr} {xs : List V} (ha : H a = some (.lst xs)) (hb : H b = some (.lst [])) (q : Q (.bl xs.isEmpty) H) : oEqE K (.ref a) (.ref b) H Q := ⟨a, b, xs, rfl, rfl, SqL.of ha, SqL.of hb, q⟩
theorem g_neE {K : PySem.W.Frag} {H : Hp} {Q : VK} {a b : Addr} {xs : List V} (ha : H a = some (.lst xs)) (hb : H b = some (.lst [])) (q : Q (.bl (!xs.isEmpty)) H) : oNeE K (.ref a) (.ref b) H Q := ⟨a, b, xs, rfl, rfl, SqL.of ha, SqL.of hb, q⟩
/-! ### xs[i] op= e -/
def rGetL (K : PySem.W.Frag) : V → V → Hp → VK → Prop := fun x y H Q => ∃ p xs i z, x = .ref p ∧ y = .int i ∧ SqL K H p xs ∧ 0 ≤ i ∧ atI xs i = some z ∧ Q z H
theorem pget_list {X : Cx} : PGet X (rGetL X.K) := by
  intro pins s σ H x y v u Q I rx ry h
  obtain ⟨p, xs, i, z, rfl, rfl, hq, h0, he, q⟩ := h
  cases rx
  obtain ⟨t, rfl⟩ := ry
  obtain ⟨its, r, pl, hz⟩ := I.list hq
  obtain ⟨j, h1, h2, h3, h4, h5⟩ := atI_get he
  obtain ⟨w, ew, rw'⟩ := r.get h2
  have hl := r.length
  have hn := line63
  have hj : i.toNat = j := by
    rw [seqIndex_of h0 h5] at h1
    exact Option.some.inj h1
  exact wpAny_getItem_list pl.isList h0 (by omega) (by rw [hj]; simpa using ew) ⟨z, H, I, rw', q⟩
theorem g_augS {to ti te : TE} {tget : V → V → Hp → VK → Prop} {tip : TIp} {tset : TSet} {D : Ends} {σ : L2.St} {H : Hp} (h : to σ H fun o H1 => ti σ H1 fun i H2 => tget o i H2 fun x H3 => te σ H3 fun y H4 => tip x y H4 fun z H5 => tset o i z H5 fun H6 => D.nx σ H6) : tAugS to ti te tget tip tset D σ H := h
theorem g_getL {K : PySem.W.Frag} {H : Hp} {Q : VK} {p : Addr} {xs : List V} {i : Int} {z : V} (h : H p = some (.lst xs)) (h0 : 0 ≤ i) (e : atI xs i = some z) (q : Q z H) : rGetL K (.ref p) (.int i) H Q := ⟨p, xs, i, z, rfl, rfl, SqL.of h, h0, e, q⟩
theorem g_ipI {f : Int → Int → Int} {i j : Int} {H : Hp} {Q : VK} (q : Q (.int (f i j)) H) : ipI f (.int i) (.int j) H Q := ⟨i, j, rfl, rfl, q⟩
def ipM : TIp := fun x y H Q => ∃ i j, x = .int i ∧ y = .int j ∧ IntMulOk i j ∧ Q (.int (i * j)) H
theorem ip_mul {X : Cx} : PIp X .Mult ipM := by
  intro pins s σ H x y v u Q I r1 r2 h
  obtain ⟨i, j, e1, e2, hm, q⟩ := h
  subst e1; subst e2
  obtain ⟨t, rfl⟩ := r1
  obtain ⟨t', rfl⟩ := r2
  exact imul_int ⟨.int _, H, I.tok _, ⟨_, rfl⟩, q⟩ hm
theorem g_ipM {i j : Int} {H : Hp} {Q : VK} (hm : IntMulOk i j) (q : Q (.int (i * j)) H) : ipM (.int i) (.int j) H Q := ⟨i, j, rfl, rfl, hm, q⟩
theorem g_ord {c : Nat} {H : Hp} {Q : VK} (q : Q (.int (c : Nat)) H) : (fun xs H Q => ∃ x, xs = [V.str x] ∧ x.length = 1 ∧ Q (.int (x.cps.getD 0 0 : Nat)) H : List V → Hp → VK → Prop) [.str ⟨#[c]⟩] H Q := ⟨_, rfl, rfl, q⟩
/-! ### other readings -/
theorem g_nt {A B : Prop} (h : B) : if (!true) = true then A else B := h
theorem g_nf {A B : Prop} (h : A) : if (!false) = true then A else B := h

theorem g_bm {K : PySem.W.Frag} {T : String} {r : V → List V → Hp → VK → Prop} {to : TE} {t : TA} {σ : L2.St} {H : Hp} {Q : VK} (h : to σ H fun x H1 => tyV K T x H1 ∧ t σ H1 fun vs H2 => r x vs H2 Q) : tBM K T r to t σ H Q := h
theorem g_app {H : Hp} {Q : VK} {l : Addr} {xs : List V} {y : V} (h : H l = some (.lst xs)) (hz : xs.length < sizeLine) (q : ∀ H', H' l = some (.lst (xs ++ [y])) → (∀ b, b ≠ l → H' b = H b) → Q .non H') : rAppend (.ref l) [y] H Q := ⟨l, xs, y, rfl, rfl, h, hz, q _ upd_same fun b hb => upd_ne hb⟩
theorem g_ext {H : Hp} {Q : VK} {l b : Addr} {xs zs : List V} (h : H l = some (.lst xs)) (hb : H b = some (.lst zs)) (hz : xs.length + zs.length ≤ sizeLine) (q : ∀ H', H' l = some (.lst (xs ++ zs)) → (∀ b, b ≠ l → H' b = H b) → Q .non H') : rExtend (.ref l) [.ref b] H Q := ⟨l, b, xs, zs, rfl, rfl, h, hb, hz, q _ upd_same fun b hb => upd_ne hb⟩
theorem tyL {K : PySem.W.Frag} {H : Hp} {p : Addr} {xs : List V} (h : H p = some (.lst xs)) : tyV K "list" (.ref p) H := .inl ⟨rfl, _, SqL.of h⟩
theorem g_iStr {te : TE} {σ : L2.St} {H : Hp} {R : It → Hp → Prop} (h : te σ H fun v H1 => ∃ x, v = .str x ∧ R (Its x) H1) : iStr te σ H R := h
theorem atI_of {xs : List V} {i : Int} {v : V} (h0 : 0 ≤ i) (h : xs[i.toNat]? = some v) : atI xs i = some v := by
  have hl : i.toNat < xs.length := by
    by_cases e : i.toNat < xs.length
    · exact e
    · rw [List.getElem?_eq_none (by omega)] at h; cases h
  unfold atI
  have e : ixN xs.length i = some i.toNat := by unfold ixN; rw [if_pos h0, if_pos (by omega)]
  rw [e]
  exact h
theorem ixN_of {n : Nat} {i : Int} (h0 : 0 ≤ i) (h : i < n) : ixN n i = some i.toNat := by unfold ixN; rw [if_pos h0, if_pos (by omega)]
theorem g_aug {i : Nat} {te : TE} {tip : TIp} {D : Ends} {σ : L2.St} {H : Hp} (h : ∃ v, σ[i]? = some (some v) ∧ te σ H fun y H1 => tip v y H1 fun z H2 => D.nx (σ.set i (some z)) H2) : tAug i te tip D σ H := h
theorem g_fldaug {K : PySem.W.Frag} {ta tv : TE} {rd : R2} {f : Str} {D : Ends} {σ : L2.St} {H : Hp} (h : ta σ H fun x H1 => ∃ a C dx fs v, x = .ref a ∧ H1 a = some (.ins C dx fs) ∧ Cls K C ∧ NoAttr K C f ∧ fs.lookup f = some v ∧ tv σ H1 fun y H2 => rd v y H2 fun z H3 => ∃ dx' fs', H3 a = some (.ins C dx' fs') ∧ fs'.length < 1000 ∧ D.nx σ (upd H3 a (.ins C dx' (putF f z fs')))) : sFldAug K ta tv rd f D σ H := h
theorem pg_tupE {X : Cx} (K : PySem.W.Frag) {es : List Expr} {k : Nat} {t : TGs} {n : Nat} {pos : Pos} (hK : X.K = K) (hc : X.calm = true) (h : PGs X es t)
    (hn : (assignEach es X.env).length = n := by rfl) (hst : (assignEach es X.env).findIdx? (·.1) = none := by rfl) : PG X (.Tuple es k pos) (gTup K n t) := hK ▸ pg_tup hc h hn hst
/-! ### loops over enumerate, over a text -/
theorem for_enum {K : PySem.W.Frag} {a : Addr} {xs : List V} {g : TG} {tb : TS} {D : Ends} {σ : L2.St} {H : Hp} (Pv : Nat → L2.St → Hp → Prop) (h0 : Pv 0 σ H) (hl : ∀ i σ H, i ≤ xs.length → Pv i σ H → SqL K H a xs)
    (hs : ∀ i x σ H T, xs[i]? = some x → Pv i σ H → H T = none → g (.ref T) σ (upd H T (.tup [.int (i : Nat), x])) fun σ2 H2 => tb { D with nx := Pv (i + 1), ct := Pv (i + 1), bk := D.nx } σ2 H2) (hd : ∀ σ H, Pv xs.length σ H → D.nx σ H) :
    ∃ W : Nat → Nat → L2.St → Hp → Prop, (∃ m, W 0 m σ H) ∧ ∀ i m σ H, W i m σ H →
      ((Ite K a).stop i H ∧ D.nx σ H) ∨ ((Ite K a).go i H ∧ ∃ N : L2.St → Hp → Prop, (∀ σ' H', N σ' H' → ∃ m', m' < m ∧ W (i + 1) m' σ' H') ∧ ∀ x H', (Ite K a).yld i H x H' → g x σ H' fun σ2 H2 => tb { D with nx := N, ct := N, bk := D.nx } σ2 H2) := by
  refine ⟨fun i m σ H => m = xs.length - i ∧ i ≤ xs.length ∧ Pv i σ H, ⟨xs.length, by simp, Nat.zero_le _, h0⟩, ?_⟩
  rintro i m σ H ⟨rfl, hi, p⟩
  have q := hl i σ H hi p
  by_cases hlt : i < xs.length
  · refine .inr ⟨⟨xs, xs[i], q, by simp [hlt]⟩, Pv (i + 1), fun σ' H' p' => ⟨xs.length - (i + 1), by omega, rfl, hlt, p'⟩, fun x H' y => ?_⟩
    obtain ⟨T, y, rfl, hT, rfl, hy⟩ := y
    exact hs i y σ _ T (hy xs q) p hT
  · have e : i = xs.length := by omega
    subst e
    exact .inl ⟨⟨xs, q, Nat.le_refl _⟩, hd σ H p⟩
theorem lc_enum {K : PySem.W.Frag} {a : Addr} {xs : List V} {g : TG} {tt : TT} {te : TE} {vs : List Nat} {σ : L2.St} {H1 : Hp} {D : Addr} {Qd : Hp → Prop} (Pv : Nat → Hp → Prop) (h0 : Pv 0 (upd H1 D (.lst []))) (hl : ∀ i H, i ≤ xs.length → Pv i H → SqL K H a xs)
    (hs : ∀ i x H T, xs[i]? = some x → Pv i H → H T = none → g (.ref T) (wipe σ vs) (upd H T (.tup [.int (i : Nat), x])) fun σ2 H2 => wipe σ2 vs = wipe σ vs ∧ tt σ2 H2 fun b H3 =>
      if b = true then te σ2 H3 fun y H4 => ∃ acc, H4 D = some (.lst acc) ∧ acc.length < sizeLine ∧ Pv (i + 1) (upd H4 D (.lst (acc ++ [y]))) else Pv (i + 1) H3) (hd : ∀ H, Pv xs.length H → Qd H) :
    ∃ W : Nat → Nat → Hp → Prop, (∃ m, W 0 m (upd H1 D (.lst []))) ∧ ∀ i m H, W i m H →
      ((Ite K a).stop i H ∧ Qd H) ∨ ((Ite K a).go i H ∧ ∃ Nx : Hp → Prop, (∀ H', Nx H' → ∃ m', m' < m ∧ W (i + 1) m' H') ∧ ∀ x H', (Ite K a).yld i H x H' → g x (wipe σ vs) H' fun σ2 H2 => wipe σ2 vs = wipe σ vs ∧ tt σ2 H2 fun b H3 =>
        if b = true then te σ2 H3 fun y H4 => ∃ acc, H4 D = some (.lst acc) ∧ acc.length < sizeLine ∧ Nx (upd H4 D (.lst (acc ++ [y]))) else Nx H3) := by
  refine ⟨fun i m H => m = xs.length - i ∧ i ≤ xs.length ∧ Pv i H, ⟨xs.length, by simp, Nat.zero_le _, h0⟩, ?_⟩
  rintro i m H ⟨rfl, hi, p⟩
  have q := hl i H hi p
  by_cases hlt : i < xs.length
  · refine .inr ⟨⟨xs, xs[i], q, by simp [hlt]⟩, Pv (i + 1), fun H' p' => ⟨xs.length - (i + 1), by omega, rfl, hlt, p'⟩, fun x H' y => ?_⟩
    obtain ⟨T, y, rfl, hT, rfl, hy⟩ := y
    exact hs i y _ T (hy xs q) p hT
  · have e : i = xs.length := by omega
    subst e
    exact .inl ⟨⟨xs, q, Nat.le_refl _⟩, hd H p⟩
theorem for_str {x : Str} {g : TG} {tb : TS} {D : Ends} {σ : L2.St} {H : Hp} (Pv : Nat → L2.St → Hp → Prop) (h0 : Pv 0 σ H)
    (hs : ∀ i c σ H, x.cps[i]? = some c → Pv i σ H → g (.str ⟨#[c]⟩) σ H fun σ2 H2 => tb { D with nx := Pv (i + 1), ct := Pv (i + 1), bk := D.nx } σ2 H2) (hd : ∀ σ H, Pv x.cps.size σ H → D.nx σ H) :
    ∃ W : Nat → Nat → L2.St → Hp → Prop, (∃ m, W 0 m σ H) ∧ ∀ i m σ H, W i m σ H →
      ((Its x).stop i H ∧ D.nx σ H) ∨ ((Its x).go i H ∧ ∃ N : L2.St → Hp → Prop, (∀ σ' H', N σ' H' → ∃ m', m' < m ∧ W (i + 1) m' σ' H') ∧ ∀ x' H', (Its x).yld i H x' H' → g x' σ H' fun σ2 H2 => tb { D with nx := N, ct := N, bk := D.nx } σ2 H2) := by
  refine ⟨fun i m σ H => m = x.cps.size - i ∧ i ≤ x.cps.size ∧ Pv i σ H, ⟨x.cps.size, by simp, Nat.zero_le _, h0⟩, ?_⟩
  rintro i m σ H ⟨rfl, hi, p⟩
  by_cases hlt : i < x.cps.size
  · refine .inr ⟨hlt, Pv (i + 1), fun σ' H' p' => ⟨x.cps.size - (i + 1), by omega, rfl, hlt, p'⟩, fun x' H' y => ?_⟩
    obtain ⟨rfl, c, hc, rfl⟩ := y
    exact hs i c σ _ hc p
  · have e : i = x.cps.size := by omega
    subst e
    exact .inl ⟨Nat.le_refl _, hd σ H p⟩
end Up

set_option Elab.async false
set_option linter.all false
set_option pp.maxSteps 600
set_option maxRecDepth 100000
set_option maxHeartbeats 4000000
namespace Up
open PySem PySem.Spec PyProof.Rows L2 PySem.W
/-! ### own exceptions over ArithmeticError, their __init__ walked as a def -/
abbrev aeT : List Value := [.type "ArithmeticError", .type "Exception", .type "BaseException", .type "object"]
structure AxC (K : PySem.W.Frag) (C : Addr) : Prop where
  ini : excInitIn K C aeT "ArithmeticError.__new__" = true
  ov : excOver K C aeT = true
  hd : hasDictIn K C = true
  sa : findIn K (.ref C) "__setattr__" = some (some (.builtin "object.__setattr__"))
  exC : subIn K (.ref C) (.type "BaseException") = some true
  tyC : typeIn K (.ref C) = some (.type "type")
  kC : keepIn K (.ref C) = true
section
variable {prog : Program} {w : World} {A : Around} {R : Result → Shared → Prop} {K : PySem.W.Frag} {x C : Addr} {name : Str} {tk : Tok} {v : Value} {hp : Heap} {g : Array GenState} {d : Drawn} {t : Nat} {os : OsState}
/-- the first field: the dict is laid -/
theorem ax_set0 {fv : Array Value} (T : AxC K C) (Y : K.In hp) (hx : hp.get? x = some { cls := .ref C, data := .fields fv }) (ht : takerIn K C name = some none)
    (q : ∀ h' tk' dx, (∀ b o, b ≠ x → hp.get? b = some o → h'.get? b = some o) → hp.objs.size ≤ dx → dx ≠ x → h'.get? x = some { cls := .ref C, dict := some dx, data := .fields fv } → h'.Ns1 dx (fun y => if y = name then some v else none) → R (.ok (.ret .none)) ⟨h', g, d, tk', os⟩) :
    codeAny (model prog w) A (.call (.builtin "object.__setattr__") ⟨[.ref x, .str name tk, v], []⟩) R ⟨hp, g, d, t, os⟩ := by
  refine osa_openX (s := ⟨hp, g, d, t, os⟩) (od := none) PySem.F.store_ArithmeticError Y ⟨hx, rfl, rfl, trivial⟩ T.ov ht fun b => ?_
  obtain ⟨cd, hc, hd'⟩ := any_some T.hd
  have ne : x ≠ hp.objs.size := Nat.ne_of_lt (Heap.lt_size hx)
  have hcl : Looks (model prog w) hp (classData C) cd := looks_clsIn Y hc
  obtain ⟨c1, c2, c3, c4, c5, c6, c7, c8, c9, c10, c11⟩ := cd
  have hd2 : c6 = true := hd'
  subst hd2
  unfold Builtin.ObjectAttr.storeInOwnDict Builtin.ObjectAttr.ownDictForStores
  repeat (first | with_reducible refine HandSPX.store_in_new ?_ ?_ | with_reducible refine wpAny_loadPart_at hx ?_ | with_reducible refine hcl.at ?_ | wp_step)
  · exact ⟨_, #[], _, (Heap.get?_update_ne _ _ _ _ ne.symm).trans (Heap.get?_push_at rfl rfl), rfl, fun e he => absurd he (by simp), fun _ => rfl⟩
  · intro h' tk' n1 sb
    have hx1 : (hp.push { cls := .type "dict", data := .dict #[] }).get? x = some { cls := .ref C, data := .fields fv } := Heap.get?_push_of_some _ hx
    exact q h' tk' hp.objs.size (fun b o hb ho => (sb.2 b (Nat.ne_of_lt (Heap.lt_size ho))).trans ((Heap.get?_update_ne _ _ _ _ hb).trans (Heap.get?_push_of_some _ ho))) (Nat.le_refl _) ne.symm
      ((sb.2 x ne).trans (Heap.get?_update_self _ hx1 rfl)) n1
/-- a later one -/
theorem ax_setD {fv : Array Value} {dx : Addr} {m0 : Str → Option Value} {nl : List Str} (T : AxC K C) (Y : K.In hp) (hx : hp.get? x = some { cls := .ref C, dict := some dx, data := .fields fv }) (hn : hp.Ns1 dx m0) (hw : Within m0 nl) (hz : nl.length ≤ 1000) (ht : takerIn K C name = some none)
    (q : ∀ h' tk', (∀ b o, b ≠ dx → hp.get? b = some o → h'.get? b = some o) → h'.Ns1 dx (fun y => if y = name then some v else m0 y) → R (.ok (.ret .none)) ⟨h', g, d, tk', os⟩) :
    codeAny (model prog w) A (.call (.builtin "object.__setattr__") ⟨[.ref x, .str name tk, v], []⟩) R ⟨hp, g, d, t, os⟩ := by
  obtain ⟨oD, esD, epD, hoD, hdD, _⟩ := hn.count hw
  refine osa_openX (s := ⟨hp, g, d, t, os⟩) (od := some oD) PySem.F.store_ArithmeticError Y ⟨hx, rfl, rfl, hoD⟩ T.ov ht fun b => ?_
  obtain ⟨cd, hc, hd'⟩ := any_some T.hd
  have hcl : Looks (model prog w) hp (classData C) cd := looks_clsIn Y hc
  obtain ⟨c1, c2, c3, c4, c5, c6, c7, c8, c9, c10, c11⟩ := cd
  have hd2 : c6 = true := hd'
  subst hd2
  unfold Builtin.ObjectAttr.storeInOwnDict Builtin.ObjectAttr.ownDictForStores
  repeat (first | with_reducible refine OEX.store_in_old hn hw hz ?_ | with_reducible refine wpAny_loadPart_at hx ?_ | with_reducible refine hcl.at ?_ | wp_step)
  intro h' tk' n1 sb
  exact q h' tk' (fun b o hb ho => (sb.2 b hb).trans ho) n1
end
theorem taker_none {K : PySem.W.Frag} {C : Addr} {f : Str} (h : findIn K (.ref C) f = some none) : takerIn K C f = some none := by
  unfold takerIn
  rw [h]
  rfl
section
variable {X : Cx} {pins : List (Addr × Obj)} {σ : L2.St} {H : Hp} {s : Shared} {a C dx : Addr} {f : Str} {y : V} {u : Value} {fs : List (Str × V)} {Q : Unit → Shared → Prop} {E : Value → Shared → Prop} {A : Around}
theorem ax_new (T : AxC X.K C) (I : L2.Inv X pins σ H s) (ea : H a = some (exo a C none)) (hno : findIn X.K (.ref C) f = some none) (ry : L2.RelV y u)
    (h : ∀ dx s', H dx = none → dx ≠ a → L2.Inv X pins σ (upd (upd H dx (exd dx [(f, y)])) a (exo a C (some dx))) s' → Q () s') : wpAny (model X.prog X.w) A (setAttr (.ref a) f u) Q E s := by
  obtain ⟨t1, oa⟩ := exo_at I.hok ea
  obtain ⟨hp, gg, dr, tt, oo⟩ := s
  refine set_plain I.kIn (ox := { cls := .ref C, dict := none, data := .fields #[.ref t1, .none, .none, .none, .bool false, .none] }) (od := none) ⟨oa, rfl, rfl, trivial⟩ T.sa (ax_set0 T I.kIn oa (taker_none hno) fun h' tk' dx kp dn dne hx hn => ?_)
  have fr : H dx = none := I.hok.fresh dn
  have old : ∀ {b : Addr} {o : Obj}, hp.get? b = some o → b ≠ dx := fun {b o} z => Nat.ne_of_lt (Nat.lt_of_lt_of_le (Heap.lt_size z) dn)
  have nota : ∀ {b : Addr}, H b = none → b ≠ a := fun {b} n z => by
    subst z
    exact absurd (ea.symm.trans n) (by simp)
  refine h dx _ fr dne (I.un (t' := tk') ⟨fun b o z n _ _ => kp b o (nota n) z, fun b o z n _ _ => ⟨o.slots, kp b o (nota n) z⟩, fun b o z n _ => ?_, fun b o z _ => ?_, fun b xs z => ?_, fun b o v z => ?_, fun b ps z => ?_⟩ fun b o z => ?_)
  · rw [upd_ne (nota n), upd_ne (old z), n]
  · by_cases hb : b = a
    · subst hb; exact ⟨_, hx⟩
    · exact ⟨o, kp b o hb z⟩
  · rw [upd_ne (at_ne ea z exo_tup), upd_ne (ne_of_none z fr), z]
  · rw [upd_ne (at_ne ea z exo_frz), upd_ne (ne_of_none z fr), z]
  · refine ⟨#[], ?_⟩
    rw [upd_ne (at_ne ea z exo_tbl), upd_ne (ne_of_none z fr), z]
    simp
  · by_cases hb : b = a
    · subst hb
      rw [upd_same] at z
      cases z
      exact exo_ok hx
    · rw [upd_ne hb] at z
      by_cases hd : b = dx
      · subst hd
        rw [upd_same] at z
        cases z
        exact exd_ok hn (relO_put (fs := []) ry fun _ => trivial)
      · rw [upd_ne hd] at z
        refine (I.hok b o z).stay (fun c v hc r => kp c v ?_ r) (fun c hc => ?_) (fun c xs hc => ?_)
        · rcases hc with hc | hc
          · rw [hc]; exact hb
          · exact at_ne ea hc exo_own
        · rw [upd_ne (at_ne ea hc exo_own), upd_ne (ne_of_none hc fr), hc]
        · rw [upd_ne (at_ne ea hc exo_tup), upd_ne (ne_of_none hc fr), hc]
theorem ax_old (T : AxC X.K C) (I : L2.Inv X pins σ H s) (ea : H a = some (exo a C (some dx))) (ed : H dx = some (exd dx fs)) (hl : fs.length ≤ 900) (hno : findIn X.K (.ref C) f = some none) (ry : L2.RelV y u)
    (h : ∀ s', L2.Inv X pins σ (upd H dx (exd dx ((f, y) :: fs))) s' → Q () s') : wpAny (model X.prog X.w) A (setAttr (.ref a) f u) Q E s := by
  obtain ⟨t1, oa⟩ := exo_at I.hok ea
  obtain ⟨mA, hns, rel⟩ := exd_at I.hok ed
  obtain ⟨hp, gg, dr, tt, oo⟩ := s
  have hw := within_of rel
  obtain ⟨oD, _, _, hoD, _, _⟩ := hns.count hw
  refine set_plain I.kIn (ox := { cls := .ref C, dict := some dx, data := .fields #[.ref t1, .none, .none, .none, .bool false, .none] }) (od := some oD) ⟨oa, rfl, rfl, hoD⟩ T.sa
    (ax_setD T I.kIn oa hns hw (by rw [List.length_map]; omega) (taker_none hno) fun h' tk' kp hn => ?_)
  have there : ∃ o, h'.get? dx = some o := by
    obtain ⟨o, _, _, z, _⟩ := hn
    exact ⟨o, z⟩
  exact h _ (I.write (t' := tk') (x := dx) (e := dx) (o := exd dx ((f, y) :: fs)) (by rw [ed]; trivial) (.inl rfl) kp there (exd_ok hn (relO_put ry rel)))
/-- ArithmeticError.__init__(self, ..) -/
theorem ax_init {us : List Value} {Q : Value → Shared → Prop} (T : AxC X.K C) (I : L2.Inv X pins σ H s) (ea : H a = some (exo a C none)) (hl : us.length ≤ sizeLine) (h : ∀ s', L2.Inv X pins σ H s' → Q .none s') :
    wpAny (model X.prog X.w) A (call (.builtin "ArithmeticError.__init__") (.ref a :: us)) Q E s := by
  obtain ⟨nm, N, qn, bs, bm, hd, sn, sub, ab, col, dd, k0, k1, k2, k3, k5, hC, hT⟩ := excInit_of I.kIn T.ini
  obtain ⟨t1, oa⟩ := exo_at I.hok ea
  obtain ⟨hp, gg, dr, tt, oo⟩ := s
  refine wpAny_call (HandSPX.init_base PySem.F.excBase_ArithmeticError hT hC oa hl fun h' t2 kp hx => ?_)
  have J := I.write (t' := tt) (x := a) (e := a) (o := exo a C none) (by rw [ea]; trivial) (.inl rfl) kp ⟨_, hx⟩ (exo_ok hx)
  have same : upd H a (exo a C none) = H := funext fun b => by
    by_cases hb : b = a
    · subst hb; rw [upd_same, ea]
    · rw [upd_ne hb]
  rw [same] at J
  exact h _ J
end
theorem typ_AE : typeOf (.type "ArithmeticError") = pure (.type "type") := by kernel_rfl
/-! readings and rules -/
def tAxI (K : PySem.W.Frag) (ta : TA) : TE := fun σ H Q => ta σ H fun vs H1 => ∃ (a C : Addr) (ws : List V), vs = .ref a :: ws ∧ ws.length ≤ 1000 ∧ AxC K C ∧ H1 a = some (exo a C none) ∧ Q .non H1
def AxNew (H : Hp) (a C : Addr) (f : Str) (y : V) (R : Hp → Prop) : Prop := ∀ dx H', H dx = none → dx ≠ a → H' a = some (exo a C (some dx)) → H' dx = some (exd dx [(f, y)]) → (∀ b, b ≠ a → b ≠ dx → H' b = H b) → R H'
def AxOld (H : Hp) (a dx : Addr) (fs : List (Str × V)) (f : Str) (y : V) (R : Hp → Prop) : Prop := ∀ H', H' dx = some (exd dx ((f, y) :: fs)) → (∀ b, b ≠ dx → H' b = H b) → R H'
def tAxS (K : PySem.W.Frag) (f : Str) (to te : TE) : TS := fun D σ H => te σ H fun y H1 => to σ H1 fun x H2 => ∃ a C : Addr, x = .ref a ∧ AxC K C ∧ findIn K (.ref C) f = some none ∧
  ((H2 a = some (exo a C none) ∧ AxNew H2 a C f y (D.nx σ)) ∨ ∃ (dx : Addr) (fs : List (Str × V)), H2 a = some (exo a C (some dx)) ∧ H2 dx = some (exd dx fs) ∧ fs.length ≤ 900 ∧ AxOld H2 a dx fs f y (D.nx σ))
section
variable {X : Cx} {o e : Expr} {es : List Expr} {to te : TE} {ta : TA} {f : Str} {p p' p1 p2 pos : Pos}
theorem pe_axI {pl : Sem Bool} (hm : X.mg "ArithmeticError" = none) (vV : findCls X.K (.type "ArithmeticError") (.type "type") "__init__" = some (.val (.builtin "ArithmeticError.__init__"))) (ha : PA X (e :: es) ta) (hg : Gl X "ArithmeticError" := by rfl)
    (hc : eval (.Call (.Attribute (.Name "ArithmeticError" p1) "__init__" p2) (e :: es) [] pos) X.env = (do
      let ov ← eval (.Name "ArithmeticError" p1) X.env
      standAt p2.atName
      let (f, first) ← holding [ov] (getMethod ov "__init__" pl)
      callWith pos f first (backTo pos (starEach (e :: es) X.env)) (backToKw pos (keywordEach [] X.env))) := by rfl)
    (he : starEach (e :: es) X.env = (false, eval e X.env) :: starEach es X.env := by rfl) (hpl : (backTo pos (starEach es X.env)).any (·.1) = false := by rfl) :
    PE X (.Call (.Attribute (.Name "ArithmeticError" p1) "__init__" p2) (e :: es) [] pos) (tAxI X.K ta) := by
  refine ⟨fun pins s σ H Q I h => methodCall_KW (ld_blt I hg hm PyProof.Rows.Boot.«ArithmeticError» ?_ (by decide) (by decide)) hc⟩
  obtain ⟨m, fr⟩ := I.fr
  refine method_type fr I.ok.mod.kin typ_AE (by decide +kernel) vV (by decide +kernel) ?_
  show wpAny _ _ (callWith pos (Value.builtin "ArithmeticError.__init__") [] (backTo pos (starEach (e :: es) X.env)) []) _ _ _
  refine PyProof.Rows.callWith_method1 (thn (ha.run pos pins _ σ H _ (I.tok _) h) fun us s1 ⟨vs, H1, I1, r1, a, C, ws, ev, hl, T, ea, q⟩ => ?_) he hpl
  subst ev
  cases r1 with
  | @cons _ u0 _ ur ra rr =>
    cases (show u0 = Value.ref a from ra)
    have n := Paired.length rr
    exact ax_init T I1 ea (by rw [← n, sizeLine_eq]; omega) fun s' J => ⟨.non, H1, J, rfl, q⟩
theorem ps_axS (ho : PE X o to) (he : PE X e te) (hs : swapsWith e (some (.Attribute o f p')) pos.line X.env = pure false := by rfl) : PS X (.Assign [.Attribute o f p'] e pos) (tAxS X.K f to te) := by
  refine ⟨fun pins s σ H D I h => plainObj_wpAny_Assign_Attribute (thn (he.run pins s σ H _ I h) fun v s1 ⟨y, H1, I1, r1, q1⟩ => thn (ho.run pins s1 σ H1 _ I1 q1) fun u s2 ⟨x, H2, I2, r2, a, C, ex, T, hno, q⟩ => ?_) hs⟩
  subst ex
  cases (show u = Value.ref a from r2)
  rcases q with ⟨ea, q⟩ | ⟨dx, fs, ea, ed, hl, q⟩
  · exact ax_new T I2 ea hno r1 fun dx s' n ne J => ⟨σ, _, J, q dx _ n ne upd_same ((upd_ne ne).trans upd_same) fun b b1 b2 => (upd_ne b1).trans (upd_ne b2)⟩
  · exact ax_old T I2 ea ed hl hno r1 fun s' J => ⟨σ, _, J, q _ upd_same fun b b1 => upd_ne b1⟩
/-- C(..) of such a class -/
theorem pmk_ax {CX : CXT} {x : Str} {C fI : Addr} {k : Nat} {fd : FuncData} {ps : List Str} {sp : Sp} {ds : List Value} {dvs : List V} (T : AxC X.K C) (iC : findIn X.K (.ref C) "__init__" = some (some (.ref fI))) (tI : typeIn X.K (.ref fI) = some (.type "function"))
    (F1 : FnOk X.prog X.w X.K X.mg X.base CX k fI fd ps sp) (hr : Room (k + 1) X.A) (hb : Binds X.K fd ps ds) (hd : Vals dvs ds) (hx : Passes CX X (fun _ _ _ => False)) (hm : X.mg x = some (.ref C)) (ha : PA X (e :: es) ta) (hg : Gl X x := by rfl)
    (hdb : (x == ("__debug__" : Str)) = false := by decide) (he : starEach (e :: es) X.env = (false, eval e X.env) :: starEach es X.env := by rfl) (hpl : (backTo pos (starEach es X.env)).any (·.1) = false := by rfl) :
    PMk X (.Call (.Name x p) (e :: es) [] pos) (tMkO C sp dvs ta) := by
  intro pins s σ H Q I h
  refine wpAny_Call_Name_kw (ld_glob I hg hm ?_ hdb)
  refine callWith_K (h₀ := X.base) I.ok.mod.kin T.kC (thn (ha.run pos pins s σ H _ I h) fun us s1 ⟨vs, H1, I1, r1, hz, q1⟩ => ⟨I1.kIn, ?_⟩) he hpl
  show wpAny _ _ (call (.ref C) us) _ _ _
  obtain ⟨hp, gg, dr, tk, oo⟩ := s1
  obtain ⟨nm, N, qn, bs, bm, hdc, sn, sub, ab, col, dd, k0, k1, k2, k3, k5, hC, hT⟩ := excInit_of I1.kIn T.ini
  have le1 : hp.objs.size ≤ hp.objs.size + 1 := Nat.le_succ _
  have free1 : H1 (hp.objs.size + 1) = none := I1.hok.fresh le1
  have todo := q1 (hp.objs.size + 1) free1
  have kp : ∀ b o, hp.get? b = some o → ((hp.push (kdv_tup us)).push (HandSPX.excO C hp.objs.size)).get? b = some o := fun b o z => Heap.get?_push_of_some _ (Heap.get?_push_of_some _ z)
  have at1 : ((hp.push (kdv_tup us)).push (HandSPX.excO C hp.objs.size)).get? (hp.objs.size + 1) = some (HandSPX.excO C hp.objs.size) := by heap_get
  have I2 := I1.laid (t' := tk) (a := hp.objs.size + 1) (o := exo (hp.objs.size + 1) C none) (h' := (hp.push (kdv_tup us)).push (HandSPX.excO C hp.objs.size)) kp le1 (exo_ok at1)
  have rels : Vals (V.ref (hp.objs.size + 1) :: (vs ++ dvs)) (Value.ref (hp.objs.size + 1) :: (us ++ ds)) := .cons rfl (r1.append hd)
  have len : (Value.ref (hp.objs.size + 1) :: us ++ ds).length = ps.length := by
    have z := rels.length
    rw [F1.len _ _ _ _ todo] at z
    exact z.symm
  have lus : us.length ≤ sizeLine := by
    have z := Paired.length r1
    rw [sizeLine_eq]
    omega
  have fun1 := F1.run _ X.stack _ _ ⟨Value.ref (hp.objs.size + 1) :: us, []⟩ (Value.ref (hp.objs.size + 1) :: (us ++ ds)) _ _ (fun _ _ _ => False) (hr.make C us []) (I2.env0.make C us []) (hb _ (Value.ref (hp.objs.size + 1) :: us) I2.kIn len) rels todo
  refine wpAny_call (HandSPX.call_own PySem.F.excBase_ArithmeticError hT hC (looks_findIn I1.kIn iC) (fun self => bind_fn I1.kIn self tI) lus (codeAny_mono fun1 fun r s' z => ?_))
  cases r with
  | error er => exact hx pins σ _ _ er s' I2 z
  | ok fl =>
    cases fl
    case ret u =>
      obtain ⟨v, H2, os2, bare2, un2, hok2, rv, ev, d, fs, ea, ed, hd1, q2⟩ := z
      subst ev
      obtain ⟨h2, g2, d2, t2, o2⟩ := s'
      exact ⟨rv, mk_end (raises_own T.exC T.tyC) I1 le1 kp un2 hok2 os2 bare2 ea ed hd1 q2⟩
    all_goals exact False.elim z
end
end Up

set_option Elab.async false
set_option linter.all false
set_option maxRecDepth 100000
set_option maxHeartbeats 4000000
namespace Up
open PySem PySem.Spec PyProof.Rows L2
/-! ### the source of draws: a list of three ints that each draw changes -/
def Well (H : Hp) (w : Addr) : Prop := ∃ a b c : Int, H w = some (.lst [.int a, .int b, .int c]) ∧ 0 ≤ a ∧ 0 ≤ b ∧ b < 2147483647 ∧ 0 ≤ c
/-- all but the list at w stands -/
def Stp (w : Addr) (H H' : Hp) : Prop := ∀ b o, b ≠ w → H b = some o → H' b = some o
theorem Stp.refl (w : Addr) (H : Hp) : Stp w H H := fun _ _ _ h => h
theorem Stp.trans {w : Addr} {H H1 H2 : Hp} (a : Stp w H H1) (b : Stp w H1 H2) : Stp w H H2 := fun c o n h => b c o n (a c o n h)
theorem Stp.of {w : Addr} {H H' : Hp} (s : Same H H') : Stp w H H' := fun b o _ h => s b o h
theorem Well.same {w : Addr} {H H' : Hp} (h : Well H w) (s : Same H H') : Well H' w := by
  obtain ⟨a, b, c, h, r⟩ := h
  exact ⟨a, b, c, s _ _ h, r⟩
theorem Well.ne_none {w p : Addr} {H : Hp} (h : Well H w) (n : H p = none) : p ≠ w := by
  obtain ⟨a, b, c, h, _⟩ := h
  exact fun z => by rw [z, h] at n; cases n
/-- a place that holds no list -/
theorem Well.ne {w p : Addr} {H : Hp} {o : HO} (h : Well H w) (e : H p = some o) (n : ∀ xs, o ≠ .lst xs) : p ≠ w := by
  obtain ⟨a, b, c, h, _⟩ := h
  exact fun z => by
    rw [z, h] at e
    exact n _ (Option.some.inj e).symm
theorem Stp.ins {w p C dx : Addr} {H H' : Hp} {fs : List (Str × V)} (s : Stp w H H') (h : Well H w) (e : H p = some (.ins C dx fs)) : H' p = some (.ins C dx fs) := s _ _ (h.ne e fun _ z => by cases z) e
theorem Stp.free {w p : Addr} {H H' : Hp} (s : Stp w H H') (h : Well H' w) (e : H' p = none) : H p = none := by
  cases q : H p with
  | none => rfl
  | some o =>
    have n : p ≠ w := h.ne_none e
    rw [s p o n q] at e
    cases e
end Up

set_option Elab.async false
set_option linter.all false
set_option maxRecDepth 100000
set_option maxHeartbeats 4000000
namespace Up
open PySem
/-! ### numbers of bits, the lowest bit -/
def bitsN (n : Nat) : Nat := if n = 0 then 0 else n.log2 + 1
theorem intBits_nat (n : Nat) : Builtin.Int.intBits (n : Int) = bitsN n := by
  unfold Builtin.Int.intBits bitsN
  by_cases h : n = 0
  · subst h; rfl
  · rw [if_neg h, if_neg (by simpa using h)]
    simp
theorem intBits_neg (n : Int) : Builtin.Int.intBits n = bitsN n.natAbs := by
  unfold Builtin.Int.intBits bitsN
  by_cases h : n = 0
  · subst h; rfl
  · rw [if_neg (by simpa using h), if_neg (by simpa using h)]
theorem bits_lt (n : Nat) : n < 2 ^ bitsN n := by
  unfold bitsN
  by_cases h : n = 0
  · subst h; decide
  · rw [if_neg h]; exact Nat.lt_log2_self
theorem bits_ge {n : Nat} (h : n ≠ 0) : 2 ^ (bitsN n - 1) ≤ n := by
  unfold bitsN
  rw [if_neg h]
  exact Nat.log2_self_le h
theorem bits_le {n k : Nat} (h : n < 2 ^ k) : bitsN n ≤ k := by
  unfold bitsN
  by_cases h0 : n = 0
  · rw [if_pos h0]; exact Nat.zero_le _
  · rw [if_neg h0]
    exact (Nat.log2_lt h0).mpr h
theorem le_bits {n k : Nat} (h : 2 ^ k ≤ n) : k + 1 ≤ bitsN n := by
  rcases Nat.lt_or_ge k (bitsN n) with h1 | h1
  · exact h1
  · have h2 := bits_lt n
    have h3 : 2 ^ bitsN n ≤ 2 ^ k := Nat.pow_le_pow_right (by decide) h1
    omega
theorem bits_pow (k : Nat) : bitsN (2 ^ k) = k + 1 := by
  have h1 := le_bits (n := 2 ^ k) (k := k) (Nat.le_refl _)
  have h2 := bits_le (n := 2 ^ k) (k := k + 1) (Nat.pow_lt_pow_right (by decide) (Nat.lt_succ_self k))
  omega
theorem bits_pos {n : Nat} (h : n ≠ 0) : 1 ≤ bitsN n := by
  unfold bitsN; rw [if_neg h]; omega
def tz (n : Nat) : Nat := if h : n = 0 then 0 else if n % 2 = 1 then 0 else tz (n / 2) + 1
termination_by n
decreasing_by omega
theorem tz_odd {n : Nat} (h : n % 2 = 1) : tz n = 0 := by
  unfold tz
  rw [dif_neg (by omega), if_pos h]
theorem tz_even {n : Nat} (h0 : n ≠ 0) (h : n % 2 = 0) : tz n = tz (n / 2) + 1 := by
  rw [tz, dif_neg h0, if_neg (by omega)]
theorem land_two (a b : Nat) : a &&& b = 2 * ((a / 2) &&& (b / 2)) + (a % 2) * (b % 2) := by
  have h1 : (a &&& b) / 2 = (a / 2) &&& (b / 2) := Nat.and_div_two ..
  have h2 : (a &&& b) % 2 = (a % 2) * (b % 2) := by
    have e := Nat.and_mod_two_pow (a := a) (b := b) (n := 1)
    simp only [Nat.pow_one] at e
    rw [e]
    rcases Nat.mod_two_eq_zero_or_one a with ha | ha <;> rcases Nat.mod_two_eq_zero_or_one b with hb | hb <;> rw [ha, hb] <;> rfl
  omega
theorem land_pred : ∀ (n : Nat), n ≠ 0 → n &&& (n - 1) = n - 2 ^ tz n ∧ 2 ^ tz n ≤ n ∧ n / 2 ^ tz n % 2 = 1 ∧ n / 2 ^ tz n * 2 ^ tz n = n := by
  intro n
  induction n using Nat.strongRecOn with
  | _ n ih =>
    intro h0
    rcases Nat.mod_two_eq_zero_or_one n with he | ho
    · obtain ⟨i1, i2, i3, i4⟩ := ih (n / 2) (by omega) (by omega)
      rw [tz_even h0 he, Nat.pow_succ]
      have e2 : (n - 1) / 2 = n / 2 - 1 := by omega
      have ep : n / (2 ^ tz (n / 2) * 2) = n / 2 / 2 ^ tz (n / 2) := by rw [Nat.mul_comm, Nat.div_div_eq_div_mul]
      refine ⟨?_, by omega, by rw [ep]; exact i3, ?_⟩
      · rw [land_two n (n - 1), e2, i1, he, Nat.zero_mul]
        omega
      · rw [ep, ← Nat.mul_assoc, i4]
        omega
    · rw [tz_odd ho]
      refine ⟨?_, by omega, by simpa using ho, by simp⟩
      rw [land_two n (n - 1)]
      have e2 : (n - 1) / 2 = n / 2 := by omega
      have e3 : (n - 1) % 2 = 0 := by omega
      rw [e2, e3, Nat.and_self, Nat.mul_zero]
      omega
theorem low_bit {n : Nat} (h : n ≠ 0) : Builtin.bitAnd (n : Int) (0 - (n : Int)) = ((2 ^ tz n : Nat) : Int) := by
  rw [PyProof.Rows.bitAnd_pn (by omega) (by omega)]
  have e : (Builtin.bitNot (0 - (n : Int))).toNat = n - 1 := by unfold Builtin.bitNot; omega
  obtain ⟨i1, i2, _⟩ := land_pred n h
  rw [e, Int.toNat_natCast, i1]
  omega
theorem low_bits {n : Nat} (h : n ≠ 0) : ((Builtin.Int.intBits (Builtin.bitAnd (n : Int) (0 - (n : Int))) : Nat) : Int) - 1 = (tz n : Int) := by
  rw [low_bit h, intBits_nat, bits_pow]
  omega
theorem bits_shift {n : Nat} (h : n ≠ 0) : bitsN (n / 2 ^ tz n) + tz n = bitsN n := by
  obtain ⟨_, _, i3, i4⟩ := land_pred n h
  have hm : n / 2 ^ tz n ≠ 0 := by intro z; rw [z] at i3; omega
  generalize n / 2 ^ tz n = m at *
  generalize tz n = v at *
  have h1 := bits_lt m
  have h2 := bits_ge hm
  have h3 := bits_pos hm
  have a : bitsN n ≤ bitsN m + v := bits_le (by
    rw [← i4, Nat.pow_add]
    exact Nat.mul_lt_mul_of_pos_right h1 (Nat.two_pow_pos _))
  have b : bitsN m - 1 + v + 1 ≤ bitsN n := le_bits (by
    rw [← i4, Nat.pow_add]
    exact Nat.mul_le_mul_right _ h2)
  omega
end Up

set_option Elab.async false
set_option linter.all false
set_option maxRecDepth 100000
set_option maxHeartbeats 4000000
namespace Up
open PySem
/-! ### the nearest float to a fraction: power, scaled parts, rounding -/
def nrP (t b : Nat) : Int := if (-1074 : Int) > (bitsN t : Int) - (bitsN b : Int) - 53 then -1074 else (bitsN t : Int) - (bitsN b : Int) - 53
def nrT (t : Nat) (p : Int) : Nat := if p < 0 then t * 2 ^ (0 - p).toNat else t
def nrB (b : Nat) (p : Int) : Nat := if p < 0 then b else b * 2 ^ p.toNat
def nrBig (t b : Nat) : Bool := decide (9007199254740992 ≤ nrT t (nrP t b) / nrB b (nrP t b))
def nrB2 (t b : Nat) : Nat := if nrBig t b then nrB b (nrP t b) * 2 else nrB b (nrP t b)
def nrP2 (t b : Nat) : Int := if nrBig t b then nrP t b + 1 else nrP t b
def nrQ (t b : Nat) : Nat := nrT t (nrP t b) / nrB2 t b
def nrR (t b : Nat) : Nat := nrT t (nrP t b) % nrB2 t b
def nrUp (t b : Nat) : Bool := decide (nrB2 t b < 2 * nrR t b) || (decide (2 * nrR t b = nrB2 t b) && decide (nrQ t b % 2 = 1))
def nrW (t b : Nat) : Nat := if nrUp t b then nrQ t b + 1 else nrQ t b
theorem nrP_lo (t b : Nat) : -1074 ≤ nrP t b := by unfold nrP; split <;> omega
theorem nrP_ge (t b : Nat) : (bitsN t : Int) - (bitsN b : Int) - 53 ≤ nrP t b := by unfold nrP; split <;> omega
theorem nrP_hi {t b : Nat} : nrP t b ≤ bitsN t := by unfold nrP; split <;> omega
theorem nrB_pos {b : Nat} (hb : 0 < b) (p : Int) : 0 < nrB b p := by
  unfold nrB; split
  · exact hb
  · exact Nat.mul_pos hb (Nat.two_pow_pos _)
theorem nrB2_pos {t b : Nat} (hb : 0 < b) : 0 < nrB2 t b := by
  unfold nrB2; split
  · exact Nat.mul_pos (nrB_pos hb _) (by decide)
  · exact nrB_pos hb _
/-- the scaled quotient is below 2 ^ 54 -/
theorem nr_lt54 {t b : Nat} (hb : 0 < b) : nrT t (nrP t b) / nrB b (nrP t b) < 2 ^ 54 := by
  rw [Nat.div_lt_iff_lt_mul (nrB_pos hb _)]
  have h1 := bits_lt t
  have h2 := bits_ge (n := b) (by omega)
  have h3 := bits_pos (n := b) (by omega)
  have h4 := nrP_ge t b
  unfold nrT nrB
  by_cases hp : nrP t b < 0
  · rw [if_pos hp, if_pos hp]
    have e1 : t * 2 ^ (0 - nrP t b).toNat < 2 ^ (bitsN t) * 2 ^ (0 - nrP t b).toNat := Nat.mul_lt_mul_of_pos_right h1 (Nat.two_pow_pos _)
    rw [← Nat.pow_add] at e1
    have e2 : 2 ^ (bitsN t + (0 - nrP t b).toNat) ≤ 2 ^ (54 + (bitsN b - 1)) := Nat.pow_le_pow_right (by decide) (by omega)
    rw [Nat.pow_add 2 54] at e2
    have e3 : 2 ^ 54 * 2 ^ (bitsN b - 1) ≤ 2 ^ 54 * b := Nat.mul_le_mul_left _ h2
    omega
  · rw [if_neg hp, if_neg hp]
    have e2 : 2 ^ bitsN t ≤ 2 ^ (54 + ((bitsN b - 1) + (nrP t b).toNat)) := Nat.pow_le_pow_right (by decide) (by omega)
    rw [Nat.pow_add 2 54, Nat.pow_add 2 (bitsN b - 1)] at e2
    have e3 : 2 ^ (bitsN b - 1) * 2 ^ (nrP t b).toNat ≤ b * 2 ^ (nrP t b).toNat := Nat.mul_le_mul_right _ h2
    have e4 : 2 ^ 54 * (2 ^ (bitsN b - 1) * 2 ^ (nrP t b).toNat) ≤ 2 ^ 54 * (b * 2 ^ (nrP t b).toNat) := Nat.mul_le_mul_left _ e3
    omega
theorem nrQ_lt {t b : Nat} (hb : 0 < b) : nrQ t b < 2 ^ 53 := by
  have h := nr_lt54 (t := t) hb
  unfold nrQ nrB2
  by_cases hg : nrBig t b = true
  · rw [if_pos hg, ← Nat.div_div_eq_div_mul]
    omega
  · rw [if_neg hg]
    have h2 : ¬ 9007199254740992 ≤ nrT t (nrP t b) / nrB b (nrP t b) := fun z => hg (decide_eq_true z)
    omega
theorem nrW_le {t b : Nat} (hb : 0 < b) : nrW t b ≤ 2 ^ 53 := by
  have h := nrQ_lt (t := t) hb
  unfold nrW; split <;> omega
theorem nrP2_lo (t b : Nat) : -1074 ≤ nrP2 t b := by
  have := nrP_lo t b
  unfold nrP2; split <;> omega
theorem nrB2_bits {t b m : Nat} (h1 : bitsN t ≤ m) (h2 : bitsN b ≤ m) (hb : 0 < b) : nrB2 t b < 2 ^ (m + 1) := by
  have h3 := bits_lt b
  have h4 := bits_pos (n := b) (by omega)
  have hB : nrB b (nrP t b) < 2 ^ m := by
    unfold nrB
    by_cases hp : nrP t b < 0
    · rw [if_pos hp]
      exact Nat.lt_of_lt_of_le h3 (Nat.pow_le_pow_right (by decide) h2)
    · rw [if_neg hp]
      have hx : nrP t b = (bitsN t : Int) - (bitsN b : Int) - 53 := by
        have hp' := hp
        unfold nrP at hp' ⊢
        split at hp' <;> rename_i hc
        · omega
        · rw [if_neg hc]
      have e1 : b * 2 ^ (nrP t b).toNat < 2 ^ bitsN b * 2 ^ (nrP t b).toNat := Nat.mul_lt_mul_of_pos_right h3 (Nat.two_pow_pos _)
      rw [← Nat.pow_add] at e1
      exact Nat.lt_of_lt_of_le e1 (Nat.pow_le_pow_right (by decide) (by omega))
  unfold nrB2
  rw [Nat.pow_succ]
  split <;> omega
end Up

set_option Elab.async false
set_option linter.all false
set_option maxRecDepth 100000
set_option maxHeartbeats 4000000
namespace Up
open PySem PySem.Spec PyProof.Rows L2
/-! ### what the head's one Bool says of a class -/
def ownB (K : PySem.W.Frag) (C : Addr) : Bool :=
  PySem.W.plainGet K C Str.empty && (PySem.W.hasDictIn K C && (PySem.W.plainOver K C && (decide (PySem.W.findIn K (.ref C) "__setattr__" = some (some (.builtin "object.__setattr__"))) &&
  (decide (PySem.W.findIn K (.ref C) "__class__" = some (some (.builtin "object.__class__"))) && (decide (PySem.W.specialIn K (.builtin "object.__class__") "__get__" = some (some (.builtin "getset_descriptor.__get__"))) &&
  (decide (PySem.W.takesIn K (.builtin "object.__class__") = some true) && (decide (PySem.W.mroIn K C (.type "object") = some true) && (decide (PySem.W.kitOne K (.ref C) (.type "int") = some false) &&
  (decide (PySem.W.kitOne K (.ref C) (.type "bool") = some false) && decide (PySem.W.kitOne K (.ref C) (.type "str") = some false))))))))))
theorem ownB_ok {K : PySem.W.Frag} {C : Addr} (h : ownB K C = true) : OwnC K C := by
  unfold ownB at h
  simp only [Bool.and_eq_true, decide_eq_true_eq] at h
  obtain ⟨h1, h2, h3, h4, h5, h6, h7, h8, h9, h10, h11⟩ := h
  exact ⟨⟨h1, h2, h3, h4⟩, h5, h6, h7, h8, h9, h10, h11⟩
def idB (K : PySem.W.Frag) (C : Addr) : Bool := decide (PySem.W.mroIn K C (.type "object") = some true) && (decide (PySem.W.findIn K (.ref C) "__eq__" = some (some (.builtin "object.__eq__"))) && decide (PySem.W.subIn K (.ref C) (.type "NoneType") = some false))
theorem idB_ok {K : PySem.W.Frag} {C : Addr} (h : idB K C = true) : IdC K C := by
  unfold idB at h
  simp only [Bool.and_eq_true, decide_eq_true_eq] at h
  exact ⟨h.1, h.2.1, h.2.2⟩
def noB (K : PySem.W.Frag) (C : Addr) (xs : List Str) : Bool := xs.all fun f => decide (PySem.W.findIn K (.ref C) f = some none)
theorem noB_ok {K : PySem.W.Frag} {C : Addr} {xs : List Str} (h : noB K C xs = true) {f : Str} (hf : f ∈ xs) : NoAttr K C f := by
  have e := List.all_eq_true.mp h f hf
  exact of_decide_eq_true (p := PySem.W.findIn K (.ref C) f = some none) e
/-- isinstance(a value of the kind T, the class at C) is b -/
def kitB' (K : PySem.W.Frag) (C : Addr) (b : Bool) (xs : List Value) : Bool := xs.all fun t => decide (PySem.W.kitOne K t (.ref C) = some b)
theorem kitB'_ok {K : PySem.W.Frag} {C : Addr} {b : Bool} {xs : List Value} (h : kitB' K C b xs = true) {t : Value} (ht : t ∈ xs) : PySem.W.kitOne K t (.ref C) = some b := of_decide_eq_true (List.all_eq_true.mp h t ht)
section
variable {P : Program} {w : World} {K : PySem.W.Frag} {mg : Str → Option Value} {base : Heap}
/-- a def by its promise, from the head's facts -/
theorem fn_mk {CX : CXT} {k : Nat} {x y qual : Str} {params : Arguments} {body : List Stmt} {scope : Scope} {f : Addr} {fd : FuncData} {ps : List Str} {sp : Sp} (F : FunD K y qual params body scope [] [] f fd) (hm : mg x = some (.ref f)) (ok : FnOk P w K mg base CX k f fd ps sp)
    (h : ∀ (kV doc pm : Value) (an : Option Addr) (cdv ct : Value) (us : List Value), us.length = ps.length → bindArgs (PySem.W.fnOf y qual params body scope .none kV doc pm an cdv ct) ⟨us, []⟩ = pure (ps.zip us)) : Fn P w K mg base CX k x ps [] sp :=
  ⟨f, fd, [], ok, hm, F.kp, F.bindsN h, .nil⟩
theorem mt_mk {CX : CXT} {k : Nat} {m qual : Str} {params : Arguments} {body : List Stmt} {scope : Scope} {f C : Addr} {fd : FuncData} {ps : List Str} {sp : Sp} (F : FunD K m qual params body scope [] [] f fd) (hm : Meth K C m f) (cl : Cls K C) (ok : FnOk P w K mg base CX k f fd ps sp)
    (h : ∀ (kV doc pm : Value) (an : Option Addr) (cdv ct : Value) (us : List Value), us.length = ps.length → bindArgs (PySem.W.fnOf m qual params body scope .none kV doc pm an cdv ct) ⟨us, []⟩ = pure (ps.zip us)) : Mt P w K mg base CX k C m ps sp :=
  ⟨f, fd, ok, hm, F.bindsN h, cl⟩
theorem cn_mk {CX : CXT} {k : Nat} {x qual : Str} {params : Arguments} {body : List Stmt} {scope : Scope} {f C : Addr} {fd : FuncData} {ps : List Str} {sp : Sp} (F : FunD K "__init__" qual params body scope [] [] f fd) (hM : Mk K C f) (hm : mg x = some (.ref C)) (ok : FnOk P w K mg base CX k f fd ps sp)
    (h : ∀ (kV doc pm : Value) (an : Option Addr) (cdv ct : Value) (us : List Value), us.length = ps.length → bindArgs (PySem.W.fnOf "__init__" qual params body scope .none kV doc pm an cdv ct) ⟨us, []⟩ = pure (ps.zip us)) : Cn P w K mg base CX k x C ps [] sp :=
  ⟨f, fd, [], ok, hM, hm, F.bindsN h, .nil⟩
end
end Up

set_option Elab.async false
set_option linter.all false
set_option pp.maxSteps 600
set_option maxRecDepth 100000
set_option maxHeartbeats 4000000
namespace Up
open PySem PySem.Spec PyProof.Rows L2 LamX
/-! ### lambdas without parameters that are handed to a def -/
section
variable {P : Program} {w : World} {K : PySem.W.Frag} {mg : Str → Option Value} {base : Heap} {x qual : Str} {params : Arguments} {body : List Stmt} {scope : Scope} {dvs : List V} {kws : List (Str × V)} {f : Addr} {fd : FuncData}
/-- F.ok for a def whose code object is known -/
theorem FunD_okC {CX : CXT} {N ps : List Str} {k : Nat} {sp : Sp} {c : Addr} (F : FunD K x qual params body scope dvs kws f fd) (hc : fd.code = .ref c) (S : FnScope N ps scope) (len : ∀ vs H Q E, sp vs H Q E → vs.length = ps.length)
    (hbody : ∀ (A : Around) (outer : List Env) (s : Shared) (H : Hp) (vs : List V) (Q : VK) (E : XK), Room k (A.deeper (envOfC qual scope s.heap.objs.size f (.ref c))) → sp vs H Q E →
      ∃ t, PSs (cxOf CX P w K mg base N qual scope f (.ref c) A outer s H E) body t ∧ t { nx := fun _ H' => Q .non H', rt := Q } (start N vs) H) : FnOk P w K mg base CX (k + 1) f fd ps sp := by
  obtain ⟨oc, od, dV, kV, doc, pm, an, cdv, ct, osl, rfl, lk, hcd, _, _⟩ := F.ex
  have e : cdv = .ref c := hc
  subst e
  exact fn_of lk hcd S len fun A outer s H vs Q E hr hsp => hbody A outer s H vs Q E hr hsp
/-- the code object of a def, as the head tells it -/
theorem code_of {p : Str × Option Str} (F : FunD K x qual params body scope dvs kws (He.fAd K p) fd) : fd.code = .ref (He.codeOf K p) := by
  obtain ⟨oc, od, dV, kV, doc, pm, an, cdv, ct, osl, rfl, lk, hcd, _, _⟩ := F.ex
  obtain ⟨c, rfl⟩ := He.codeIn_ref hcd
  rw [He.codeOf_eq (c := c) lk rfl]
end
/-- what a lambda lets out -/
theorem lam_pass {X : Cx} {A : Around} {outer : List Env} {s : Shared} {H : Hp} {E : XK} {scope : Scope} {f c' : Addr} : Passes (L2.CX X.prog X.w) (lamCx X A outer s H E scope f c') E :=
  passes_call (takes_of rfl rfl rfl rfl) fun _ _ _ _ h => h
theorem Takes.len {X : Cx} {W : WX} (t : Takes X W) : Takes X (fun cls d σ H => σ.length = X.N.length → W cls d σ H) := fun u s' ⟨a, B, sI, pins, σ, H, cls, d, e, I, nb, up, sky, na, os, ag, w⟩ =>
  t u s' ⟨a, B, sI, pins, σ, H, cls, d, e, I, nb, up, sky, na, os, ag, w I.len⟩
/-- x(lambda: body) -/
theorem pe_lam {X : Cx} {T : List (Addr × Str)} {TT : (XK → Hp → VK → Prop) → Hp → VK → Prop} {x a : Str} {g c P : Addr} {k : Nat} {pg : Arguments} {bg : List Stmt} {sg : Scope} {Ng : List Str} {fdg : FuncData}
    {params : Arguments} {body : Expr} {scope : Scope} {t : XK → TE} {p lpos pos : Pos} (Fg : FunD X.K x x pg bg sg [] [] g fdg) (hm : X.mg x = some (.ref g)) (hb : L2.Binds X.K fdg [a] []) (Sg : FnScope Ng [a] sg) (hNg : Ng[0]? = some a) (hva : Vis sg a)
    (hG : ∀ cdg, GivesTo X Ng x sg g cdg bg a (X.env.qual ++ "<lambda>") TT) (TB : TabB X.base X.mg c P) (hcode : X.env.code = .ref c) (hmT : (P, X.env.qual ++ "<lambda>") ∈ T) (hu : ∀ p ∈ T, p.1 = P → p.2 = X.env.qual ++ "<lambda>") (hr : Room (k + 2) X.A)
    (L : LamS X.env.scope scope) (hbody : ∀ (A : Around) (outer : List Env) (s : Shared) (H : Hp) (E : XK) (f c' : Addr), Room k (A.deeper (lamEnv X scope s.heap.objs.size f c')) → PE (lamCx X A outer s H E scope f c') body (t E))
    (hg : Gl X x := by rfl) (hdef : defaultsOf params X.env = ([], []) := by rfl) (hbind : ∀ (q : Str) (cl : List (Str × Addr)) (pm cv ctv : Value), bindArgs (PySem.W.kla_fn "<lambda>" q params body scope cl pm cv ctv) ⟨[], []⟩ = pure [] := by intros; rfl)
    (hdb : (x == ("__debug__" : Str)) = false := by decide) (hd : (a == ("__debug__" : Str)) = false := by decide) (hcd : (a == ("__classdict__" : Str)) = false := by decide) :
    PE X (.Call (.Name x p) [.Lambda params body scope lpos] [] pos) (tLam T TT t) := by
  obtain ⟨oc, od, dV, kV, doc, pm, an, cdv, ct, osl, rfl, lk, hcd2, _, _⟩ := Fg.ex
  exact pe_lamcall hg hm Fg.kp lk hcd2 hb Sg hNg hva (hG cdv) TB hcode hmT hu hr L hdef hbind hbody hdb hd hcd
theorem g_lam {T : List (Addr × Str)} {TT : (XK → Hp → VK → Prop) → Hp → VK → Prop} {t : XK → TE} {σ : L2.St} {H : Hp} {Q : VK} (hT : Tabs T H) (h : ∀ H1, ExtN H H1 → Tabs T H1 → TT (fun E H' Q' => t E σ H' Q') H1 Q) : tLam T TT t σ H Q := ⟨hT, h⟩
end Up

set_option Elab.async false
set_option linter.all false
set_option maxRecDepth 100000
set_option maxHeartbeats 4000000
namespace Up
open PySem PySem.Spec PyProof.Rows L2
local macro_rules | `(tactic| walk_at "u") => `(tactic| first
  | with_reducible refine g_seq ?_
  | with_reducible refine g_asg ?_
  | with_reducible refine g_op ?_
  | ((with_reducible show tVar _ _ _ _); apply g_var; exact rfl)
  | with_reducible refine g_c ?_
  | with_reducible refine g_name ?_
  | with_reducible refine g_ifs ?_
  | with_reducible refine g_tt ?_
  | with_reducible refine g_tB ?_
  | with_reducible refine g_bl ?_
  | with_reducible refine g_ret ?_
  | with_reducible refine g_cb ?_
  | with_reducible refine g_cons ?_
  | with_reducible refine g_nil ?_
  | with_reducible refine g_call ?_
  | with_reducible refine g_and ?_
  | with_reducible refine g_or ?_
  | with_reducible refine g_not ?_
  | with_reducible refine g_andV ?_
  | with_reducible refine g_orV ?_
  | with_reducible refine g_notV ?_
  | with_reducible refine g_if ?_
  | with_reducible refine g_un ?_
  | with_reducible refine g_neg ?_
  | with_reducible refine g_addI ?_
  | with_reducible refine g_subI ?_
  | with_reducible refine g_subB ?_
  | with_reducible refine g_I0 ?_
  | with_reducible refine g_cmpI ?_
  | with_reducible refine g_eqI ?_
  | with_reducible refine g_neI ?_
  | with_reducible refine g_eqS ?_
  | with_reducible refine g_neS ?_
  | with_reducible refine g_eqB ?_
  | with_reducible refine g_neB ?_
  | with_reducible refine g_bits ?_
  | with_reducible refine g_bitsI ?_
  | with_reducible refine g_fld ?_
  | with_reducible refine g_tup ?_
  | with_reducible refine g_lst ?_
  | with_reducible refine g_gtup ?_
  | with_reducible refine g_make ?_
  | with_reducible refine g_lc ?_
  | with_reducible refine g_yesT ?_
  | with_reducible refine g_intI ?_
  | with_reducible refine g_intB ?_
  | with_reducible refine g_max2 ?_
  | with_reducible refine g_abs1 ?_
  | with_reducible refine g_for ?_
  | with_reducible refine g_iList ?_
  | with_reducible refine g_iTup ?_
  | with_reducible refine g_iRng1 ?_
  | with_reducible refine g_iEnum ?_
  | with_reducible refine g_slice ?_
  | with_reducible refine g_po0 ?_
  | with_reducible refine g_po1 ?_
  | with_reducible refine g_gsub ?_
  | with_reducible refine g_par ?_
  | with_reducible refine g_par2 ?_
  | with_reducible refine g_rfl ?_
  | with_reducible refine g_meth ?_
  | with_reducible refine g_gcons ?_
  | with_reducible refine g_gnil ?_
  | with_reducible refine g_gfld ?_
  | with_reducible refine g_sfld ?_
  | with_reducible refine g_drop ?_
  | with_reducible refine g_next ?_
  | with_reducible refine iteT ?_
  | with_reducible refine iteF ?_)
local macro_rules | `(tactic| walk_at "go") => `(tactic| (repeat walk_at "u"))

def top (i : Nat) : Stmt := PySem.Challenge.pw_upvalues_k04_bits_of_numbers.main.body.getD i (.Pass ⟨0, 0, 0, 0⟩)
section
variable {P : Program} {w : World} {K : PySem.W.Frag} {mg : Str → Option Value} {base : Heap}
/-! is_plain -/
abbrev s_isplain : Stmt := top 13
theorem sc_isplain : FnScope ["number"] ["number"] (defScope s_isplain) := ⟨rfl, rfl, rfl, by decide +kernel, rfl, by decide +kernel, by decide +kernel⟩
def sp_isplain (K : PySem.W.Frag) : Sp := fun vs H Q _ => ∃ x t, vs = [x] ∧ Kn K H x t ∧ Q (.bl (isI x)) H
theorem ok_isplain {f : Addr} {fd : FuncData} (F : FunD K "is_plain" "is_plain" (defArgs s_isplain) (defBody s_isplain) (defScope s_isplain) [] [] f fd) (B : Blt mg) : FnOk P w K mg base CX0 1 f fd ["number"] (sp_isplain K) := by
  refine F.ok sc_isplain (fun vs H Q E h => ?_) (fun cdv A outer s H vs Q E hr h => ?_)
  · obtain ⟨x, t, rfl, _⟩ := h; rfl
  · obtain ⟨x, t, rfl, hk, q⟩ := h
    refine ⟨_, PSs.nox (pss_one (ps_ret (pe_and (pe_callB call_isi (by rfl) B.isinstance (by decide +kernel) (pa_cons (pv 0) (pa_cons (pe_tyInt B) pa_nil))) (pe_one (pe_not (pe_callB call_isi (by rfl) B.isinstance (by decide +kernel) (pa_cons (pv 0) (pa_cons (pe_tyBool B) pa_nil)))))))), ?_⟩
    walk_at "go"
    refine g_isiInt hk ?_
    walk_at "go"
    cases x <;> first | exact iteF q | (refine iteT ?_; walk_at "go"; refine g_isiBool hk ?_; walk_at "go"; exact q)
/-! reduced -/
abbrev s_reduced : Stmt := top 14
theorem sc_reduced : FnScope ["top", "power", "less"] ["top", "power"] (defScope s_reduced) := ⟨rfl, rfl, rfl, by decide +kernel, rfl, by decide +kernel, by decide +kernel⟩
/-- the lowest bit's place -/
def lowB (n : Int) : Int := ((Builtin.Int.intBits (Builtin.bitAnd n (0 - n)) : Nat) : Int) - 1
def redV : V → Int → V × Int
  | .int n, p => if n = 0 then (.int 0, 0) else (.int (n / 2 ^ (lowB n).toNat), p + lowB n)
  | v, _ => (v, 0)
def isIN (x : V) : Prop := x = .str "inf" ∨ x = .str "nan"
theorem inf_nan : ¬ (("inf" : Str) = "nan") := by decide +kernel
def sp_reduced : Sp := fun vs H Q _ => ∃ x p, vs = [x, .int p] ∧ (isIN x ∨ ∃ n, x = .int n ∧ (n ≠ 0 → 0 ≤ lowB n)) ∧ RetT H [(redV x p).1, .int (redV x p).2] Q
theorem ok_reduced {f : Addr} {fd : FuncData} (F : FunD K "reduced" "reduced" (defArgs s_reduced) (defBody s_reduced) (defScope s_reduced) [] [] f fd) (B : Blt mg) : FnOk P w K mg base CX0 1 f fd ["top", "power"] sp_reduced := by
  refine F.ok sc_reduced (fun vs H Q E h => ?_) (fun cdv A outer s H vs Q E hr h => ?_)
  · obtain ⟨x, t, rfl, _⟩ := h; rfl
  · obtain ⟨x, p, rfl, hx, q⟩ := h
    refine ⟨_, PSs.nox (pss_cons (ps_if (PW.pt (pw_or (pt_cmpR op_in_seq (pv 0) (pe_tupN (pa_cons pe_str (pa_cons pe_str pa_nil))) (by rfl)) (pw_or1 (pt_cmpR (op_oEq hr.units) (pv 0) pe_int (nomark _))))) (pss_one (ps_ret (pe_tupN (pa_cons (pv 0) (pa_cons pe_int pa_nil))))) pss_nil)
  (pss_cons (ps_set (i := 2) sc_reduced.nd rfl (Or.inl rfl) (pe_op op_oSub (pe_bits (pe_op op_oAnd (pv 0) (pe_op op_oSub pe_int (pv 0)))) pe_int))
  (pss_one (ps_ret (pe_tupN (pa_cons (pe_op op_oShr (pv 0) (pv 2)) (pa_cons (pe_op op_oAdd (pv 1) (pv 2)) pa_nil))))))), ?_⟩
    walk_at "go"
    refine g_new (sz rfl) fun a H1 na s1 ha _ => ?_
    rcases hx with (rfl | rfl) | ⟨n, rfl, hn⟩
    · refine ⟨a, _, rfl, .inr (SqT.of ha), rfl, rfl, ?_⟩
      walk_at "go"
      refine iteT ?_
      walk_at "go"
      refine g_new (sz rfl) fun b H2 nb s2 hb _ => ?_
      exact q _ _ (s1.free nb) (s1.trans s2) hb
    · refine ⟨a, _, rfl, .inr (SqT.of ha), rfl, rfl, ?_⟩
      walk_at "go"
      refine iteT ?_
      walk_at "go"
      refine g_new (sz rfl) fun b H2 nb s2 hb _ => ?_
      exact q _ _ (s1.free nb) (s1.trans s2) hb
    · refine ⟨a, _, rfl, .inr (SqT.of ha), rfl, rfl, ?_⟩
      walk_at "go"
      refine iteF ?_
      walk_at "go"
      refine g_ite (fun h0 => ?_) fun h0 => ?_
      · walk_at "go"
        refine g_new (sz rfl) fun b H2 nb s2 hb _ => ?_
        subst h0
        exact q _ _ (s1.free nb) (s1.trans s2) hb
      · walk_at "go"
        refine g_II (hn h0) ?_
        walk_at "go"
        refine g_new (sz rfl) fun b H2 nb s2 hb _ => ?_
        have e : redV (.int n) p = (.int (n / 2 ^ (lowB n).toNat), p + lowB n) := if_neg h0
        rw [e] at q
        exact q _ _ (s1.free nb) (s1.trans s2) hb
/-! fits -/
abbrev s_fits : Stmt := top 15
theorem sc_fits : FnScope ["top", "power"] ["top", "power"] (defScope s_fits) := ⟨rfl, rfl, rfl, by decide +kernel, rfl, by decide +kernel, by decide +kernel⟩
def fitsB (n p : Int) : Bool := (decide (n < 9007199254740992) && (decide (-1074 ≤ p) && decide (((Builtin.Int.intBits n : Nat) : Int) + p ≤ 1024))) || decide (n = 0)
def sp_fits : Sp := fun vs H Q _ => ∃ n p, vs = [.int n, .int p] ∧ Q (.bl (fitsB n p)) H
theorem ok_fits {f : Addr} {fd : FuncData} (F : FunD K "fits" "fits" (defArgs s_fits) (defBody s_fits) (defScope s_fits) [] [] f fd) (B : Blt mg) (i_ROOM : ∃ t, mg "ROOM" = some (.int 9007199254740992 t)) (i_LOWEST : ∃ t, mg "LOWEST" = some (.int (-1074) t)) (i_TOO_GREAT : ∃ t, mg "TOO_GREAT" = some (.int 1024 t)) :
    FnOk P w K mg base CX0 1 f fd ["top", "power"] sp_fits := by
  refine F.ok sc_fits (fun vs H Q E h => ?_) (fun cdv A outer s H vs Q E hr h => ?_)
  · obtain ⟨x, t, rfl, _⟩ := h; rfl
  · obtain ⟨n, p, rfl, q⟩ := h
    refine ⟨_, PSs.nox (pss_one (ps_ret (pe_or (pe_and (pe_cmpR op_oLt (pv 0) (pe_gint i_ROOM) (nomark _)) (pe_and (pe_cmpR op_oGe (pv 1) (pe_gint i_LOWEST) (nomark _)) (pe_one (pe_cmpR op_oLe (pe_op op_oAdd (pe_bits (pv 0)) (pv 1)) (pe_gint i_TOO_GREAT) (nomark _))))) (pe_one (pe_cmpR (op_oEq hr.units) (pv 0) pe_int (nomark _)))))), ?_⟩
    walk_at "go"
    unfold fitsB at q
    refine g_ite (fun h1 => ?_) fun h1 => ?_
    · walk_at "go"
      refine g_ite (fun h2 => ?_) fun h2 => ?_
      · walk_at "go"
        refine g_ite (fun h3 => ?_) fun h3 => ?_
        · simp only [h1, h2, h3, decide_true, Bool.and_self, Bool.true_or] at q
          exact q
        · walk_at "go"
          simp only [h1, h2, h3, decide_true, decide_false, Bool.and_false, Bool.and_self, Bool.false_or] at q
          exact q
      · walk_at "go"
        simp only [h1, h2, decide_true, decide_false, Bool.and_false, Bool.false_and, Bool.false_or] at q
        exact q
    · walk_at "go"
      simp only [h1, decide_false, Bool.false_and, Bool.false_or] at q
      exact q
/-! sign_of -/
abbrev s_signof : Stmt := top 16
theorem sc_signof : FnScope ["is_negative"] ["is_negative"] (defScope s_signof) := ⟨rfl, rfl, rfl, by decide +kernel, rfl, by decide +kernel, by decide +kernel⟩
def sgnB (b : Bool) : Int := if b then -1 else 1
def sp_signof : Sp := fun vs H Q _ => ∃ b, vs = [.bl b] ∧ Q (.int (sgnB b)) H
theorem ok_signof {f : Addr} {fd : FuncData} (F : FunD K "sign_of" "sign_of" (defArgs s_signof) (defBody s_signof) (defScope s_signof) [] [] f fd) : FnOk P w K mg base CX0 1 f fd ["is_negative"] sp_signof := by
  refine F.ok sc_signof (fun vs H Q E h => ?_) (fun cdv A outer s H vs Q E hr h => ?_)
  · obtain ⟨x, rfl, _⟩ := h; rfl
  · obtain ⟨b, rfl, q⟩ := h
    refine ⟨_, PSs.nox (pss_one (ps_ret (pe_ifExp (pt_val (pv 0)) (pe_un un_neg pe_int) pe_int))), ?_⟩
    walk_at "go"
    cases b
    · refine iteF ?_; walk_at "go"; exact q
    · refine iteT ?_; walk_at "go"; exact q
end
end Up

set_option Elab.async false
set_option linter.all false
set_option maxRecDepth 100000
set_option maxHeartbeats 4000000
namespace Up
open PySem PySem.Spec PyProof.Rows L2
local macro_rules | `(tactic| walk_at "u") => `(tactic| first
  | with_reducible refine g_seq ?_
  | with_reducible refine g_asg ?_
  | with_reducible refine g_op ?_
  | ((with_reducible show tVar _ _ _ _); apply g_var; exact rfl)
  | with_reducible refine g_c ?_
  | with_reducible refine g_name ?_
  | with_reducible refine g_ifs ?_
  | with_reducible refine g_tt ?_
  | with_reducible refine g_tB ?_
  | with_reducible refine g_bl ?_
  | with_reducible refine g_ret ?_
  | with_reducible refine g_cb ?_
  | with_reducible refine g_cons ?_
  | with_reducible refine g_nil ?_
  | with_reducible refine g_call ?_
  | with_reducible refine g_and ?_
  | with_reducible refine g_or ?_
  | with_reducible refine g_not ?_
  | with_reducible refine g_andV ?_
  | with_reducible refine g_orV ?_
  | with_reducible refine g_notV ?_
  | with_reducible refine g_if ?_
  | with_reducible refine g_un ?_
  | with_reducible refine g_neg ?_
  | with_reducible refine g_addI ?_
  | with_reducible refine g_subI ?_
  | with_reducible refine g_subB ?_
  | with_reducible refine g_I0 ?_
  | with_reducible refine g_cmpI ?_
  | with_reducible refine g_eqI ?_
  | with_reducible refine g_neI ?_
  | with_reducible refine g_eqS ?_
  | with_reducible refine g_neS ?_
  | with_reducible refine g_eqB ?_
  | with_reducible refine g_neB ?_
  | with_reducible refine g_bits ?_
  | with_reducible refine g_bitsI ?_
  | with_reducible refine g_fld ?_
  | with_reducible refine g_tup ?_
  | with_reducible refine g_lst ?_
  | with_reducible refine g_gtup ?_
  | with_reducible refine g_make ?_
  | with_reducible refine g_lc ?_
  | with_reducible refine g_yesT ?_
  | with_reducible refine g_intI ?_
  | with_reducible refine g_intB ?_
  | with_reducible refine g_max2 ?_
  | with_reducible refine g_abs1 ?_
  | with_reducible refine g_for ?_
  | with_reducible refine g_iList ?_
  | with_reducible refine g_iTup ?_
  | with_reducible refine g_iRng1 ?_
  | with_reducible refine g_iEnum ?_
  | with_reducible refine g_slice ?_
  | with_reducible refine g_po0 ?_
  | with_reducible refine g_po1 ?_
  | with_reducible refine g_gsub ?_
  | with_reducible refine g_par ?_
  | with_reducible refine g_par2 ?_
  | with_reducible refine g_rfl ?_
  | with_reducible refine g_meth ?_
  | with_reducible refine g_gcons ?_
  | with_reducible refine g_gnil ?_
  | with_reducible refine g_gfld ?_
  | with_reducible refine g_sfld ?_
  | with_reducible refine g_drop ?_
  | with_reducible refine g_next ?_
  | with_reducible refine iteT ?_
  | with_reducible refine iteF ?_)
local macro_rules | `(tactic| walk_at "go") => `(tactic| (repeat walk_at "u"))

/-! ### Float: what its instances are -/
def flF (s : Int) (t : V) (p : Int) : List (Str × V) := [("sign", .int s), ("top", t), ("power", .int p)]
theorem fl_put (s : Int) (t : V) (p : Int) : putF "power" (.int p) (putF "top" t (putF "sign" (.int s) [])) = flF s t p := rfl
theorem fl_sign (s : Int) (t : V) (p : Int) : (flF s t p).lookup ("sign" : Str) = some (.int s) := rfl
theorem fl_top (s : Int) (t : V) (p : Int) : (flF s t p).lookup ("top" : Str) = some t := rfl
theorem fl_power (s : Int) (t : V) (p : Int) : (flF s t p).lookup ("power" : Str) = some (.int p) := rfl
def FlAt (C : Addr) (H : Hp) (a : Addr) (s : Int) (t : V) (p : Int) : Prop := ∃ dx, H a = some (.ins C dx (flF s t p))
theorem FlAt.same {C : Addr} {H H' : Hp} {a : Addr} {s : Int} {t : V} {p : Int} (h : FlAt C H a s t p) (e : Same H H') : FlAt C H' a s t p := by
  obtain ⟨dx, h⟩ := h
  exact ⟨dx, e _ _ h⟩
/-- a right float's parts -/
def FinOk (n p : Int) : Prop := 0 ≤ n ∧ n < 2 ^ 53 ∧ -1074 ≤ p ∧ ((Builtin.Int.intBits n : Nat) : Int) + p ≤ 1024 ∧ (n = 0 → p = 0) ∧ (n ≠ 0 → n % 2 = 1)
def FlOk (s : Int) (t : V) (p : Int) : Prop := (s = 1 ∨ s = -1) ∧ ((t = .str "nan" ∧ s = 1 ∧ p = 0) ∨ (t = .str "inf" ∧ p = 0) ∨ ∃ n, t = .int n ∧ FinOk n p)
/-- what the text says of the class Float, at C -/
structure FlC (K : PySem.W.Frag) (mg : Str → Option Value) (C : Addr) : Prop where
  own : OwnC K C
  nS : NoAttr K C "sign"
  nT : NoAttr K C "top"
  nP : NoAttr K C "power"
  mg : mg "Float" = some (.ref C)
  yes : PySem.W.kitOne K (.ref C) (.ref C) = some true
  fi : PySem.W.kitOne K (.type "int") (.ref C) = some false
  fb : PySem.W.kitOne K (.type "bool") (.ref C) = some false
  fs : PySem.W.kitOne K (.type "str") (.ref C) = some false
  fn : PySem.W.kitOne K (.type "NoneType") (.ref C) = some false
  fl : PySem.W.kitOne K (.type "list") (.ref C) = some false
  ft : PySem.W.kitOne K (.type "tuple") (.ref C) = some false
  fd : PySem.W.kitOne K (.type "dict") (.ref C) = some false
section
variable {P : Program} {w : World} {K : PySem.W.Frag} {mg : Str → Option Value} {base : Heap} {C : Addr}
/-- what Float(s, top, p) asks, and the parts that it gets -/
def MkOk (s : Int) (top : V) (p : Int) : Prop := (s = 1 ∨ s = -1) ∧ ((top = .str "nan" ∧ s = 1 ∧ p = 0) ∨ (top = .str "inf" ∧ p = 0) ∨ ∃ n : Nat, top = .int n ∧ ∃ m, (redV top p).1 = .int m ∧ fitsB m (redV top p).2 = true)
abbrev s_Float_init : Stmt := inClass (top 12) 0
theorem sc_Float_init : FnScope ["self", "sign", "top", "power"] ["self", "sign", "top", "power"] (defScope s_Float_init) := ⟨rfl, rfl, rfl, by decide +kernel, rfl, by decide +kernel, by decide +kernel⟩
def sp_Finit (C : Addr) : Sp := fun vs H Q _ => ∃ a dx s top p, vs = [.ref a, .int s, top, .int p] ∧ H a = some (.ins C dx []) ∧ MkOk s top p ∧
  ∀ H', (∀ b o, b ≠ a → H b = some o → H' b = some o) → H' a = some (.ins C dx (flF s (redV top p).1 (redV top p).2)) → Q .non H'
theorem lowB_nat {n : Nat} (h : n ≠ 0) : lowB (n : Int) = (tz n : Int) := low_bits h
theorem ok_Finit {f : Addr} {fd : FuncData} (F : FunD K "__init__" "Float.__init__" (defArgs s_Float_init) (defBody s_Float_init) (defScope s_Float_init) [] [] f fd) (B : Blt mg) (T : FlC K mg C) (c_isplain : Fn P w K mg base CX0 1 "is_plain" ["number"] [] (sp_isplain K)) (c_reduced : Fn P w K mg base CX0 1 "reduced" ["top", "power"] [] sp_reduced)
    (c_fits : Fn P w K mg base CX0 1 "fits" ["top", "power"] [] sp_fits) : FnOk P w K mg base CX0 2 f fd ["self", "sign", "top", "power"] (sp_Finit C) := by
  refine F.ok sc_Float_init (fun vs H Q E h => ?_) (fun cdv A outer s H vs Q E hr h => ?_)
  · obtain ⟨a, dx, s, top, p, rfl, _⟩ := h; rfl
  · obtain ⟨a, dx, sg, top, p, rfl, ha, ⟨hs, hk⟩, q⟩ := h
    refine ⟨_, PSs.nox (pss_cons (ps_if (PW.pt (pw_or (pt_not (pt_val (pe_fn c_isplain (hr.mono (by first | decide | omega)) pass0 (pa_cons (pv 1) pa_nil)))) (pw_or1 (pt_cmpR op_notIn_seq (pv 1) (pe_tupN (pa_cons pe_int (pa_cons (pe_un un_neg pe_int) pa_nil))) (by rfl))))) (pss_one ps_never) pss_nil)
  (C8.pss_cut (ps_if (PW.pt (pw_and (pt_val (pe_callB call_isi (by rfl) B.isinstance (by decide +kernel) (pa_cons (pv 2) (pa_cons (pe_tyStr B) pa_nil)))) (pw_and1 (pt_cmpR op_in_seq (pv 2) (pe_tupN (pa_cons pe_str (pa_cons pe_str pa_nil))) (by rfl))))) (pss_cons (ps_if (PW.pt (pw_and (pt_cmpR (op_oEq hr.units) (pv 2) pe_str (nomark _)) (pw_and1 (pt_cmpR (op_oEq hr.units) (pv 1) (pe_un un_neg pe_int) (nomark _))))) (pss_one ps_never) pss_nil)
  (pss_one (ps_if (PW.pt (pw_or (pt_not (pt_val (pe_fn c_isplain (hr.mono (by first | decide | omega)) pass0 (pa_cons (pv 3) pa_nil)))) (pw_or1 (pt_cmpR (op_oNe hr.units) (pv 3) pe_int (nomark _))))) (pss_one ps_never) pss_nil))) (pss_one (ps_if (PW.pt (pw_or (pt_not (pt_val (pe_fn c_isplain (hr.mono (by first | decide | omega)) pass0 (pa_cons (pv 2) pa_nil)))) (pw_or1 (pt_cmpR op_oLt (pv 2) pe_int (nomark _))))) (pss_one ps_never) (pss_one (ps_if (pt_not (pt_val (pe_fn c_isplain (hr.mono (by first | decide | omega)) pass0 (pa_cons (pv 3) pa_nil)))) (pss_one ps_never) pss_nil)))))
  (pss_cons (ps_fld (pv 0) (pv 1) rfl)
  (pss_cons (ps_asg (pe_fn c_reduced (hr.mono (by first | decide | omega)) pass0 (pa_cons (pv 2) (pa_cons (pv 3) pa_nil))) (pg_tup rfl (pgs_cons (pg_fld (pv 0)) (pgs_cons (pg_fld (pv 0)) pgs_nil))))
  (pss_one (ps_if (PW.pt (pw_and (pt_cmpR op_notIn_seq (pe_fld (pv 0) rfl) (pe_tupN (pa_cons pe_str (pa_cons pe_str pa_nil))) (by rfl)) (pw_and1 (pt_not (pt_val (pe_fn c_fits (hr.mono (by first | decide | omega)) pass0 (pa_cons (pe_fld (pv 0) rfl) (pa_cons (pe_fld (pv 0) rfl) pa_nil)))))))) (pss_one ps_never) pss_nil)))))), ?_⟩
    walk_at "go"
    refine ⟨_, _, rfl, kn_int, ?_⟩
    walk_at "go"
    refine iteF ?_
    walk_at "go"
    refine g_new (sz rfl) fun a1 H1 na1 s1 ha1 _ => ?_
    refine ⟨a1, _, rfl, .inr (SqT.of ha1), rfl, rfl, ?_⟩
    walk_at "go"
    have hin : (if true = true then !inV (V.int sg) [V.int 1, V.int (-1)] else inV (V.int sg) [V.int 1, V.int (-1)]) = false := by
      rcases hs with rfl | rfl <;> rfl
    rw [hin]
    walk_at "go"
    refine g_cut (fun σ' H2 => σ' = [some (.ref a), some (.int sg), some top, some (.int p)] ∧ Same H1 H2 ∧ (isIN top ∨ ∃ n : Int, top = .int n ∧ (n ≠ 0 → 0 ≤ lowB n)) ∧ (isIN top ∧ (redV top p).1 = top ∨ ∃ m, (redV top p).1 = .int m ∧ fitsB m (redV top p).2 = true)) ?_ ?_
    · walk_at "go"
      rcases hk with ⟨rfl, rfl, rfl⟩ | ⟨rfl, rfl⟩ | ⟨n, rfl, m, hm, hf⟩
      · refine g_isiStr kn_str ?_
        walk_at "go"
        refine iteT ?_
        walk_at "go"
        refine g_new (sz rfl) fun a2 H2 na2 s2 ha2 _ => ?_
        refine ⟨a2, _, rfl, .inr (SqT.of ha2), rfl, rfl, ?_⟩
        walk_at "go"
        refine iteT ?_
        walk_at "go"
        refine g_yes rfl ?_
        walk_at "go"
        refine g_no (by decide) ?_
        walk_at "go"
        refine ⟨_, _, rfl, kn_int, ?_⟩
        walk_at "go"
        refine iteF ?_
        walk_at "go"
        refine iteF ?_
        walk_at "go"
        exact ⟨rfl, s2, .inl (.inr rfl), .inl ⟨.inr rfl, rfl⟩⟩
      · refine g_isiStr kn_str ?_
        walk_at "go"
        refine iteT ?_
        walk_at "go"
        refine g_new (sz rfl) fun a2 H2 na2 s2 ha2 _ => ?_
        refine ⟨a2, _, rfl, .inr (SqT.of ha2), rfl, rfl, ?_⟩
        walk_at "go"
        refine iteT ?_
        walk_at "go"
        refine g_no (by decide +kernel) ?_
        walk_at "go"
        refine ⟨_, _, rfl, kn_int, ?_⟩
        walk_at "go"
        refine iteF ?_
        walk_at "go"
        refine iteF ?_
        walk_at "go"
        exact ⟨rfl, s2, .inl (.inl rfl), .inl ⟨.inl rfl, rfl⟩⟩
      · refine g_isiStr kn_int ?_
        walk_at "go"
        refine iteF ?_
        walk_at "go"
        refine ⟨_, _, rfl, kn_int, ?_⟩
        walk_at "go"
        refine iteF ?_
        walk_at "go"
        refine g_no (by omega) ?_
        walk_at "go"
        refine ⟨_, _, rfl, kn_int, ?_⟩
        walk_at "go"
        refine iteF ?_
        walk_at "go"
        refine ⟨rfl, Same.refl _, .inr ⟨_, rfl, fun h => ?_⟩, .inr ⟨m, hm, hf⟩⟩
        rw [lowB_nat (by omega)]
        omega
    · rintro σ' H2 ⟨rfl, s2, hx, hy⟩
      have h2 := s2 _ _ (s1 _ _ ha)
      walk_at "go"
      refine ⟨a, C, dx, _, rfl, h2, T.own.cl, T.nS, Nat.le_of_ble_eq_true rfl, ?_⟩
      walk_at "go"
      refine ⟨_, _, rfl, hx, fun H3 a3 na3 s3 ha3 => ?_⟩
      have h3 : H3 a = some (.ins C dx (putF "sign" (.int sg) [])) := s3 _ _ upd_same
      have n3 : a3 ≠ a := fun z => by rw [z, upd_same] at na3; cases na3
      walk_at "go"
      refine ⟨a3, _, rfl, SqT.of ha3, rfl, ?_⟩
      walk_at "go"
      refine ⟨a, C, dx, _, rfl, h3, T.own.cl, T.nT, Nat.le_of_ble_eq_true rfl, ?_⟩
      walk_at "go"
      refine ⟨a, C, dx, _, rfl, upd_same, T.own.cl, T.nP, Nat.le_of_ble_eq_true rfl, ?_⟩
      walk_at "go"
      generalize e4 : upd (upd H3 a (.ins C dx (putF "top" (redV top p).1 (putF "sign" (.int sg) [])))) a (.ins C dx (putF "power" (.int (redV top p).2) (putF "top" (redV top p).1 (putF "sign" (.int sg) [])))) = H4
      have h4 : H4 a = some (.ins C dx (flF sg (redV top p).1 (redV top p).2)) := by rw [← e4]; exact upd_same
      have k4 : ∀ b o, b ≠ a → H b = some o → H4 b = some o := fun b o hb e => by
        rw [← e4, upd_ne hb, upd_ne hb]
        exact s3 _ _ (by rw [upd_ne hb]; exact s2 _ _ (s1 _ _ e))
      refine ⟨a, C, dx, _, _, rfl, h4, T.own.cl, T.nT, fl_top _ _ _, ?_⟩
      walk_at "go"
      refine g_new (sz rfl) fun a5 H5 na5 s5 ha5 _ => ?_
      have fin : ∀ H6, Same H5 H6 → Q .non H6 := fun H6 s6 => q H6 (fun b o hb e => s6 _ _ (s5 _ _ (k4 b o hb e))) (s6 _ _ (s5 _ _ h4))
      rcases hy with ⟨hn, hr⟩ | ⟨m, hm, hf⟩
      · rw [hr]
        refine ⟨a5, _, rfl, .inr (SqT.of ha5), by rcases hn with rfl | rfl <;> rfl, rfl, ?_⟩
        walk_at "go"
        have e : (if true = true then !inV top [V.str "inf", V.str "nan"] else inV top [V.str "inf", V.str "nan"]) = false := by
          rcases hn with rfl | rfl <;> decide +kernel
        rw [e]
        walk_at "go"
        exact fin _ (Same.refl _)
      · rw [hm]
        refine ⟨a5, _, rfl, .inr (SqT.of ha5), rfl, rfl, ?_⟩
        walk_at "go"
        have e : (if true = true then !inV (.int m) [V.str "inf", V.str "nan"] else inV (.int m) [V.str "inf", V.str "nan"]) = true := rfl
        rw [e]
        walk_at "go"
        refine ⟨a, C, dx, _, _, rfl, s5 _ _ h4, T.own.cl, T.nT, fl_top _ _ _, ?_⟩
        walk_at "go"
        refine ⟨a, C, dx, _, _, rfl, s5 _ _ h4, T.own.cl, T.nP, fl_power _ _ _, ?_⟩
        walk_at "go"
        refine ⟨m, _, by rw [hm]; rfl, ?_⟩
        walk_at "go"
        rw [hf]
        walk_at "go"
        exact fin _ (Same.refl _)
end
end Up

set_option Elab.async false
set_option linter.all false
set_option maxRecDepth 100000
set_option maxHeartbeats 4000000
set_option exponentiation.threshold 200000
namespace Up
open PySem PySem.Spec PyProof.Rows L2
local macro_rules | `(tactic| walk_at "u") => `(tactic| first
  | with_reducible refine g_seq ?_
  | with_reducible refine g_asg ?_
  | with_reducible refine g_op ?_
  | ((with_reducible show tVar _ _ _ _); apply g_var; exact rfl)
  | with_reducible refine g_c ?_
  | with_reducible refine g_name ?_
  | with_reducible refine g_ifs ?_
  | with_reducible refine g_tt ?_
  | with_reducible refine g_tB ?_
  | with_reducible refine g_bl ?_
  | with_reducible refine g_ret ?_
  | with_reducible refine g_cb ?_
  | with_reducible refine g_cons ?_
  | with_reducible refine g_nil ?_
  | with_reducible refine g_call ?_
  | with_reducible refine g_and ?_
  | with_reducible refine g_or ?_
  | with_reducible refine g_not ?_
  | with_reducible refine g_andV ?_
  | with_reducible refine g_orV ?_
  | with_reducible refine g_notV ?_
  | with_reducible refine g_if ?_
  | with_reducible refine g_un ?_
  | with_reducible refine g_neg ?_
  | with_reducible refine g_addI ?_
  | with_reducible refine g_subI ?_
  | with_reducible refine g_subB ?_
  | with_reducible refine g_I0 ?_
  | with_reducible refine g_cmpI ?_
  | with_reducible refine g_eqI ?_
  | with_reducible refine g_neI ?_
  | with_reducible refine g_eqS ?_
  | with_reducible refine g_neS ?_
  | with_reducible refine g_eqB ?_
  | with_reducible refine g_neB ?_
  | with_reducible refine g_bits ?_
  | with_reducible refine g_bitsI ?_
  | with_reducible refine g_fld ?_
  | with_reducible refine g_tup ?_
  | with_reducible refine g_lst ?_
  | with_reducible refine g_gtup ?_
  | with_reducible refine g_make ?_
  | with_reducible refine g_lc ?_
  | with_reducible refine g_yesT ?_
  | with_reducible refine g_intI ?_
  | with_reducible refine g_intB ?_
  | with_reducible refine g_max2 ?_
  | with_reducible refine g_abs1 ?_
  | with_reducible refine g_for ?_
  | with_reducible refine g_iList ?_
  | with_reducible refine g_iTup ?_
  | with_reducible refine g_iRng1 ?_
  | with_reducible refine g_iEnum ?_
  | with_reducible refine g_slice ?_
  | with_reducible refine g_po0 ?_
  | with_reducible refine g_po1 ?_
  | with_reducible refine g_gsub ?_
  | with_reducible refine g_par ?_
  | with_reducible refine g_par2 ?_
  | with_reducible refine g_rfl ?_
  | with_reducible refine g_meth ?_
  | with_reducible refine g_gcons ?_
  | with_reducible refine g_gnil ?_
  | with_reducible refine g_gfld ?_
  | with_reducible refine g_sfld ?_
  | with_reducible refine g_drop ?_
  | with_reducible refine g_next ?_
  | with_reducible refine iteT ?_
  | with_reducible refine iteF ?_)
local macro_rules | `(tactic| walk_at "go") => `(tactic| (repeat walk_at "u"))

/-! ### parts of a float that was made -/
theorem red_nat {n : Nat} (h : n ≠ 0) (p : Int) : redV (.int n) p = (.int ((n / 2 ^ tz n : Nat) : Int), p + (tz n : Int)) := by
  have e : redV (.int n) p = (.int ((n : Int) / 2 ^ (lowB n).toNat), p + lowB n) := if_neg (by omega)
  rw [e, lowB_nat h]
  simp
theorem red_zero (p : Int) : redV (.int 0) p = (.int 0, 0) := rfl
theorem fits_of {n : Nat} {p : Int} (h1 : n ≤ 2 ^ 53) (h2 : -1074 ≤ p) (h3 : (bitsN n : Int) + p ≤ 1024) : ∃ m, (redV (.int n) p).1 = .int m ∧ fitsB m (redV (.int n) p).2 = true := by
  by_cases h0 : n = 0
  · subst h0
    exact ⟨0, rfl, by show fitsB 0 0 = true; decide⟩
  · rw [red_nat h0]
    refine ⟨_, rfl, ?_⟩
    obtain ⟨_, i2, i3, i4⟩ := land_pred n h0
    have hb := bits_shift h0
    have hle : n / 2 ^ tz n ≤ n := Nat.div_le_self _ _
    unfold fitsB
    rw [intBits_nat]
    have a1 : ((n / 2 ^ tz n : Nat) : Int) < 9007199254740992 := by
      have : n / 2 ^ tz n ≠ 2 ^ 53 := by intro z; rw [z] at i3; exact absurd i3 (by decide)
      omega
    have a2 : -1074 ≤ p + (tz n : Int) := by omega
    have a3 : ((bitsN (n / 2 ^ tz n) : Nat) : Int) + (p + (tz n : Int)) ≤ 1024 := by omega
    rw [decide_eq_true a1, decide_eq_true a2, decide_eq_true a3]
    rfl
theorem mk_flok {s : Int} {top : V} {p : Int} (h : MkOk s top p) : FlOk s (redV top p).1 (redV top p).2 := by
  obtain ⟨hs, h⟩ := h
  refine ⟨hs, ?_⟩
  rcases h with ⟨rfl, h1, rfl⟩ | ⟨rfl, rfl⟩ | ⟨n, rfl, m, hm, hf⟩
  · exact .inl ⟨rfl, h1, rfl⟩
  · exact .inr (.inl ⟨rfl, rfl⟩)
  · refine .inr (.inr ⟨m, hm, ?_⟩)
    by_cases h0 : n = 0
    · subst h0
      have e : m = 0 := by
        have : (V.int 0) = V.int m := hm
        injection this with z
        exact z.symm
      subst e
      show FinOk 0 0
      exact ⟨by decide, by decide, by decide, by decide, fun _ => rfl, fun z => absurd rfl z⟩
    · rw [red_nat h0] at hm hf ⊢
      obtain ⟨_, i2, i3, i4⟩ := land_pred n h0
      have e : ((n / 2 ^ tz n : Nat) : Int) = m := by injection hm
      have hne : m ≠ 0 := by
        intro z
        rw [z] at e
        have : n / 2 ^ tz n = 0 := by exact_mod_cast e
        rw [this] at i3
        exact absurd i3 (by decide)
      unfold fitsB at hf
      simp only [decide_eq_false hne, Bool.or_false, Bool.and_eq_true, decide_eq_true_eq] at hf
      exact ⟨e ▸ Int.natCast_nonneg _, hf.1, hf.2.1, hf.2.2, fun z => absurd z hne, fun _ => by rw [← e]; omega⟩
theorem mk_of_flok {s : Int} {n : Nat} {p : Int} (hs : s = 1 ∨ s = -1) (h1 : n ≤ 2 ^ 53) (h2 : -1074 ≤ p) (h3 : (bitsN n : Int) + p ≤ 1024) : MkOk s (.int n) p := ⟨hs, .inr (.inr ⟨n, rfl, fits_of h1 h2 h3⟩)⟩
/-! ### numbers as values -/
inductive Nm where
  | i (n : Int)
  | f (s : Int) (t : V) (p : Int)
def NumAt (C : Addr) (H : Hp) (v : V) : Nm → Prop
  | .i n => v = .int n
  | .f s t p => ∃ a, v = .ref a ∧ FlAt C H a s t p ∧ FlOk s t p
theorem NumAt.same {C : Addr} {H H' : Hp} {v : V} : ∀ {n : Nm}, NumAt C H v n → Same H H' → NumAt C H' v n
  | .i _, h, _ => h
  | .f _ _ _, ⟨a, e, h, k⟩, s => ⟨a, e, h.same s, k⟩
abbrev RetF (C : Addr) (H : Hp) (s : Int) (t : V) (p : Int) (Q : VK) : Prop := ∀ H' a, H a = none → Same H H' → FlAt C H' a s t p → Q (.ref a) H'
section
variable {P : Program} {w : World} {K : PySem.W.Frag} {mg : Str → Option Value} {base : Heap} {C : Addr}
/-- Float(s, top, p) -/
theorem mkF {H : Hp} {Q : VK} {E : XK} {s : Int} {top : V} {p : Int} (hk : MkOk s top p) (q : RetF C H s (redV top p).1 (redV top p).2 Q) :
    MakeR C (sp_Finit C) ([.int s, top, .int p] ++ []) H Q E := by
  intro x dx H' nx ndx ne s1 hx _
  exact ⟨x, dx, s, top, p, rfl, hx, hk, fun H2 k h2 => ⟨rfl, q H2 x nx (fun b o e => k b o (ne_of_none e nx) (s1 _ _ e)) ⟨dx, h2⟩⟩⟩
abbrev CnF (P : Program) (w : World) (K : PySem.W.Frag) (mg : Str → Option Value) (base : Heap) (C : Addr) : Prop := Cn P w K mg base CX0 2 "Float" C ["self", "sign", "top", "power"] [] (sp_Finit C)
/-! is_finite -/
abbrev s_Float_isfinite : Stmt := inClass (top 12) 4
theorem sc_Float_isfinite : FnScope ["self"] ["self"] (defScope s_Float_isfinite) := ⟨rfl, rfl, rfl, by decide +kernel, rfl, by decide +kernel, by decide +kernel⟩
def sp_isfinite (C : Addr) : Sp := fun vs H Q _ => ∃ a s t p, vs = [.ref a] ∧ FlAt C H a s t p ∧ FlOk s t p ∧ Q (.bl (isI t)) H
theorem FlOk.kn {s : Int} {t : V} {p : Int} {H : Hp} (h : FlOk s t p) : ∃ u, Kn K H t u ∧ isB t = false := by
  rcases h.2 with ⟨rfl, _⟩ | ⟨rfl, _⟩ | ⟨n, rfl, _⟩
  · exact ⟨_, kn_str, rfl⟩
  · exact ⟨_, kn_str, rfl⟩
  · exact ⟨_, kn_int, rfl⟩
theorem ok_isfinite {f : Addr} {fd : FuncData} (F : FunD K "is_finite" "Float.is_finite" (defArgs s_Float_isfinite) (defBody s_Float_isfinite) (defScope s_Float_isfinite) [] [] f fd) (B : Blt mg) (T : FlC K mg C) : FnOk P w K mg base CX0 1 f fd ["self"] (sp_isfinite C) := by
  refine F.ok sc_Float_isfinite (fun vs H Q E h => ?_) (fun cdv A outer s H vs Q E hr h => ?_)
  · obtain ⟨a, s, t, p, rfl, _⟩ := h; rfl
  · obtain ⟨a, sg, t, p, rfl, ⟨dx, ha⟩, ho, q⟩ := h
    refine ⟨_, PSs.nox (pss_one (ps_ret (pe_callB call_isi (by rfl) B.isinstance (by decide +kernel) (pa_cons (pe_fld (pv 0) rfl) (pa_cons (pe_tyInt B) pa_nil))))), ?_⟩
    walk_at "go"
    refine ⟨a, C, dx, _, _, rfl, ha, T.own.cl, T.nT, fl_top _ _ _, ?_⟩
    walk_at "go"
    obtain ⟨u, kn, hb⟩ := ho.kn (K := K) (H := H)
    refine g_isiInt kn ?_
    rw [hb, Bool.or_false]
    exact q
/-! ratio -/
abbrev s_Float_ratio : Stmt := inClass (top 12) 5
theorem sc_Float_ratio : FnScope ["self"] ["self"] (defScope s_Float_ratio) := ⟨rfl, rfl, rfl, by decide +kernel, rfl, by decide +kernel, by decide +kernel⟩
def ratN (s n p : Int) : Int := if p < 0 then s * n else s * (n * 2 ^ p.toNat)
def ratD (p : Int) : Int := if p < 0 then 2 ^ (0 - p).toNat else 1
def sp_ratio (C : Addr) : Sp := fun vs H Q _ => ∃ a s n p, vs = [.ref a] ∧ FlAt C H a s (.int n) p ∧ FlOk s (.int n) p ∧ RetT H [.int (ratN s n p), .int (ratD p)] Q
theorem fin_of {s n p : Int} (h : FlOk s (.int n) p) : FinOk n p := by
  rcases h.2 with ⟨z, _⟩ | ⟨z, _⟩ | ⟨m, e, h⟩
  · cases z
  · cases z
  · injection e with e; subst e; exact h
theorem FinOk.hi {n p : Int} (h : FinOk n p) : p ≤ 1024 := by
  obtain ⟨h1, _, _, h4, h5⟩ := h
  by_cases h0 : n = 0
  · rw [h5.1 h0]; decide
  · have := bits_pos (n := n.natAbs) (by omega)
    rw [intBits_neg] at h4
    omega
theorem sgn_mul {s x : Int} (hs : s = 1 ∨ s = -1) : IntMulOk s x := .of_left (by rcases hs with rfl | rfl <;> decide)
theorem shl_small {i j : Int} (h0 : 0 ≤ j) (h : j ≤ 100000) (hi : i.natAbs < 2 ^ 100000) : CShl i j := by
  refine ⟨h0, ?_⟩
  rw [intBits_neg]
  have := bits_le hi
  omega
theorem lt_pow_mono {n a b : Nat} (h : n < 2 ^ a) (hab : a ≤ b) : n < 2 ^ b := Nat.lt_of_lt_of_le h (Nat.pow_le_pow_right (by decide) hab)
theorem ok_ratio {f : Addr} {fd : FuncData} (F : FunD K "ratio" "Float.ratio" (defArgs s_Float_ratio) (defBody s_Float_ratio) (defScope s_Float_ratio) [] [] f fd) (B : Blt mg) (T : FlC K mg C) : FnOk P w K mg base CX0 1 f fd ["self"] (sp_ratio C) := by
  refine F.ok sc_Float_ratio (fun vs H Q E h => ?_) (fun cdv A outer s H vs Q E hr h => ?_)
  · obtain ⟨a, s, t, p, rfl, _⟩ := h; rfl
  · obtain ⟨a, sg, n, p, rfl, ⟨dx, ha⟩, ho, q⟩ := h
    have hf := fin_of ho
    have hhi := hf.hi
    obtain ⟨f1, f2, f3, f4, f5⟩ := hf
    unfold ratN ratD at q
    refine ⟨_, PSs.nox (pss_cons (ps_if (pt_cmpR op_oLt (pe_fld (pv 0) rfl) pe_int (nomark _)) (pss_one (ps_ret (pe_tupN (pa_cons (pe_op op_oMul (pe_fld (pv 0) rfl) (pe_fld (pv 0) rfl)) (pa_cons (pe_op op_oShl pe_int (pe_op op_oSub pe_int (pe_fld (pv 0) rfl))) pa_nil))))) pss_nil)
  (pss_one (ps_ret (pe_tupN (pa_cons (pe_op op_oMul (pe_fld (pv 0) rfl) (pe_op op_oShl (pe_fld (pv 0) rfl) (pe_fld (pv 0) rfl))) (pa_cons pe_int pa_nil)))))), ?_⟩
    walk_at "go"
    refine ⟨a, C, dx, _, _, rfl, ha, T.own.cl, T.nP, fl_power _ _ _, ?_⟩
    walk_at "go"
    refine g_ite (fun hp => ?_) fun hp => ?_
    · walk_at "go"
      refine ⟨a, C, dx, _, _, rfl, ha, T.own.cl, T.nS, fl_sign _ _ _, ?_⟩
      walk_at "go"
      refine ⟨a, C, dx, _, _, rfl, ha, T.own.cl, T.nT, fl_top _ _ _, ?_⟩
      refine g_mulI (sgn_mul ho.1) ?_
      walk_at "go"
      refine ⟨a, C, dx, _, _, rfl, ha, T.own.cl, T.nP, fl_power _ _ _, ?_⟩
      walk_at "go"
      refine g_II (shl_small (by omega) (by omega) (lt_pow_mono (a := 1) (by decide) (by decide))) ?_
      walk_at "go"
      refine g_new (sz rfl) fun b H2 nb s2 hb _ => ?_
      rw [if_pos hp, if_pos hp] at q
      rw [Int.one_mul] at hb
      exact q _ _ nb s2 hb
    · walk_at "go"
      refine ⟨a, C, dx, _, _, rfl, ha, T.own.cl, T.nS, fl_sign _ _ _, ?_⟩
      walk_at "go"
      refine ⟨a, C, dx, _, _, rfl, ha, T.own.cl, T.nT, fl_top _ _ _, ?_⟩
      walk_at "go"
      refine ⟨a, C, dx, _, _, rfl, ha, T.own.cl, T.nP, fl_power _ _ _, ?_⟩
      walk_at "go"
      refine g_II (shl_small (by omega) (by omega) (lt_pow_mono (a := 53) (by omega) (by decide))) ?_
      refine g_mulI (sgn_mul ho.1) ?_
      walk_at "go"
      refine g_new (sz rfl) fun b H2 nb s2 hb _ => ?_
      rw [if_neg hp, if_neg hp] at q
      exact q _ _ nb s2 hb
/-! infinity -/
abbrev s_infinity : Stmt := top 18
theorem sc_infinity : FnScope ["sign"] ["sign"] (defScope s_infinity) := ⟨rfl, rfl, rfl, by decide +kernel, rfl, by decide +kernel, by decide +kernel⟩
def sp_infinity (C : Addr) : Sp := fun vs H Q _ => ∃ s, vs = [.int s] ∧ (s = 1 ∨ s = -1) ∧ RetF C H s (.str "inf") 0 Q
theorem mk_inf {s : Int} (hs : s = 1 ∨ s = -1) : MkOk s (.str "inf") 0 := ⟨hs, .inr (.inl ⟨rfl, rfl⟩)⟩
theorem ok_infinity {f : Addr} {fd : FuncData} (F : FunD K "infinity" "infinity" (defArgs s_infinity) (defBody s_infinity) (defScope s_infinity) [] [] f fd) (c_Float : CnF P w K mg base C) : FnOk P w K mg base CX0 4 f fd ["sign"] (sp_infinity C) := by
  refine F.ok sc_infinity (fun vs H Q E h => ?_) (fun cdv A outer s H vs Q E hr h => ?_)
  · obtain ⟨a, rfl, _⟩ := h; rfl
  · obtain ⟨sg, rfl, hs, q⟩ := h
    refine ⟨_, PSs.nox (pss_one (ps_ret (pe_cn c_Float (hr.mono (by first | decide | omega)) pass0 (pa_cons (pv 0) (pa_cons pe_str (pa_cons pe_int pa_nil)))))), ?_⟩
    walk_at "go"
    exact mkF (mk_inf hs) q
/-! nearest -/
abbrev s_nearest : Stmt := top 19
theorem sc_nearest : FnScope ["sign", "top", "bottom", "power", "whole", "rest"] ["sign", "top", "bottom"] (defScope s_nearest) := ⟨rfl, rfl, rfl, by decide +kernel, rfl, by decide +kernel, by decide +kernel⟩
/-- what is handed to Float -/
def nearV (t b : Nat) : V × Int := if t = 0 then (.int 0, 0) else if (bitsN (nrW t b) : Int) + nrP2 t b > 1024 then (.str "inf", 0) else (.int (nrW t b : Int), nrP2 t b)
theorem near_mk {s : Int} {t b : Nat} (hs : s = 1 ∨ s = -1) (hb : 0 < b) : MkOk s (nearV t b).1 (nearV t b).2 := by
  unfold nearV
  by_cases h0 : t = 0
  · rw [if_pos h0]
    exact mk_of_flok (n := 0) hs (by decide) (by decide) (by decide)
  · rw [if_neg h0]
    by_cases h1 : (bitsN (nrW t b) : Int) + nrP2 t b > 1024
    · rw [if_pos h1]
      exact mk_inf hs
    · rw [if_neg h1]
      exact mk_of_flok hs (nrW_le hb) (nrP2_lo t b) (by omega)
def sp_nearest (C : Addr) : Sp := fun vs H Q _ => ∃ (s : Int) (t b : Nat), vs = [.int s, .int t, .int b] ∧ (s = 1 ∨ s = -1) ∧ 0 < b ∧ bitsN t ≤ 6000 ∧ bitsN b ≤ 6000 ∧ RetF C H s (redV (nearV t b).1 (nearV t b).2).1 (redV (nearV t b).1 (nearV t b).2).2 Q
theorem fdiv_nat (a b : Nat) : (a : Int).fdiv (b : Int) = ((a / b : Nat) : Int) := by
  rw [Int.fdiv_eq_ediv_of_nonneg _ (by omega)]; rfl
theorem log2_lt {b k : Nat} (h : b < 2 ^ k) (hk : 0 < k) : b.log2 < k := by
  by_cases h0 : b = 0
  · subst h0; simpa using hk
  · exact (Nat.log2_lt h0).mpr h
theorem land_one (n : Nat) : Builtin.bitAnd (n : Int) 1 = ((n % 2 : Nat) : Int) := by
  rw [PyProof.Rows.bitAnd_pp (by omega) (by decide)]
  show ((n &&& 1 : Nat) : Int) = _
  rw [Nat.and_one_is_mod]
theorem ok_nearest {f : Addr} {fd : FuncData} (F : FunD K "nearest" "nearest" (defArgs s_nearest) (defBody s_nearest) (defScope s_nearest) [] [] f fd) (B : Blt mg) (i_ROOM : ∃ t, mg "ROOM" = some (.int 9007199254740992 t)) (i_LOWEST : ∃ t, mg "LOWEST" = some (.int (-1074) t)) (i_TOO_GREAT : ∃ t, mg "TOO_GREAT" = some (.int 1024 t))
    (c_Float : CnF P w K mg base C) (c_infinity : Fn P w K mg base CX0 4 "infinity" ["sign"] [] (sp_infinity C)) : FnOk P w K mg base CX0 5 f fd ["sign", "top", "bottom"] (sp_nearest C) := by
  refine F.ok sc_nearest (fun vs H Q E h => ?_) (fun cdv A outer s H vs Q E hr h => ?_)
  · obtain ⟨_, _, _, rfl, _⟩ := h; rfl
  · obtain ⟨sg, t, b, rfl, hs, hb, ht, hbb, q⟩ := h
    have mk := near_mk (t := t) (b := b) hs hb
    refine ⟨_, PSs.nox (pss_cons (ps_if (pt_cmpR (op_oEq hr.units) (pv 1) pe_int (nomark _)) (pss_one (ps_ret (pe_cn c_Float (hr.mono (by first | decide | omega)) pass0 (pa_cons (pv 0) (pa_cons pe_int (pa_cons pe_int pa_nil)))))) pss_nil)
  (pss_cons (ps_set (i := 3) sc_nearest.nd rfl (Or.inl rfl) (pe_callB (call_max2 rfl) (by rfl) B.max (by decide +kernel) (pa_cons (pe_op op_oSub (pe_op op_oSub (pe_bits (pv 1)) (pe_bits (pv 2))) pe_int) (pa_cons (pe_gint i_LOWEST) pa_nil))))
  (C8.pss_cut (ps_if (pt_cmpR op_oLt (pv 3) pe_int (nomark _)) (pss_one (ps_set (i := 1) sc_nearest.nd rfl (Or.inl rfl) (pe_op op_oShl (pv 1) (pe_op op_oSub pe_int (pv 3))))) (pss_one (ps_set (i := 2) sc_nearest.nd rfl (Or.inl rfl) (pe_op op_oShl (pv 2) (pv 3)))))
  (C8.pss_cut (ps_if (pt_cmpR op_oGe (pe_op op_oDiv (pv 1) (pv 2)) (pe_gint i_ROOM) (nomark _)) (pss_cons (ps_set (i := 2) sc_nearest.nd rfl (Or.inl rfl) (pe_op op_oShl (pv 2) pe_int))
  (pss_one (ps_set (i := 3) sc_nearest.nd rfl (Or.inl rfl) (pe_op op_oAdd (pv 3) pe_int)))) pss_nil)
  (pss_cons (ps_asg (pe_callB call_divmodK (by rfl) B.divmod (by decide +kernel) (pa_cons (pv 1) (pa_cons (pv 2) pa_nil))) (pg_tup rfl (pgs_cons (pg_name (i := 4) sc_nearest.nd rfl (Or.inl rfl)) (pgs_cons (pg_name (i := 5) sc_nearest.nd rfl (Or.inl rfl)) pgs_nil))))
  (C8.pss_cut (ps_if (PW.pt (pw_or (pt_cmpR op_oGt (pe_op op_oMul pe_int (pv 5)) (pv 2) (nomark _)) (pw_or1 (PW.pt (pw_and (pt_cmpR (op_oEq hr.units) (pe_op op_oMul pe_int (pv 5)) (pv 2) (nomark _)) (pw_and1 (pt_cmpR (op_oEq hr.units) (pe_op op_oAnd (pv 4) pe_int) pe_int (nomark _)))))))) (pss_one (ps_set (i := 4) sc_nearest.nd rfl (Or.inl rfl) (pe_op op_oAdd (pv 4) pe_int))) pss_nil)
  (pss_cons (ps_if (pt_cmpR op_oGt (pe_op op_oAdd (pe_bits (pv 4)) (pv 3)) (pe_gint i_TOO_GREAT) (nomark _)) (pss_one (ps_ret (pe_fn c_infinity (hr.mono (by first | decide | omega)) pass0 (pa_cons (pv 0) pa_nil)))) pss_nil)
  (pss_one (ps_ret (pe_cn c_Float (hr.mono (by first | decide | omega)) pass0 (pa_cons (pv 0) (pa_cons (pv 4) (pa_cons (pv 3) pa_nil))))))))))))), ?_⟩
    walk_at "go"
    refine g_ite (fun h0 => ?_) fun h0 => ?_
    · walk_at "go"
      have h0 : t = 0 := by omega
      have e : nearV t b = (.int 0, 0) := if_pos h0
      rw [e] at q mk
      exact mkF mk q
    · have h0 : t ≠ 0 := by omega
      walk_at "go"
      rw [intBits_nat, intBits_nat]
      have eP : (if (-1074 : Int) > ((bitsN t : Nat) : Int) - ((bitsN b : Nat) : Int) - 53 then (-1074 : Int) else ((bitsN t : Nat) : Int) - ((bitsN b : Nat) : Int) - 53) = nrP t b := rfl
      rw [eP]
      have p1 := nrP_lo t b
      have p2 := nrP_hi (t := t) (b := b)
      walk_at "go"
      refine g_cut (fun σ' H2 => σ' = [some (.int sg), some (.int (nrT t (nrP t b) : Nat)), some (.int (nrB b (nrP t b) : Nat)), some (.int (nrP t b)), none, none] ∧ H = H2) ?_ ?_
      · walk_at "go"
        refine g_ite (fun hp => ?_) fun hp => ?_
        · walk_at "go"
          refine g_II (shl_small (by omega) (by omega) (lt_pow_mono (bits_lt t) (by omega))) ?_
          walk_at "go"
          refine ⟨?_, rfl⟩
          unfold nrT nrB
          rw [if_pos hp, if_pos hp]
          simp [L2.start]
        · walk_at "go"
          refine g_II (shl_small (by omega) (by omega) (lt_pow_mono (bits_lt b) (by omega))) ?_
          walk_at "go"
          refine ⟨?_, rfl⟩
          unfold nrT nrB
          rw [if_neg hp, if_neg hp]
          simp [L2.start]
      · rintro σ' _ ⟨rfl, rfl⟩
        have hB := nrB_pos hb (nrP t b)
        have hB2 := nrB2_pos (t := t) hb
        have hbit := nrB2_bits (m := 6000) ht hbb hb
        have hbit1 : nrB b (nrP t b) < 2 ^ 6001 := by
          unfold nrB2 at hbit
          split at hbit <;> omega
        walk_at "go"
        refine g_cut (fun σ' H2 => σ' = [some (.int sg), some (.int (nrT t (nrP t b) : Nat)), some (.int (nrB2 t b : Nat)), some (.int (nrP2 t b)), none, none] ∧ H = H2) ?_ ?_
        · walk_at "go"
          refine g_divI (by omega) (by rw [Int.natAbs_natCast]; exact Nat.lt_trans (log2_lt hbit1 (by decide)) (by decide)) ?_
          rw [fdiv_nat]
          walk_at "go"
          refine g_ite (fun hg => ?_) fun hg => ?_
          · have hg' : nrBig t b = true := decide_eq_true (Int.ofNat_le.mp (show ((9007199254740992 : Nat) : Int) ≤ _ from hg))
            walk_at "go"
            refine g_II (shl_small (by decide) (by decide) (lt_pow_mono hbit1 (by decide))) ?_
            walk_at "go"
            refine ⟨?_, rfl⟩
            unfold nrB2 nrP2
            rw [if_pos hg', if_pos hg']
            simp
          · have hg' : ¬ nrBig t b = true := fun z => hg (Int.ofNat_le.mpr (of_decide_eq_true z))
            walk_at "go"
            refine ⟨?_, rfl⟩
            unfold nrB2 nrP2
            rw [if_neg hg', if_neg hg']
        · rintro σ' _ ⟨rfl, rfl⟩
          walk_at "go"
          refine ⟨_, _, rfl, ⟨by omega, by rw [Int.natAbs_natCast]; exact Nat.lt_trans (log2_lt hbit (by decide)) (by decide)⟩, fun a H2 na s2 ha _ => ?_⟩
          walk_at "go"
          refine ⟨a, _, rfl, SqT.of ha, rfl, ?_⟩
          walk_at "go"
          have eQ : ((nrT t (nrP t b) : Nat) : Int) / ((nrB2 t b : Nat) : Int) = ((nrQ t b : Nat) : Int) := rfl
          have eR : ((nrT t (nrP t b) : Nat) : Int) % ((nrB2 t b : Nat) : Int) = ((nrR t b : Nat) : Int) := rfl
          rw [eQ, eR]
          refine g_cut (fun σ' H3 => σ' = [some (.int sg), some (.int (nrT t (nrP t b) : Nat)), some (.int (nrB2 t b : Nat)), some (.int (nrP2 t b)), some (.int (nrW t b : Nat)), some (.int (nrR t b : Nat))] ∧ H2 = H3) ?_ ?_
          · have up : ∀ (c : Bool), nrUp t b = c → nrW t b = if c then nrQ t b + 1 else nrQ t b := fun c h => by unfold nrW; rw [h]
            walk_at "go"
            refine g_mulI (.of_left (by decide)) ?_
            walk_at "go"
            refine g_ite (fun h1 => ?_) fun h1 => ?_
            · walk_at "go"
              refine ⟨?_, rfl⟩
              rw [up true (by unfold nrUp; rw [decide_eq_true (show nrB2 t b < 2 * nrR t b by omega)]; rfl)]
              simp
            · walk_at "go"
              refine g_mulI (.of_left (by decide)) ?_
              walk_at "go"
              refine g_ite (fun h2 => ?_) fun h2 => ?_
              · walk_at "go"
                rw [land_one]
                refine g_ite (fun h3 => ?_) fun h3 => ?_
                · walk_at "go"
                  refine ⟨?_, rfl⟩
                  rw [up true (by unfold nrUp; rw [decide_eq_true (show 2 * nrR t b = nrB2 t b by omega), decide_eq_true (show nrQ t b % 2 = 1 by omega), Bool.and_self, Bool.or_true])]
                  simp
                · walk_at "go"
                  refine ⟨?_, rfl⟩
                  rw [up false (by unfold nrUp; rw [decide_eq_false (show ¬ nrB2 t b < 2 * nrR t b by omega), decide_eq_false (show ¬ nrQ t b % 2 = 1 by omega), Bool.and_false, Bool.or_false])]
                  simp
              · walk_at "go"
                refine ⟨?_, rfl⟩
                rw [up false (by unfold nrUp; rw [decide_eq_false (show ¬ nrB2 t b < 2 * nrR t b by omega), decide_eq_false (show ¬ 2 * nrR t b = nrB2 t b by omega), Bool.false_and, Bool.or_false])]
                simp
          · rintro σ' _ ⟨rfl, rfl⟩
            have q2 : RetF C H2 sg (redV (nearV t b).1 (nearV t b).2).1 (redV (nearV t b).1 (nearV t b).2).2 Q := fun H' x nx sx hx => q H' x (s2.free nx) (s2.trans sx) hx
            walk_at "go"
            rw [intBits_nat]
            refine g_ite (fun h1 => ?_) fun h1 => ?_
            · walk_at "go"
              have e : nearV t b = (.str "inf", 0) := by unfold nearV; rw [if_neg h0, if_pos h1]
              rw [e] at q2
              exact ⟨sg, rfl, hs, q2⟩
            · walk_at "go"
              have e : nearV t b = (.int (nrW t b : Int), nrP2 t b) := by unfold nearV; rw [if_neg h0, if_neg h1]
              rw [e] at q2 mk
              exact mkF mk q2
end
end Up

set_option Elab.async false
set_option linter.all false
set_option maxRecDepth 100000
set_option maxHeartbeats 4000000
set_option exponentiation.threshold 200000
namespace Up
open PySem PySem.Spec PyProof.Rows L2
local macro_rules | `(tactic| walk_at "u") => `(tactic| first
  | with_reducible refine g_seq ?_
  | with_reducible refine g_asg ?_
  | with_reducible refine g_op ?_
  | ((with_reducible show tVar _ _ _ _); apply g_var; exact rfl)
  | with_reducible refine g_c ?_
  | with_reducible refine g_name ?_
  | with_reducible refine g_ifs ?_
  | with_reducible refine g_tt ?_
  | with_reducible refine g_tB ?_
  | with_reducible refine g_bl ?_
  | with_reducible refine g_ret ?_
  | with_reducible refine g_cb ?_
  | with_reducible refine g_cons ?_
  | with_reducible refine g_nil ?_
  | with_reducible refine g_call ?_
  | with_reducible refine g_and ?_
  | with_reducible refine g_or ?_
  | with_reducible refine g_not ?_
  | with_reducible refine g_andV ?_
  | with_reducible refine g_orV ?_
  | with_reducible refine g_notV ?_
  | with_reducible refine g_if ?_
  | with_reducible refine g_un ?_
  | with_reducible refine g_neg ?_
  | with_reducible refine g_addI ?_
  | with_reducible refine g_subI ?_
  | with_reducible refine g_subB ?_
  | with_reducible refine g_I0 ?_
  | with_reducible refine g_cmpI ?_
  | with_reducible refine g_eqI ?_
  | with_reducible refine g_neI ?_
  | with_reducible refine g_eqS ?_
  | with_reducible refine g_neS ?_
  | with_reducible refine g_eqB ?_
  | with_reducible refine g_neB ?_
  | with_reducible refine g_bits ?_
  | with_reducible refine g_bitsI ?_
  | with_reducible refine g_fld ?_
  | with_reducible refine g_tup ?_
  | with_reducible refine g_lst ?_
  | with_reducible refine g_gtup ?_
  | with_reducible refine g_make ?_
  | with_reducible refine g_lc ?_
  | with_reducible refine g_yesT ?_
  | with_reducible refine g_intI ?_
  | with_reducible refine g_intB ?_
  | with_reducible refine g_max2 ?_
  | with_reducible refine g_abs1 ?_
  | with_reducible refine g_for ?_
  | with_reducible refine g_iList ?_
  | with_reducible refine g_iTup ?_
  | with_reducible refine g_iRng1 ?_
  | with_reducible refine g_iEnum ?_
  | with_reducible refine g_slice ?_
  | with_reducible refine g_po0 ?_
  | with_reducible refine g_po1 ?_
  | with_reducible refine g_gsub ?_
  | with_reducible refine g_par ?_
  | with_reducible refine g_par2 ?_
  | with_reducible refine g_rfl ?_
  | with_reducible refine g_meth ?_
  | with_reducible refine g_gcons ?_
  | with_reducible refine g_gnil ?_
  | with_reducible refine g_gfld ?_
  | with_reducible refine g_sfld ?_
  | with_reducible refine g_drop ?_
  | with_reducible refine g_next ?_
  | with_reducible refine iteT ?_
  | with_reducible refine iteF ?_)
local macro_rules | `(tactic| walk_at "go") => `(tactic| (repeat walk_at "u"))

section
variable {P : Program} {w : World} {K : PySem.W.Frag} {mg : Str → Option Value} {base : Heap} {C : Addr}
/-! ### kinds, Float asked too -/
structure KnF (K : PySem.W.Frag) (C : Addr) (H : Hp) (x : V) (t : Value) (b : Bool) : Prop where
  kn : Kn K H x t
  fl : PySem.W.kitOne K t (.ref C) = some b
theorem KnF.same {H H' : Hp} {x : V} {t : Value} {b : Bool} (h : KnF K C H x t b) (s : Same H H') : KnF K C H' x t b := ⟨h.kn.same s, h.fl⟩
theorem g_isiF {H : Hp} {Q : VK} {x : V} {t : Value} {b : Bool} (h : KnF K C H x t b) (q : Q (.bl b) H) : rIsi K [x, .ref C] H Q := g_isi h.kn.ty (.own _) h.fl q
theorem kf_int (T : FlC K mg C) {H : Hp} {i : Int} : KnF K C H (.int i) (.type "int") false := ⟨kn_int, T.fi⟩
theorem kf_bl (T : FlC K mg C) {H : Hp} {i : Bool} : KnF K C H (.bl i) (.type "bool") false := ⟨kn_bl, T.fb⟩
theorem kf_str (T : FlC K mg C) {H : Hp} {i : Str} : KnF K C H (.str i) (.type "str") false := ⟨kn_str, T.fs⟩
theorem kf_non (T : FlC K mg C) {H : Hp} : KnF K C H .non (.type "NoneType") false := ⟨kn_non, T.fn⟩
theorem kf_fl (T : FlC K mg C) {H : Hp} {a : Addr} {s : Int} {t : V} {p : Int} (h : FlAt C H a s t p) : KnF K C H (.ref a) (.ref C) true := by
  obtain ⟨dx, h⟩ := h
  exact ⟨kn_ins T.own h, T.yes⟩
def isF : Nm → Bool
  | .i _ => false
  | .f _ _ _ => true
theorem NumAt.kf (T : FlC K mg C) {H : Hp} {v : V} : ∀ {n : Nm}, NumAt C H v n → ∃ t, KnF K C H v t (isF n) ∧ isI v = !isF n ∧ isB v = false
  | .i n, h => by
    have h : v = .int n := h
    subst h
    exact ⟨_, kf_int T, rfl, rfl⟩
  | .f s t p, ⟨a, e, h, _⟩ => by
    subst e
    exact ⟨_, kf_fl T h, rfl, rfl⟩
/-! to_float -/
abbrev s_tofloat : Stmt := top 21
theorem sc_tofloat : FnScope ["number"] ["number"] (defScope s_tofloat) := ⟨rfl, rfl, rfl, by decide +kernel, rfl, by decide +kernel, by decide +kernel⟩
def bigOk (k : Int) : Prop := k.natAbs < 2 ^ 5000
/-- the float of an int: sign, top, power -/
def tfS (k : Int) : Int := if k < 0 then -1 else 1
def tfR (k : Int) : V × Int := redV (nearV k.natAbs 1).1 (nearV k.natAbs 1).2
def sp_tofloat (C : Addr) : Sp := fun vs H Q _ => ∃ v n, vs = [v] ∧ NumAt C H v n ∧ match n with
  | .f _ _ _ => Q v H
  | .i k => bigOk k ∧ RetF C H (tfS k) (tfR k).1 (tfR k).2 Q
theorem ok_tofloat {f : Addr} {fd : FuncData} (F : FunD K "to_float" "to_float" (defArgs s_tofloat) (defBody s_tofloat) (defScope s_tofloat) [] [] f fd) (B : Blt mg) (T : FlC K mg C) (c_nearest : Fn P w K mg base CX0 5 "nearest" ["sign", "top", "bottom"] [] (sp_nearest C)) (c_signof : Fn P w K mg base CX0 1 "sign_of" ["is_negative"] [] sp_signof) :
    FnOk P w K mg base CX0 6 f fd ["number"] (sp_tofloat C) := by
  have g_Float : mg "Float" = some (.ref C) := T.mg
  refine F.ok sc_tofloat (fun vs H Q E h => ?_) (fun cdv A outer s H vs Q E hr h => ?_)
  · obtain ⟨x, n, rfl, _⟩ := h; rfl
  · obtain ⟨x, n, rfl, hn, q⟩ := h
    refine ⟨_, PSs.nox (pss_cons (ps_if (pt_val (pe_callB call_isi (by rfl) B.isinstance (by decide +kernel) (pa_cons (pv 0) (pa_cons (pe_gref g_Float) pa_nil)))) (pss_one (ps_ret (pv 0))) pss_nil)
  (pss_one (ps_ret (pe_fn c_nearest (hr.mono (by first | decide | omega)) pass0 (pa_cons (pe_fn c_signof (hr.mono (by first | decide | omega)) pass0 (pa_cons (pe_cmpR op_oLt (pv 0) pe_int (nomark _)) pa_nil)) (pa_cons (pe_callB call_abs (by rfl) B.abs (by decide +kernel) (pa_cons (pv 0) pa_nil)) (pa_cons pe_int pa_nil))))))), ?_⟩
    obtain ⟨t, hk, _, _⟩ := hn.kf T
    walk_at "go"
    refine g_isiF hk ?_
    walk_at "go"
    cases n with
    | f sg tp p =>
      refine iteT ?_
      walk_at "go"
      exact q
    | i k =>
      have hn : x = .int k := hn
      subst hn
      obtain ⟨hb, q⟩ := q
      refine iteF ?_
      walk_at "go"
      refine ⟨_, rfl, ?_⟩
      walk_at "go"
      have e1 : sgnB (decide (k < 0)) = tfS k := by unfold sgnB tfS; by_cases h : k < 0 <;> simp [h]
      have e2 : (if k < 0 then -k else k) = (k.natAbs : Int) := by split <;> omega
      rw [e1, e2]
      refine ⟨tfS k, k.natAbs, 1, rfl, by unfold tfS; split <;> simp, by decide, Nat.le_trans (bits_le hb) (by decide), by decide, q⟩
theorem mul_small {i j : Int} (hi : i.natAbs < 2 ^ 100000) (hj : j.natAbs < 2 ^ 100000) : IntMulOk i j := (mulx_ok hi hj (by decide)).ok
theorem natAbs_mul_lt {x y : Int} {a b : Nat} (hx : x.natAbs < 2 ^ a) (hy : y.natAbs < 2 ^ b) : (x * y).natAbs < 2 ^ (a + b) := by
  rw [Int.natAbs_mul, Nat.pow_add]
  exact Nat.mul_lt_mul'' hx hy
theorem sgn_abs {s : Int} (hs : s = 1 ∨ s = -1) (x : Int) : (s * x).natAbs = x.natAbs := by
  rw [Int.natAbs_mul]; rcases hs with rfl | rfl <;> simp
theorem tf_mk (k : Int) : MkOk (tfS k) (nearV k.natAbs 1).1 (nearV k.natAbs 1).2 := near_mk (by unfold tfS; split <;> simp) (by decide)
/-- a float made again of its own parts -/
theorem mk_again {s : Int} {t : V} {p : Int} (h : FlOk s t p) : MkOk s t p := by
  obtain ⟨hs, h⟩ := h
  rcases h with ⟨rfl, h1, rfl⟩ | ⟨rfl, rfl⟩ | ⟨n, rfl, f1, f2, f3, f4, f5⟩
  · exact ⟨hs, .inl ⟨rfl, h1, rfl⟩⟩
  · exact ⟨hs, .inr (.inl ⟨rfl, rfl⟩)⟩
  · obtain ⟨k, rfl⟩ := Int.eq_ofNat_of_zero_le f1
    rw [intBits_nat] at f4
    exact mk_of_flok hs (by omega) f3 f4
theorem small64 {k : Int} (h1 : -(2 ^ 65) ≤ k) (h2 : k ≤ 2 ^ 65) : k.natAbs < 2 ^ 1000 := lt_pow_mono (a := 66) (by omega) (by decide)
theorem big64 {k : Int} (h1 : -(2 ^ 65) ≤ k) (h2 : k ≤ 2 ^ 65) : bigOk k := lt_pow_mono (a := 66) (by omega) (by decide)
end
end Up

set_option Elab.async false
set_option linter.all false
set_option maxRecDepth 100000
set_option maxHeartbeats 4000000
set_option exponentiation.threshold 200000
namespace Up
open PySem PySem.Spec PyProof.Rows L2
local macro_rules | `(tactic| walk_at "u") => `(tactic| first
  | with_reducible refine g_seq ?_
  | with_reducible refine g_asg ?_
  | with_reducible refine g_op ?_
  | ((with_reducible show tVar _ _ _ _); apply g_var; exact rfl)
  | with_reducible refine g_c ?_
  | with_reducible refine g_name ?_
  | with_reducible refine g_ifs ?_
  | with_reducible refine g_tt ?_
  | with_reducible refine g_tB ?_
  | with_reducible refine g_bl ?_
  | with_reducible refine g_ret ?_
  | with_reducible refine g_cb ?_
  | with_reducible refine g_cons ?_
  | with_reducible refine g_nil ?_
  | with_reducible refine g_call ?_
  | with_reducible refine g_and ?_
  | with_reducible refine g_or ?_
  | with_reducible refine g_not ?_
  | with_reducible refine g_andV ?_
  | with_reducible refine g_orV ?_
  | with_reducible refine g_notV ?_
  | with_reducible refine g_if ?_
  | with_reducible refine g_un ?_
  | with_reducible refine g_neg ?_
  | with_reducible refine g_addI ?_
  | with_reducible refine g_subI ?_
  | with_reducible refine g_subB ?_
  | with_reducible refine g_I0 ?_
  | with_reducible refine g_cmpI ?_
  | with_reducible refine g_eqI ?_
  | with_reducible refine g_neI ?_
  | with_reducible refine g_eqS ?_
  | with_reducible refine g_neS ?_
  | with_reducible refine g_eqB ?_
  | with_reducible refine g_neB ?_
  | with_reducible refine g_bits ?_
  | with_reducible refine g_bitsI ?_
  | with_reducible refine g_fld ?_
  | with_reducible refine g_tup ?_
  | with_reducible refine g_lst ?_
  | with_reducible refine g_gtup ?_
  | with_reducible refine g_make ?_
  | with_reducible refine g_lc ?_
  | with_reducible refine g_yesT ?_
  | with_reducible refine g_intI ?_
  | with_reducible refine g_intB ?_
  | with_reducible refine g_max2 ?_
  | with_reducible refine g_abs1 ?_
  | with_reducible refine g_for ?_
  | with_reducible refine g_iList ?_
  | with_reducible refine g_iTup ?_
  | with_reducible refine g_iRng1 ?_
  | with_reducible refine g_iEnum ?_
  | with_reducible refine g_slice ?_
  | with_reducible refine g_po0 ?_
  | with_reducible refine g_po1 ?_
  | with_reducible refine g_gsub ?_
  | with_reducible refine g_par ?_
  | with_reducible refine g_par2 ?_
  | with_reducible refine g_rfl ?_
  | with_reducible refine g_meth ?_
  | with_reducible refine g_gcons ?_
  | with_reducible refine g_gnil ?_
  | with_reducible refine g_gfld ?_
  | with_reducible refine g_sfld ?_
  | with_reducible refine g_drop ?_
  | with_reducible refine g_next ?_
  | with_reducible refine iteT ?_
  | with_reducible refine iteF ?_)
local macro_rules | `(tactic| walk_at "go") => `(tactic| (repeat walk_at "u"))

/-! ### floats by their parts -/
structure FL where
  s : Int
  t : V
  p : Int
def FL.ok (x : FL) : Prop := FlOk x.s x.t x.p
def FA (C : Addr) (H : Hp) (v : V) (x : FL) : Prop := ∃ a, v = .ref a ∧ FlAt C H a x.s x.t x.p
theorem FA.same {C : Addr} {H H' : Hp} {v : V} {x : FL} (h : FA C H v x) (e : Same H H') : FA C H' v x := by
  obtain ⟨a, rfl, h⟩ := h
  exact ⟨a, rfl, h.same e⟩
def RetN (C : Addr) (H : Hp) (x : FL) (Q : VK) : Prop := ∀ H' v, Same H H' → FA C H' v x → Q v H'
theorem RetN.later {C : Addr} {H H1 : Hp} {x : FL} {Q : VK} (q : RetN C H x Q) (s : Same H H1) : RetN C H1 x Q := fun H' v s' h => q H' v (s.trans s') h
theorem RetN.to {C : Addr} {H : Hp} {x : FL} {Q : VK} (q : RetN C H x Q) : RetF C H x.s x.t x.p Q := fun H' a _ s h => q H' _ s ⟨a, rfl, h⟩
def mkL (s : Int) (v : V × Int) : FL := ⟨s, (redV v.1 v.2).1, (redV v.1 v.2).2⟩
def nanL : FL := ⟨1, .str "nan", 0⟩
def infL (s : Int) : FL := ⟨s, .str "inf", 0⟩
def zeroL (s : Int) : FL := ⟨s, .int 0, 0⟩
def nearL (s : Int) (t b : Nat) : FL := mkL s (nearV t b)
theorem near_zero (s : Int) (b : Nat) : nearL s 0 b = zeroL s := rfl
theorem mkL_ok {s : Int} {v : V × Int} (h : MkOk s v.1 v.2) : (mkL s v).ok := mk_flok h
theorem near_ok {s : Int} {t b : Nat} (hs : s = 1 ∨ s = -1) (hb : 0 < b) : (nearL s t b).ok := mkL_ok (near_mk hs hb)
theorem nan_ok : nanL.ok := ⟨.inl rfl, .inl ⟨rfl, rfl, rfl⟩⟩
theorem inf_ok {s : Int} (hs : s = 1 ∨ s = -1) : (infL s).ok := ⟨hs, .inr (.inl ⟨rfl, rfl⟩)⟩
theorem zero_mk {s : Int} (hs : s = 1 ∨ s = -1) : MkOk s (.int 0) 0 := mk_of_flok (n := 0) hs (by decide) (by decide) (by decide)
theorem zero_ok {s : Int} (hs : s = 1 ∨ s = -1) : (zeroL s).ok := mkL_ok (v := (.int 0, 0)) (zero_mk hs)
theorem FL.ok.is {x : FL} (h : x.ok) : IS x.t := by
  rcases h.2 with ⟨e, _⟩ | ⟨e, _⟩ | ⟨n, e, _⟩
  · exact .inr ⟨_, e⟩
  · exact .inr ⟨_, e⟩
  · exact .inl ⟨_, e⟩
theorem FL.ok.fin {x : FL} (h : x.ok) (h1 : x.t ≠ .str "nan") (h2 : x.t ≠ .str "inf") : ∃ n, x.t = .int n ∧ FinOk n x.p := by
  rcases h.2 with ⟨e, _⟩ | ⟨e, _⟩ | h
  · exact absurd e h1
  · exact absurd e h2
  · exact h
/-- made again of its own parts it is the same -/
theorem red_again {s : Int} {t : V} {p : Int} (h : FlOk s t p) : redV t p = (t, p) := by
  rcases h.2 with ⟨rfl, _, rfl⟩ | ⟨rfl, rfl⟩ | ⟨n, rfl, f1, f2, f3, f4, f5, f6⟩
  · rfl
  · rfl
  · by_cases h0 : n = 0
    · subst h0
      rw [f5 rfl]; rfl
    · obtain ⟨k, rfl⟩ := Int.eq_ofNat_of_zero_le f1
      have ho : k % 2 = 1 := by have := f6 h0; omega
      rw [red_nat (by omega), tz_odd ho]
      simp
def nI : V → Int
  | .int n => n
  | _ => 0
def nx (x : FL) : Int := ratN x.s (nI x.t) x.p
def dx (x : FL) : Int := ratD x.p
theorem rat_small {s n p : Int} (h : FlOk s (.int n) p) : (ratN s n p).natAbs < 2 ^ 1100 ∧ (ratD p).natAbs < 2 ^ 1100 ∧ 0 < ratD p := by
  have hf := fin_of h
  have hs := h.1
  have hhi := hf.hi
  obtain ⟨f1, f2, f3, f4, f5⟩ := hf
  have hm : n.natAbs < 2 ^ 53 := by omega
  unfold ratN ratD
  by_cases hp : p < 0
  · rw [if_pos hp, if_pos hp, sgn_abs hs]
    refine ⟨lt_pow_mono hm (by decide), ?_, Int.pow_pos (by decide)⟩
    rw [Int.natAbs_pow]
    exact Nat.pow_lt_pow_right (by decide) (by omega)
  · rw [if_neg hp, if_neg hp, sgn_abs hs]
    refine ⟨?_, lt_pow_mono (a := 1) (by decide) (by decide), by decide⟩
    rw [Int.natAbs_mul, Int.natAbs_pow]
    have h1 : n.natAbs * Int.natAbs 2 ^ p.toNat < 2 ^ 53 * 2 ^ p.toNat := Nat.mul_lt_mul_of_pos_right hm (Nat.two_pow_pos _)
    rw [← Nat.pow_add] at h1
    exact lt_pow_mono h1 (by omega)
theorem FL.ok.small {x : FL} (h : x.ok) {n : Int} (e : x.t = .int n) : (nx x).natAbs < 2 ^ 1100 ∧ (dx x).natAbs < 2 ^ 1100 ∧ 0 < dx x := by
  have h : FlOk x.s x.t x.p := h
  unfold nx dx
  rw [e] at h ⊢
  exact rat_small h
def maxI (i j : Int) : Int := if j > i then j else i
theorem maxI_sgn {i j : Int} (hi : i = 1 ∨ i = -1) (hj : j = 1 ∨ j = -1) : maxI i j = 1 ∨ maxI i j = -1 := by
  unfold maxI; split
  · exact hj
  · exact hi
theorem tfS_sgn (k : Int) : tfS k = 1 ∨ tfS k = -1 := by unfold tfS; split <;> simp
theorem mul_sgn {i j : Int} (hi : i = 1 ∨ i = -1) (hj : j = 1 ∨ j = -1) : i * j = 1 ∨ i * j = -1 := by
  rcases hi with rfl | rfl <;> rcases hj with rfl | rfl <;> simp
/-! what is reckoned -/
def addL (x y : FL) : FL :=
  if x.t = .str "inf" ∨ y.t = .str "inf" then (if x.t = y.t ∧ x.s ≠ y.s then nanL else if x.t = .str "inf" then x else y)
  else if x.t = .int 0 ∧ y.t = .int 0 then zeroL (maxI x.s y.s)
  else nearL (tfS (nx x * dx y + nx y * dx x)) (nx x * dx y + nx y * dx x).natAbs (dx x * dx y).natAbs
def mulL (x y : FL) : FL :=
  if x.t = .str "inf" ∨ y.t = .str "inf" then (if x.t = .int 0 ∨ y.t = .int 0 then nanL else infL (x.s * y.s))
  else nearL (x.s * y.s) (nx x * nx y).natAbs (dx x * dx y).natAbs
def divL (x y : FL) : FL :=
  if x.t = .str "inf" then (if y.t = .str "inf" then nanL else infL (x.s * y.s))
  else if y.t = .str "inf" then zeroL (x.s * y.s)
  else if y.t = .int 0 then (if x.t = .int 0 then nanL else infL (x.s * y.s))
  else nearL (x.s * y.s) (nx x * dx y).natAbs (dx x * nx y).natAbs
def negL (x : FL) : FL := ⟨0 - x.s, x.t, x.p⟩
def byL (c : Str) (x y : FL) : FL :=
  if x.t = .str "nan" ∨ y.t = .str "nan" then nanL
  else if c = "add" then addL x y else if c = "sub" then addL x (negL y) else if c = "mul" then mulL x y else divL x y
section
variable {P : Program} {w : World} {K : PySem.W.Frag} {mg : Str → Option Value} {base : Heap} {C : Addr}
section
variable {H : Hp} {a : Addr} {s : Int} {t : V} {p : Int} {T : V → Prop}
theorem show_ex {p : Addr → Prop} (h : ∃ a, p a) : ∃ a, p a := h
theorem fS (O : FlC K mg C) (h : FlAt C H a s t p) (q : T (.int s)) : ∃ a' C' dx fs v, V.ref a = .ref a' ∧ H a' = some (.ins C' dx fs) ∧ Cls K C' ∧ NoAttr K C' "sign" ∧ fs.lookup ("sign" : Str) = some v ∧ T v := by
  obtain ⟨dx, h⟩ := h
  exact ⟨a, C, dx, _, _, rfl, h, O.own.cl, O.nS, fl_sign _ _ _, q⟩
theorem fT (O : FlC K mg C) (h : FlAt C H a s t p) (q : T t) : ∃ a' C' dx fs v, V.ref a = .ref a' ∧ H a' = some (.ins C' dx fs) ∧ Cls K C' ∧ NoAttr K C' "top" ∧ fs.lookup ("top" : Str) = some v ∧ T v := by
  obtain ⟨dx, h⟩ := h
  exact ⟨a, C, dx, _, _, rfl, h, O.own.cl, O.nT, fl_top _ _ _, q⟩
theorem fP (O : FlC K mg C) (h : FlAt C H a s t p) (q : T (.int p)) : ∃ a' C' dx fs v, V.ref a = .ref a' ∧ H a' = some (.ins C' dx fs) ∧ Cls K C' ∧ NoAttr K C' "power" ∧ fs.lookup ("power" : Str) = some v ∧ T v := by
  obtain ⟨dx, h⟩ := h
  exact ⟨a, C, dx, _, _, rfl, h, O.own.cl, O.nP, fl_power _ _ _, q⟩
theorem g_rat {Q : VK} {E : XK} {n : Int} (h : FlAt C H a s (.int n) p) (o : FlOk s (.int n) p) (q : RetT H [.int (ratN s n p), .int (ratD p)] Q) :
    ∃ a' dx fs, V.ref a = .ref a' ∧ H a' = some (.ins C dx fs) ∧ fs.lookup ("ratio" : Str) = none ∧ tNil [] H fun vs H2 => sp_ratio C (V.ref a :: (vs ++ [])) H2 Q E := by
  obtain ⟨d, h'⟩ := id h
  exact ⟨a, d, _, rfl, h', rfl, a, s, n, p, rfl, h, o, q⟩
end
/-- Float(..) -/
theorem mkN {H : Hp} {Q : VK} {E : XK} {s : Int} {top : V} {p : Int} (hk : MkOk s top p) (q : RetN C H (mkL s (top, p)) Q) : MakeR C (sp_Finit C) ([.int s, top, .int p] ++ []) H Q E := mkF hk q.to
end
end Up

set_option Elab.async false
set_option linter.all false
set_option maxRecDepth 100000
set_option maxHeartbeats 4000000
set_option exponentiation.threshold 200000
namespace Up
open PySem PySem.Spec PyProof.Rows L2
local macro_rules | `(tactic| walk_at "u") => `(tactic| first
  | with_reducible refine g_seq ?_
  | with_reducible refine g_asg ?_
  | with_reducible refine g_op ?_
  | ((with_reducible show tVar _ _ _ _); apply g_var; exact rfl)
  | with_reducible refine g_c ?_
  | with_reducible refine g_name ?_
  | with_reducible refine g_ifs ?_
  | with_reducible refine g_tt ?_
  | with_reducible refine g_tB ?_
  | with_reducible refine g_bl ?_
  | with_reducible refine g_ret ?_
  | with_reducible refine g_cb ?_
  | with_reducible refine g_cons ?_
  | with_reducible refine g_nil ?_
  | with_reducible refine g_call ?_
  | with_reducible refine g_and ?_
  | with_reducible refine g_or ?_
  | with_reducible refine g_not ?_
  | with_reducible refine g_andV ?_
  | with_reducible refine g_orV ?_
  | with_reducible refine g_notV ?_
  | with_reducible refine g_if ?_
  | with_reducible refine g_un ?_
  | with_reducible refine g_neg ?_
  | with_reducible refine g_addI ?_
  | with_reducible refine g_subI ?_
  | with_reducible refine g_subB ?_
  | with_reducible refine g_I0 ?_
  | with_reducible refine g_cmpI ?_
  | with_reducible refine g_eqI ?_
  | with_reducible refine g_neI ?_
  | with_reducible refine g_eqS ?_
  | with_reducible refine g_neS ?_
  | with_reducible refine g_eqB ?_
  | with_reducible refine g_neB ?_
  | with_reducible refine g_bits ?_
  | with_reducible refine g_bitsI ?_
  | with_reducible refine g_fld ?_
  | with_reducible refine g_tup ?_
  | with_reducible refine g_lst ?_
  | with_reducible refine g_gtup ?_
  | with_reducible refine g_make ?_
  | with_reducible refine g_lc ?_
  | with_reducible refine g_yesT ?_
  | with_reducible refine g_intI ?_
  | with_reducible refine g_intB ?_
  | with_reducible refine g_max2 ?_
  | with_reducible refine g_abs1 ?_
  | with_reducible refine g_for ?_
  | with_reducible refine g_iList ?_
  | with_reducible refine g_iTup ?_
  | with_reducible refine g_iRng1 ?_
  | with_reducible refine g_iEnum ?_
  | with_reducible refine g_slice ?_
  | with_reducible refine g_po0 ?_
  | with_reducible refine g_po1 ?_
  | with_reducible refine g_gsub ?_
  | with_reducible refine g_par ?_
  | with_reducible refine g_par2 ?_
  | with_reducible refine g_rfl ?_
  | with_reducible refine g_meth ?_
  | with_reducible refine g_gcons ?_
  | with_reducible refine g_gnil ?_
  | with_reducible refine g_gfld ?_
  | with_reducible refine g_sfld ?_
  | with_reducible refine g_drop ?_
  | with_reducible refine g_next ?_
  | with_reducible refine iteT ?_
  | with_reducible refine iteF ?_)
local macro_rules | `(tactic| walk_at "go") => `(tactic| (repeat walk_at "u"))
local macro_rules | `(tactic| walk_at "f") => `(tactic| (repeat (first
  | walk_at "u"
  | with_reducible refine g_chain ?_
  | with_reducible refine g_par3 ?_
  | with_reducible refine g_par3' ?_
  | ((with_reducible refine show_ex ?_); first
    | refine fT (by assumption) (by assumption) ?_
    | refine fS (by assumption) (by assumption) ?_
    | refine fP (by assumption) (by assumption) ?_))))

section
variable {P : Program} {w : World} {K : PySem.W.Frag} {mg : Str → Option Value} {base : Heap} {C : Addr}
/-! nan -/
abbrev s_nan : Stmt := top 17
theorem sc_nan : FnScope [] [] (defScope s_nan) := ⟨rfl, rfl, rfl, by decide +kernel, rfl, by decide +kernel, by decide +kernel⟩
theorem nan_mk : MkOk 1 (.str "nan") 0 := ⟨.inl rfl, .inl ⟨rfl, rfl, rfl⟩⟩
def sp_nan (C : Addr) : Sp := fun vs H Q _ => vs = [] ∧ RetN C H nanL Q
theorem ok_nan {f : Addr} {fd : FuncData} (F : FunD K "nan" "nan" (defArgs s_nan) (defBody s_nan) (defScope s_nan) [] [] f fd) (c_Float : CnF P w K mg base C) : FnOk P w K mg base CX0 4 f fd [] (sp_nan C) := by
  refine F.ok sc_nan (fun vs H Q E h => ?_) (fun cdv A outer s H vs Q E hr h => ?_)
  · obtain ⟨rfl, _⟩ := h; rfl
  · obtain ⟨rfl, q⟩ := h
    refine ⟨_, PSs.nox (pss_one (ps_ret (pe_cn c_Float (hr.mono (by first | decide | omega)) pass0 (pa_cons pe_int (pa_cons pe_str (pa_cons pe_int pa_nil)))))), ?_⟩
    walk_at "go"
    exact mkN nan_mk q
/-! Float.__eq__ -/
abbrev s_Float_eq : Stmt := inClass (top 12) 2
theorem sc_Float_eq : FnScope ["self", "other"] ["self", "other"] (defScope s_Float_eq) := ⟨rfl, rfl, rfl, by decide +kernel, rfl, by decide +kernel, by decide +kernel⟩
def eqL (x y : FL) : Bool := decide (x.s = y.s) && (decide (x.t = y.t) && decide (x.p = y.p))
theorem eqL_refl (x : FL) : eqL x x = true := by unfold eqL; simp
def tpD (x : FL) : PyData := .tuple [.int x.s, dV x.t, .int x.p]
theorem tp_shape {x : FL} (h : x.ok) : SeqAt.shaped (tpD x) = true := by
  have h : FlOk x.s x.t x.p := h
  unfold tpD
  rcases h.2 with ⟨e, _⟩ | ⟨e, _⟩ | ⟨n, e, _⟩
  · rw [e]; show SeqAt.shaped (.tuple [.int x.s, .str "nan", .int x.p]) = true; unfold SeqAt.shaped; simp only [PyData.canLay0, PyData.canLayAll0, Bool.true_and, Bool.and_true, Bool.and_eq_true, decide_eq_true_eq]; exact ⟨by decide +kernel, by simp [PyData.depth, PyData.depthAll]⟩
  · rw [e]; show SeqAt.shaped (.tuple [.int x.s, .str "inf", .int x.p]) = true; unfold SeqAt.shaped; simp only [PyData.canLay0, PyData.canLayAll0, Bool.true_and, Bool.and_true, Bool.and_eq_true, decide_eq_true_eq]; exact ⟨by decide +kernel, by simp [PyData.depth, PyData.depthAll]⟩
  · rw [e]; rfl
theorem tp_eqv {x y : FL} (hx : x.ok) (hy : y.ok) : PyData.eqv (tpD x) (tpD y) = eqL x y := by
  unfold tpD eqL
  simp only [PyData.eqv, PyData.eqvAll, hx.is.eqv hy.is, Bool.and_true]
  have e : ∀ i j : Int, (i == j) = decide (i = j) := fun i j => by by_cases h : i = j <;> simp [h]
  rw [e, e]
def sp_Feq (C : Addr) : Sp := fun vs H Q _ => ∃ v u x y, vs = [v, u] ∧ FA C H v x ∧ FA C H u y ∧ x.ok ∧ y.ok ∧ ∀ H', Same H H' → Q (.bl (eqL x y)) H'
theorem ok_Feq {f : Addr} {fd : FuncData} (F : FunD K "__eq__" "Float.__eq__" (defArgs s_Float_eq) (defBody s_Float_eq) (defScope s_Float_eq) [] [] f fd) (B : Blt mg) (T : FlC K mg C) : FnOk P w K mg base CX0 1 f fd ["self", "other"] (sp_Feq C) := by
  have g_Float : mg "Float" = some (.ref C) := T.mg
  refine F.ok sc_Float_eq (fun vs H Q E h => ?_) (fun cdv A outer s H vs Q E hr h => ?_)
  · obtain ⟨_, _, _, _, rfl, _⟩ := h; rfl
  · obtain ⟨_, _, x, y, rfl, ⟨a, rfl, ha⟩, ⟨b, rfl, hb⟩, ox, oy, q⟩ := h
    refine ⟨_, PSs.nox (pss_cons (ps_if (pt_not (pt_val (pe_callB call_isi (by rfl) B.isinstance (by decide +kernel) (pa_cons (pv 1) (pa_cons (pe_gref g_Float) pa_nil))))) (pss_one ps_never) pss_nil)
  (pss_one (ps_ret (pe_cmpR (op_oEq hr.units) (pe_tupN (pa_cons (pe_fld (pv 0) rfl) (pa_cons (pe_fld (pv 0) rfl) (pa_cons (pe_fld (pv 0) rfl) pa_nil)))) (pe_tupN (pa_cons (pe_fld (pv 1) rfl) (pa_cons (pe_fld (pv 1) rfl) (pa_cons (pe_fld (pv 1) rfl) pa_nil)))) (nomark _))))), ?_⟩
    walk_at "f"
    refine g_isiF (kf_fl T hb) ?_
    walk_at "f"
    refine iteF ?_
    walk_at "f"
    refine g_new (sz rfl) fun c H1 n1 s1 h1 _ => ?_
    have ha := ha.same s1
    have hb := hb.same s1
    walk_at "f"
    refine g_new (sz rfl) fun d H2 n2 s2 h2 _ => ?_
    refine .inr ⟨tpD x, tpD y, .tup (SqT.of (s2 _ _ h1)) (.cons (.int _) (.cons ox.is.dp (.cons (.int _) .nil))), .tup (SqT.of h2) (.cons (.int _) (.cons oy.is.dp (.cons (.int _) .nil))), tp_shape ox, tp_shape oy, ?_⟩
    rw [tp_eqv ox oy]
    exact q _ (s1.trans s2)
/-! added -/
abbrev s_added : Stmt := top 27
theorem sc_added : FnScope ["one", "other", "first", "second", "top"] ["one", "other"] (defScope s_added) := ⟨rfl, rfl, rfl, by decide +kernel, rfl, by decide +kernel, by decide +kernel⟩
theorem cast_abs {k : Int} (h : 0 < k) : ((k.natAbs : Nat) : Int) = k := by omega
theorem abs_if (k : Int) : (if k < 0 then -k else k) = (k.natAbs : Int) := by split <;> omega
theorem add_lt {x y : Int} {a : Nat} (hx : x.natAbs < 2 ^ a) (hy : y.natAbs < 2 ^ a) : (x + y).natAbs < 2 ^ (a + 1) := by
  rw [Nat.pow_succ]; omega
theorem dd_pos {x y : Int} (hx : 0 < x) (hy : 0 < y) : 0 < (x * y).natAbs := by
  have := Int.mul_pos hx hy
  omega
theorem bits6 {n a : Nat} (h : n < 2 ^ a) (ha : a ≤ 6000) : bitsN n ≤ 6000 := Nat.le_trans (bits_le h) ha
def sp_added (C : Addr) : Sp := fun vs H Q _ => ∃ v u x y, vs = [v, u] ∧ FA C H v x ∧ FA C H u y ∧ x.ok ∧ y.ok ∧ x.t ≠ .str "nan" ∧ y.t ≠ .str "nan" ∧ RetN C H (addL x y) Q
abbrev CNear (P : Program) (w : World) (K : PySem.W.Frag) (mg : Str → Option Value) (base : Heap) (C : Addr) : Prop := Fn P w K mg base CX0 5 "nearest" ["sign", "top", "bottom"] [] (sp_nearest C)
abbrev CSign (P : Program) (w : World) (K : PySem.W.Frag) (mg : Str → Option Value) (base : Heap) : Prop := Fn P w K mg base CX0 1 "sign_of" ["is_negative"] [] sp_signof
abbrev CRat (P : Program) (w : World) (K : PySem.W.Frag) (mg : Str → Option Value) (base : Heap) (C : Addr) : Prop := Mt P w K mg base CX0 1 C "ratio" ["self"] (sp_ratio C)
abbrev CNan (P : Program) (w : World) (K : PySem.W.Frag) (mg : Str → Option Value) (base : Heap) (C : Addr) : Prop := Fn P w K mg base CX0 4 "nan" [] [] (sp_nan C)
abbrev CInf (P : Program) (w : World) (K : PySem.W.Frag) (mg : Str → Option Value) (base : Heap) (C : Addr) : Prop := Fn P w K mg base CX0 4 "infinity" ["sign"] [] (sp_infinity C)
theorem ok_added {f : Addr} {fd : FuncData} (F : FunD K "added" "added" (defArgs s_added) (defBody s_added) (defScope s_added) [] [] f fd) (B : Blt mg) (T : FlC K mg C) (c_Float : CnF P w K mg base C) (c_nan : CNan P w K mg base C) (c_ratio : CRat P w K mg base C) (c_nearest : CNear P w K mg base C) (c_signof : CSign P w K mg base) :
    FnOk P w K mg base CX0 6 f fd ["one", "other"] (sp_added C) := by
  refine F.ok sc_added (fun vs H Q E h => ?_) (fun cdv A outer s H vs Q E hr h => ?_)
  · obtain ⟨_, _, _, _, rfl, _⟩ := h; rfl
  · obtain ⟨_, _, x, y, rfl, ⟨a, rfl, ha⟩, ⟨b, rfl, hb⟩, ox, oy, nx1, ny1, q⟩ := h
    refine ⟨_, PSs.nox (pss_cons (ps_if (PW.pt (pw_or (pt_cmpR (op_oEq hr.units) (pe_fld (pv 0) rfl) pe_str (nomark _)) (pw_or1 (pt_cmpR (op_oEq hr.units) (pe_fld (pv 1) rfl) pe_str (nomark _))))) (pss_cons (ps_if (PW.pt (pw_and (pt_cmpR (op_oEq hr.units) (pe_fld (pv 0) rfl) (pe_fld (pv 1) rfl) (nomark _)) (pw_and1 (pt_cmpR (op_oNe hr.units) (pe_fld (pv 0) rfl) (pe_fld (pv 1) rfl) (nomark _))))) (pss_one (ps_ret (pe_fn0 c_nan (hr.mono (by first | decide | omega)) pass0))) pss_nil)
  (pss_one (ps_ret (pe_ifExp (pt_cmpR (op_oEq hr.units) (pe_fld (pv 0) rfl) pe_str (nomark _)) (pv 0) (pv 1))))) pss_nil)
  (C8.pss_cut (ps_if (PW.pt (pw_and (pt_cmpR (op_oEq hr.units) (pe_fld (pv 0) rfl) pe_int (nomark _)) (pw_and1 (pt_cmpR (op_oEq hr.units) (pe_fld (pv 1) rfl) pe_int (nomark _))))) (pss_one (ps_ret (pe_cn c_Float (hr.mono (by first | decide | omega)) pass0 (pa_cons (pe_callB (call_max2 rfl) (by rfl) B.max (by decide +kernel) (pa_cons (pe_fld (pv 0) rfl) (pa_cons (pe_fld (pv 1) rfl) pa_nil))) (pa_cons pe_int (pa_cons pe_int pa_nil)))))) pss_nil)
  (pss_cons (ps_par (i := 2) (j := 3) rfl sc_added.nd rfl rfl (by decide) rfl rfl (pa_cons (pe_mt0 c_ratio (hr.mono (by first | decide | omega)) pass0 (pv 0)) (pa_cons (pe_mt0 c_ratio (hr.mono (by first | decide | omega)) pass0 (pv 1)) pa_nil)) (by rfl))
  (pss_cons (ps_set (i := 4) sc_added.nd rfl (Or.inl rfl) (pe_op op_oAdd (pe_op op_oMul (pe_ix ix_seq (pv 2) pe_int (fun _ _ => rfl)) (pe_ix ix_seq (pv 3) pe_int (fun _ _ => rfl))) (pe_op op_oMul (pe_ix ix_seq (pv 3) pe_int (fun _ _ => rfl)) (pe_ix ix_seq (pv 2) pe_int (fun _ _ => rfl)))))
  (pss_one (ps_ret (pe_fn c_nearest (hr.mono (by first | decide | omega)) pass0 (pa_cons (pe_fn c_signof (hr.mono (by first | decide | omega)) pass0 (pa_cons (pe_cmpR op_oLt (pv 4) pe_int (nomark _)) pa_nil)) (pa_cons (pe_callB call_abs (by rfl) B.abs (by decide +kernel) (pa_cons (pv 4) pa_nil)) (pa_cons (pe_op op_oMul (pe_ix ix_seq (pv 2) pe_int (fun _ _ => rfl)) (pe_ix ix_seq (pv 3) pe_int (fun _ _ => rfl))) pa_nil)))))))))), ?_⟩
    unfold addL at q
    have fin : (¬ x.t = .str "inf") → (¬ y.t = .str "inf") → ¬ (x.t = .int 0 ∧ y.t = .int 0) → RetN C H (nearL (tfS (nx x * dx y + nx y * dx x)) (nx x * dx y + nx y * dx x).natAbs (dx x * dx y).natAbs) Q := fun h1 h2 h3 => by
      rw [if_neg (fun z => z.elim h1 h2), if_neg h3] at q; exact q
    have inf : (x.t = .str "inf" ∨ y.t = .str "inf") → RetN C H (if x.t = y.t ∧ x.s ≠ y.s then nanL else if x.t = .str "inf" then x else y) Q := fun h => by rw [if_pos h] at q; exact q
    walk_at "f"
    refine g_eqV (ox.is.scal (.str _)) ?_
    walk_at "f"
    have infw : (x.t = .str "inf" ∨ y.t = .str "inf") → RetN C H (if x.t = y.t ∧ x.s ≠ y.s then nanL else if x.t = .str "inf" then x else y) Q := inf
    refine g_ite (fun h1 => ?_) fun h1 => ?_
    · walk_at "f"
      refine g_eqV (ox.is.scal oy.is) ?_
      walk_at "f"
      have q := inf (.inl h1)
      refine g_ite (fun h2 => ?_) fun h2 => ?_
      · walk_at "f"
        refine g_iten (fun h3 => ?_) fun h3 => ?_
        · walk_at "f"
          rw [if_pos ⟨h2, h3⟩] at q
          exact ⟨rfl, q⟩
        · walk_at "f"
          refine g_eqV (ox.is.scal (.str _)) ?_
          walk_at "f"
          refine g_yes h1 ?_
          walk_at "f"
          rw [if_neg (fun z => z.2 h3), if_pos h1] at q
          exact q _ _ (Same.refl _) ⟨a, rfl, ha⟩
      · walk_at "f"
        refine g_eqV (ox.is.scal (.str _)) ?_
        walk_at "f"
        refine g_yes h1 ?_
        walk_at "f"
        rw [if_neg (fun z => h2 z.1), if_pos h1] at q
        exact q _ _ (Same.refl _) ⟨a, rfl, ha⟩
    · walk_at "f"
      refine g_eqV (oy.is.scal (.str _)) ?_
      walk_at "f"
      refine g_ite (fun h1' => ?_) fun h1' => ?_
      · walk_at "f"
        refine g_eqV (ox.is.scal oy.is) ?_
        walk_at "f"
        have q := inf (.inr h1')
        refine g_no (fun z => h1 (z.trans h1')) ?_
        walk_at "f"
        refine g_eqV (ox.is.scal (.str _)) ?_
        walk_at "f"
        refine g_no h1 ?_
        walk_at "f"
        rw [if_neg (fun z => h1 (z.1.trans h1')), if_neg h1] at q
        exact q _ _ (Same.refl _) ⟨b, rfl, hb⟩
      · obtain ⟨n, en, fn⟩ := ox.fin nx1 h1
        obtain ⟨m, em, fm⟩ := oy.fin ny1 h1'
        obtain ⟨x1, x2, x3⟩ := ox.small en
        obtain ⟨y1, y2, y3⟩ := oy.small em
        have q' := q
        rw [if_neg (fun z => z.elim h1 h1')] at q'
        walk_at "f"
        refine g_cut (fun σ' H2 => σ' = [some (.ref a), some (.ref b), none, none, none] ∧ H2 = H ∧ ¬ (x.t = .int 0 ∧ y.t = .int 0)) ?_ ?_
        · walk_at "f"
          refine g_eqV (ox.is.scal (.int _)) ?_
          walk_at "f"
          refine g_ite (fun h2 => ?_) fun h2 => ?_
          · walk_at "f"
            refine g_eqV (oy.is.scal (.int _)) ?_
            walk_at "f"
            refine g_ite (fun h3 => ?_) fun h3 => ?_
            · walk_at "f"
              rw [if_pos ⟨h2, h3⟩] at q'
              exact mkN (zero_mk (maxI_sgn ox.1 oy.1)) q'
            · walk_at "f"
              exact ⟨rfl, rfl, fun z => h3 z.2⟩
          · walk_at "f"
            exact ⟨rfl, rfl, fun z => h2 z.1⟩
        · rintro _ _ ⟨rfl, rfl, hz⟩
          rw [if_neg hz] at q'
          rw [en] at ha
          rw [em] at hb
          have ox' : FlOk x.s (.int n) x.p := en ▸ ox
          have oy' : FlOk y.s (.int m) y.p := em ▸ oy
          have enx : ratN x.s n x.p = nx x := by unfold nx; rw [en]; rfl
          have eny : ratN y.s m y.p = nx y := by unfold nx; rw [em]; rfl
          walk_at "f"
          refine g_rat ha ox' fun H1 c n1 s1 h1c => ?_
          rw [enx] at h1c
          walk_at "f"
          refine g_rat (hb.same s1) oy' fun H2 d n2 s2 h2d => ?_
          rw [eny] at h2d
          have h1c := s2 _ _ h1c
          walk_at "f"
          refine g_ixT h1c rfl ?_
          walk_at "f"
          refine g_ixT h2d rfl ?_
          refine g_mulI (mul_small (lt_pow_mono x1 (by decide)) (lt_pow_mono y2 (by decide))) ?_
          walk_at "f"
          refine g_ixT h2d rfl ?_
          walk_at "f"
          refine g_ixT h1c rfl ?_
          refine g_mulI (mul_small (lt_pow_mono y1 (by decide)) (lt_pow_mono x2 (by decide))) ?_
          walk_at "f"
          refine ⟨_, rfl, ?_⟩
          walk_at "f"
          refine g_ixT h1c rfl ?_
          walk_at "f"
          refine g_ixT h2d rfl ?_
          refine g_mulI (mul_small (lt_pow_mono x2 (by decide)) (lt_pow_mono y2 (by decide))) ?_
          walk_at "f"
          have ez : ratD x.p * ratD y.p = (((dx x * dx y).natAbs : Nat) : Int) := (cast_abs (Int.mul_pos x3 y3)).symm
          have es : sgnB (decide (nx x * ratD y.p + nx y * ratD x.p < 0)) = tfS (nx x * dx y + nx y * dx x) := by unfold sgnB tfS; by_cases h : nx x * dx y + nx y * dx x < 0 <;> simp [h] <;> simpa [dx] using h
          rw [es, abs_if, ez]
          exact ⟨_, _, _, rfl, tfS_sgn _, dd_pos x3 y3, bits6 (add_lt (natAbs_mul_lt x1 y2) (natAbs_mul_lt y1 x2)) (by decide), bits6 (natAbs_mul_lt x2 y2) (by decide), (q'.later (s1.trans s2)).to⟩
/-! multiplied -/
abbrev s_multiplied : Stmt := top 28
theorem sc_multiplied : FnScope ["one", "other", "sign", "first", "second"] ["one", "other"] (defScope s_multiplied) := ⟨rfl, rfl, rfl, by decide +kernel, rfl, by decide +kernel, by decide +kernel⟩
def sp_multiplied (C : Addr) : Sp := fun vs H Q _ => ∃ v u x y, vs = [v, u] ∧ FA C H v x ∧ FA C H u y ∧ x.ok ∧ y.ok ∧ x.t ≠ .str "nan" ∧ y.t ≠ .str "nan" ∧ RetN C H (mulL x y) Q
theorem inf_to {H : Hp} {Q : VK} {E : XK} {s : Int} (hs : s = 1 ∨ s = -1) (q : RetN C H (infL s) Q) : sp_infinity C ([.int s] ++ []) H Q E := ⟨s, rfl, hs, q.to⟩
theorem ok_multiplied {f : Addr} {fd : FuncData} (F : FunD K "multiplied" "multiplied" (defArgs s_multiplied) (defBody s_multiplied) (defScope s_multiplied) [] [] f fd) (B : Blt mg) (T : FlC K mg C) (c_nan : CNan P w K mg base C) (c_infinity : CInf P w K mg base C) (c_ratio : CRat P w K mg base C) (c_nearest : CNear P w K mg base C) :
    FnOk P w K mg base CX0 6 f fd ["one", "other"] (sp_multiplied C) := by
  refine F.ok sc_multiplied (fun vs H Q E h => ?_) (fun cdv A outer s H vs Q E hr h => ?_)
  · obtain ⟨_, _, _, _, rfl, _⟩ := h; rfl
  · obtain ⟨_, _, x, y, rfl, ⟨a, rfl, ha⟩, ⟨b, rfl, hb⟩, ox, oy, nx1, ny1, q⟩ := h
    refine ⟨_, PSs.nox (pss_cons (ps_set (i := 2) sc_multiplied.nd rfl (Or.inl rfl) (pe_op op_oMul (pe_fld (pv 0) rfl) (pe_fld (pv 1) rfl)))
  (C8.pss_cut (ps_if (PW.pt (pw_or (pt_cmpR (op_oEq hr.units) (pe_fld (pv 0) rfl) pe_str (nomark _)) (pw_or1 (pt_cmpR (op_oEq hr.units) (pe_fld (pv 1) rfl) pe_str (nomark _))))) (pss_one (ps_ret (pe_ifExp (pt_cmpR op_in_seq pe_int (pe_tupN (pa_cons (pe_fld (pv 0) rfl) (pa_cons (pe_fld (pv 1) rfl) pa_nil))) (by rfl)) (pe_fn0 c_nan (hr.mono (by first | decide | omega)) pass0) (pe_fn c_infinity (hr.mono (by first | decide | omega)) pass0 (pa_cons (pv 2) pa_nil))))) pss_nil)
  (pss_cons (ps_par (i := 3) (j := 4) rfl sc_multiplied.nd rfl rfl (by decide) rfl rfl (pa_cons (pe_mt0 c_ratio (hr.mono (by first | decide | omega)) pass0 (pv 0)) (pa_cons (pe_mt0 c_ratio (hr.mono (by first | decide | omega)) pass0 (pv 1)) pa_nil)) (by rfl))
  (pss_one (ps_ret (pe_fn c_nearest (hr.mono (by first | decide | omega)) pass0 (pa_cons (pv 2) (pa_cons (pe_callB call_abs (by rfl) B.abs (by decide +kernel) (pa_cons (pe_op op_oMul (pe_ix ix_seq (pv 3) pe_int (fun _ _ => rfl)) (pe_ix ix_seq (pv 4) pe_int (fun _ _ => rfl))) pa_nil)) (pa_cons (pe_op op_oMul (pe_ix ix_seq (pv 3) pe_int (fun _ _ => rfl)) (pe_ix ix_seq (pv 4) pe_int (fun _ _ => rfl))) pa_nil))))))))), ?_⟩
    unfold mulL at q
    have hs := mul_sgn ox.1 oy.1
    walk_at "f"
    refine g_mulI (sgn_mul ox.1) ?_
    walk_at "f"
    refine g_cut (fun σ' H2 => σ' = [some (.ref a), some (.ref b), some (.int (x.s * y.s)), none, none] ∧ H2 = H ∧ ¬ (x.t = .str "inf" ∨ y.t = .str "inf")) ?_ ?_
    · have inf : (x.t = .str "inf" ∨ y.t = .str "inf") → RetN C H (if x.t = .int 0 ∨ y.t = .int 0 then nanL else infL (x.s * y.s)) Q := fun h => by rw [if_pos h] at q; exact q
      walk_at "f"
      refine g_eqV (ox.is.scal (.str _)) ?_
      walk_at "f"
      refine g_ite (fun h1 => ?_) fun h1 => ?_
      · have q := inf (.inl h1)
        walk_at "f"
        refine g_new (sz rfl) fun c H1 n1 s1 h1c _ => ?_
        refine g_in2 h1c (.int _) ox.is oy.is ?_
        walk_at "f"
        refine g_ite (fun h2 => ?_) fun h2 => ?_
        · walk_at "f"
          rw [if_pos h2] at q
          exact ⟨rfl, q.later s1⟩
        · walk_at "f"
          rw [if_neg h2] at q
          exact inf_to hs (q.later s1)
      · walk_at "f"
        refine g_eqV (oy.is.scal (.str _)) ?_
        walk_at "f"
        refine g_ite (fun h1' => ?_) fun h1' => ?_
        · have q := inf (.inr h1')
          walk_at "f"
          refine g_new (sz rfl) fun c H1 n1 s1 h1c _ => ?_
          refine g_in2 h1c (.int _) ox.is oy.is ?_
          walk_at "f"
          refine g_ite (fun h2 => ?_) fun h2 => ?_
          · walk_at "f"
            rw [if_pos h2] at q
            exact ⟨rfl, q.later s1⟩
          · walk_at "f"
            rw [if_neg h2] at q
            exact inf_to hs (q.later s1)
        · walk_at "f"
          exact ⟨rfl, rfl, fun z => z.elim h1 h1'⟩
    · rintro _ _ ⟨rfl, rfl, hz⟩
      rw [if_neg hz] at q
      obtain ⟨n, en, fn⟩ := ox.fin nx1 fun z => hz (.inl z)
      obtain ⟨m, em, fm⟩ := oy.fin ny1 fun z => hz (.inr z)
      obtain ⟨x1, x2, x3⟩ := ox.small en
      obtain ⟨y1, y2, y3⟩ := oy.small em
      rw [en] at ha
      rw [em] at hb
      have ox' : FlOk x.s (.int n) x.p := en ▸ ox
      have oy' : FlOk y.s (.int m) y.p := em ▸ oy
      have enx : ratN x.s n x.p = nx x := by unfold nx; rw [en]; rfl
      have eny : ratN y.s m y.p = nx y := by unfold nx; rw [em]; rfl
      walk_at "f"
      refine g_rat ha ox' fun H1 c n1 s1 h1c => ?_
      rw [enx] at h1c
      walk_at "f"
      refine g_rat (hb.same s1) oy' fun H2 d n2 s2 h2d => ?_
      rw [eny] at h2d
      have h1c := s2 _ _ h1c
      walk_at "f"
      refine g_ixT h1c rfl ?_
      walk_at "f"
      refine g_ixT h2d rfl ?_
      refine g_mulI (mul_small (lt_pow_mono x1 (by decide)) (lt_pow_mono y1 (by decide))) ?_
      walk_at "f"
      refine g_ixT h1c rfl ?_
      walk_at "f"
      refine g_ixT h2d rfl ?_
      refine g_mulI (mul_small (lt_pow_mono x2 (by decide)) (lt_pow_mono y2 (by decide))) ?_
      walk_at "f"
      have ez : ratD x.p * ratD y.p = (((dx x * dx y).natAbs : Nat) : Int) := (cast_abs (Int.mul_pos x3 y3)).symm
      rw [abs_if, ez]
      exact ⟨_, _, _, rfl, hs, dd_pos x3 y3, bits6 (natAbs_mul_lt x1 y1) (by decide), bits6 (natAbs_mul_lt x2 y2) (by decide), (q.later (s1.trans s2)).to⟩
/-! divided -/
abbrev s_divided : Stmt := top 29
theorem sc_divided : FnScope ["one", "other", "sign", "first", "second"] ["one", "other"] (defScope s_divided) := ⟨rfl, rfl, rfl, by decide +kernel, rfl, by decide +kernel, by decide +kernel⟩
def sp_divided (C : Addr) : Sp := fun vs H Q _ => ∃ v u x y, vs = [v, u] ∧ FA C H v x ∧ FA C H u y ∧ x.ok ∧ y.ok ∧ x.t ≠ .str "nan" ∧ y.t ≠ .str "nan" ∧ RetN C H (divL x y) Q
theorem nx_zero {x : FL} (h : x.ok) {n : Int} (e : x.t = .int n) (h0 : ¬ x.t = .int 0) : nx x ≠ 0 := by
  have hn : n ≠ 0 := fun z => h0 (by rw [e, z])
  have hs : x.s ≠ 0 := by rcases h.1 with z | z <;> rw [z] <;> decide
  unfold nx ratN
  rw [e]
  show (if x.p < 0 then x.s * n else x.s * (n * 2 ^ x.p.toNat)) ≠ 0
  have hp : (2 : Int) ^ x.p.toNat ≠ 0 := Int.ne_of_gt (Int.pow_pos (by decide))
  split
  · exact Int.mul_ne_zero hs hn
  · exact Int.mul_ne_zero hs (Int.mul_ne_zero hn hp)
theorem ok_divided {f : Addr} {fd : FuncData} (F : FunD K "divided" "divided" (defArgs s_divided) (defBody s_divided) (defScope s_divided) [] [] f fd) (B : Blt mg) (T : FlC K mg C) (c_Float : CnF P w K mg base C) (c_nan : CNan P w K mg base C) (c_infinity : CInf P w K mg base C) (c_ratio : CRat P w K mg base C) (c_nearest : CNear P w K mg base C) :
    FnOk P w K mg base CX0 6 f fd ["one", "other"] (sp_divided C) := by
  refine F.ok sc_divided (fun vs H Q E h => ?_) (fun cdv A outer s H vs Q E hr h => ?_)
  · obtain ⟨_, _, _, _, rfl, _⟩ := h; rfl
  · obtain ⟨_, _, x, y, rfl, ⟨a, rfl, ha⟩, ⟨b, rfl, hb⟩, ox, oy, nx1, ny1, q⟩ := h
    refine ⟨_, PSs.nox (pss_cons (ps_set (i := 2) sc_divided.nd rfl (Or.inl rfl) (pe_op op_oMul (pe_fld (pv 0) rfl) (pe_fld (pv 1) rfl)))
  (pss_cons (ps_if (pt_cmpR (op_oEq hr.units) (pe_fld (pv 0) rfl) pe_str (nomark _)) (pss_one (ps_ret (pe_ifExp (pt_cmpR (op_oEq hr.units) (pe_fld (pv 1) rfl) pe_str (nomark _)) (pe_fn0 c_nan (hr.mono (by first | decide | omega)) pass0) (pe_fn c_infinity (hr.mono (by first | decide | omega)) pass0 (pa_cons (pv 2) pa_nil))))) pss_nil)
  (pss_cons (ps_if (pt_cmpR (op_oEq hr.units) (pe_fld (pv 1) rfl) pe_str (nomark _)) (pss_one (ps_ret (pe_cn c_Float (hr.mono (by first | decide | omega)) pass0 (pa_cons (pv 2) (pa_cons pe_int (pa_cons pe_int pa_nil)))))) pss_nil)
  (pss_cons (ps_if (pt_cmpR (op_oEq hr.units) (pe_fld (pv 1) rfl) pe_int (nomark _)) (pss_one (ps_ret (pe_ifExp (pt_cmpR (op_oEq hr.units) (pe_fld (pv 0) rfl) pe_int (nomark _)) (pe_fn0 c_nan (hr.mono (by first | decide | omega)) pass0) (pe_fn c_infinity (hr.mono (by first | decide | omega)) pass0 (pa_cons (pv 2) pa_nil))))) pss_nil)
  (pss_cons (ps_par (i := 3) (j := 4) rfl sc_divided.nd rfl rfl (by decide) rfl rfl (pa_cons (pe_mt0 c_ratio (hr.mono (by first | decide | omega)) pass0 (pv 0)) (pa_cons (pe_mt0 c_ratio (hr.mono (by first | decide | omega)) pass0 (pv 1)) pa_nil)) (by rfl))
  (pss_one (ps_ret (pe_fn c_nearest (hr.mono (by first | decide | omega)) pass0 (pa_cons (pv 2) (pa_cons (pe_callB call_abs (by rfl) B.abs (by decide +kernel) (pa_cons (pe_op op_oMul (pe_ix ix_seq (pv 3) pe_int (fun _ _ => rfl)) (pe_ix ix_seq (pv 4) pe_int (fun _ _ => rfl))) pa_nil)) (pa_cons (pe_callB call_abs (by rfl) B.abs (by decide +kernel) (pa_cons (pe_op op_oMul (pe_ix ix_seq (pv 3) pe_int (fun _ _ => rfl)) (pe_ix ix_seq (pv 4) pe_int (fun _ _ => rfl))) pa_nil)) pa_nil))))))))))), ?_⟩
    unfold divL at q
    have hs := mul_sgn ox.1 oy.1
    walk_at "f"
    refine g_mulI (sgn_mul ox.1) ?_
    walk_at "f"
    refine g_eqV (ox.is.scal (.str _)) ?_
    walk_at "f"
    refine g_ite (fun h1 => ?_) fun h1 => ?_
    · walk_at "f"
      rw [if_pos h1] at q
      refine g_eqV (oy.is.scal (.str _)) ?_
      walk_at "f"
      refine g_ite (fun h2 => ?_) fun h2 => ?_
      · walk_at "f"
        rw [if_pos h2] at q
        exact ⟨rfl, q⟩
      · walk_at "f"
        rw [if_neg h2] at q
        exact inf_to hs q
    · rw [if_neg h1] at q
      walk_at "f"
      refine g_eqV (oy.is.scal (.str _)) ?_
      walk_at "f"
      refine g_ite (fun h2 => ?_) fun h2 => ?_
      · rw [if_pos h2] at q
        walk_at "f"
        exact mkN (zero_mk hs) q
      · rw [if_neg h2] at q
        walk_at "f"
        refine g_eqV (oy.is.scal (.int _)) ?_
        walk_at "f"
        refine g_ite (fun h3 => ?_) fun h3 => ?_
        · rw [if_pos h3] at q
          walk_at "f"
          refine g_eqV (ox.is.scal (.int _)) ?_
          walk_at "f"
          refine g_ite (fun h4 => ?_) fun h4 => ?_
          · walk_at "f"
            rw [if_pos h4] at q
            exact ⟨rfl, q⟩
          · walk_at "f"
            rw [if_neg h4] at q
            exact inf_to hs q
        · rw [if_neg h3] at q
          obtain ⟨n, en, fn⟩ := ox.fin nx1 h1
          obtain ⟨m, em, fm⟩ := oy.fin ny1 h2
          obtain ⟨x1, x2, x3⟩ := ox.small en
          obtain ⟨y1, y2, y3⟩ := oy.small em
          have y4 := nx_zero oy em h3
          rw [en] at ha
          rw [em] at hb
          have ox' : FlOk x.s (.int n) x.p := en ▸ ox
          have oy' : FlOk y.s (.int m) y.p := em ▸ oy
          have enx : ratN x.s n x.p = nx x := by unfold nx; rw [en]; rfl
          have eny : ratN y.s m y.p = nx y := by unfold nx; rw [em]; rfl
          walk_at "f"
          refine g_rat ha ox' fun H1 c n1 s1 h1c => ?_
          rw [enx] at h1c
          walk_at "f"
          refine g_rat (hb.same s1) oy' fun H2 d n2 s2 h2d => ?_
          rw [eny] at h2d
          have h1c := s2 _ _ h1c
          walk_at "f"
          refine g_ixT h1c rfl ?_
          walk_at "f"
          refine g_ixT h2d rfl ?_
          refine g_mulI (mul_small (lt_pow_mono x1 (by decide)) (lt_pow_mono y2 (by decide))) ?_
          walk_at "f"
          refine g_ixT h1c rfl ?_
          walk_at "f"
          refine g_ixT h2d rfl ?_
          refine g_mulI (mul_small (lt_pow_mono x2 (by decide)) (lt_pow_mono y1 (by decide))) ?_
          walk_at "f"
          rw [abs_if, abs_if]
          refine ⟨_, _, _, rfl, hs, ?_, bits6 (natAbs_mul_lt x1 y2) (by decide), bits6 (natAbs_mul_lt x2 y1) (by decide), (q.later (s1.trans s2)).to⟩
          have : ratD x.p * nx y ≠ 0 := Int.mul_ne_zero (Int.ne_of_gt x3) y4
          omega
/-! made with the other sign -/
theorem neg_sgn {s : Int} (hs : s = 1 ∨ s = -1) : 0 - s = 1 ∨ 0 - s = -1 := by rcases hs with rfl | rfl <;> simp
theorem neg_mk {x : FL} (h : x.ok) (h1 : x.t ≠ .str "nan") : MkOk (0 - x.s) x.t x.p ∧ mkL (0 - x.s) (x.t, x.p) = negL x := by
  have h' : FlOk x.s x.t x.p := h
  refine ⟨?_, ?_⟩
  · have hs := neg_sgn h'.1
    rcases h'.2 with ⟨e, _⟩ | ⟨e, e2⟩ | ⟨n, e, f1, f2, f3, f4, f5⟩
    · exact absurd e h1
    · exact ⟨hs, .inr (.inl ⟨e, e2⟩)⟩
    · obtain ⟨k, rfl⟩ := Int.eq_ofNat_of_zero_le f1
      rw [intBits_nat] at f4
      rw [e]
      exact mk_of_flok hs (by omega) f3 f4
  · unfold mkL negL
    rw [red_again h']
theorem neg_ok {x : FL} (h : x.ok) (h1 : x.t ≠ .str "nan") : (negL x).ok := by
  obtain ⟨a, b⟩ := neg_mk h h1
  rw [← b]
  exact mkL_ok a
def toL : Nm → FL
  | .i k => nearL (tfS k) k.natAbs 1
  | .f s t p => ⟨s, t, p⟩
def nBig : Nm → Prop
  | .i k => bigOk k
  | .f _ _ _ => True
theorem NumAt.tok {H : Hp} {v : V} : ∀ {n : Nm}, NumAt C H v n → (toL n).ok
  | .i k, _ => near_ok (tfS_sgn k) (by decide)
  | .f _ _ _, ⟨_, _, _, h⟩ => h
theorem g_tofl {H : Hp} {v : V} {Q : VK} {E : XK} : ∀ {n : Nm}, NumAt C H v n → nBig n → RetN C H (toL n) Q → sp_tofloat C ([v] ++ []) H Q E
  | .i k, h, b, q => ⟨v, .i k, rfl, h, b, q.to⟩
  | .f s t p, h, _, q => ⟨v, .f s t p, rfl, h, by
    obtain ⟨a, e, h, _⟩ := h
    exact q _ _ (Same.refl _) ⟨a, e, h⟩⟩
end
end Up

set_option Elab.async false
set_option linter.all false
set_option pp.maxSteps 600
set_option maxRecDepth 100000
set_option maxHeartbeats 4000000
set_option exponentiation.threshold 200000
namespace Up
open PySem PySem.Spec PyProof.Rows L2
local macro_rules | `(tactic| walk_at "u") => `(tactic| first
  | with_reducible refine g_seq ?_
  | with_reducible refine g_asg ?_
  | with_reducible refine g_op ?_
  | ((with_reducible show tVar _ _ _ _); apply g_var; exact rfl)
  | with_reducible refine g_c ?_
  | with_reducible refine g_name ?_
  | with_reducible refine g_ifs ?_
  | with_reducible refine g_tt ?_
  | with_reducible refine g_tB ?_
  | with_reducible refine g_bl ?_
  | with_reducible refine g_ret ?_
  | with_reducible refine g_cb ?_
  | with_reducible refine g_cons ?_
  | with_reducible refine g_nil ?_
  | with_reducible refine g_call ?_
  | with_reducible refine g_and ?_
  | with_reducible refine g_or ?_
  | with_reducible refine g_not ?_
  | with_reducible refine g_andV ?_
  | with_reducible refine g_orV ?_
  | with_reducible refine g_notV ?_
  | with_reducible refine g_if ?_
  | with_reducible refine g_un ?_
  | with_reducible refine g_neg ?_
  | with_reducible refine g_addI ?_
  | with_reducible refine g_subI ?_
  | with_reducible refine g_subB ?_
  | with_reducible refine g_I0 ?_
  | with_reducible refine g_cmpI ?_
  | with_reducible refine g_eqI ?_
  | with_reducible refine g_neI ?_
  | with_reducible refine g_eqS ?_
  | with_reducible refine g_neS ?_
  | with_reducible refine g_eqB ?_
  | with_reducible refine g_neB ?_
  | with_reducible refine g_bits ?_
  | with_reducible refine g_bitsI ?_
  | with_reducible refine g_fld ?_
  | with_reducible refine g_tup ?_
  | with_reducible refine g_lst ?_
  | with_reducible refine g_gtup ?_
  | with_reducible refine g_make ?_
  | with_reducible refine g_lc ?_
  | with_reducible refine g_yesT ?_
  | with_reducible refine g_intI ?_
  | with_reducible refine g_intB ?_
  | with_reducible refine g_max2 ?_
  | with_reducible refine g_abs1 ?_
  | with_reducible refine g_for ?_
  | with_reducible refine g_iList ?_
  | with_reducible refine g_iTup ?_
  | with_reducible refine g_iRng1 ?_
  | with_reducible refine g_iEnum ?_
  | with_reducible refine g_slice ?_
  | with_reducible refine g_po0 ?_
  | with_reducible refine g_po1 ?_
  | with_reducible refine g_gsub ?_
  | with_reducible refine g_par ?_
  | with_reducible refine g_par2 ?_
  | with_reducible refine g_rfl ?_
  | with_reducible refine g_meth ?_
  | with_reducible refine g_gcons ?_
  | with_reducible refine g_gnil ?_
  | with_reducible refine g_gfld ?_
  | with_reducible refine g_sfld ?_
  | with_reducible refine g_drop ?_
  | with_reducible refine g_next ?_
  | with_reducible refine iteT ?_
  | with_reducible refine iteF ?_)
local macro_rules | `(tactic| walk_at "go") => `(tactic| (repeat walk_at "u"))

/-! ### what is thrown -/
section
variable {P : Program} {w : World} {K : PySem.W.Frag} {mg : Str → Option Value} {base : Heap} {C CT : Addr}
structure ThK (K : PySem.W.Frag) (mg : Str → Option Value) (C : Addr) : Prop where
  ax : AxC K C
  nV : PySem.W.findIn K (.ref C) "value" = some none
  nL : PySem.W.findIn K (.ref C) "level" = some none
  xf : XfC K C
  te : PySem.W.exmOne K (.ref C) (.ref C) = some true
  ae : mg "ArithmeticError" = none
  vV : PySem.W.findCls K (.type "ArithmeticError") (.type "type") "__init__" = some (.val (.builtin "ArithmeticError.__init__"))
  mg : mg "Thrown" = some (.ref C)
abbrev s_Thrown_init : Stmt := inClass (top 5) 0
theorem sc_Thrown_init : FnScope ["self", "value", "level"] ["self", "value", "level"] (defScope s_Thrown_init) := ⟨rfl, rfl, rfl, by decide +kernel, rfl, by decide +kernel, by decide +kernel⟩
abbrev thrF (v l : V) : List (Str × V) := [("level", l), ("value", v)]
def sp_ThrInit (C : Addr) : Sp := fun vs H Q _ => ∃ (a : Addr) (v l : V), vs = [.ref a, v, l] ∧ H a = some (exo a C none) ∧ ∀ d H', H d = none → d ≠ a → H' a = some (exo a C (some d)) → H' d = some (exd d (thrF v l)) → (∀ b, b ≠ a → b ≠ d → H' b = H b) → Q .non H'
theorem ok_ThrInit {f : Addr} {fd : FuncData} (F : FunD K "__init__" "Thrown.__init__" (defArgs s_Thrown_init) (defBody s_Thrown_init) (defScope s_Thrown_init) [.int 1] [] f fd) (T : ThK K mg CT) : FnOk P w K mg base CX0 1 f fd ["self", "value", "level"] (sp_ThrInit CT) := by
  refine F.ok sc_Thrown_init (fun vs H Q E h => ?_) (fun cdv A outer s H vs Q E hr h => ?_)
  · obtain ⟨_, _, _, rfl, _⟩ := h; rfl
  · obtain ⟨a, v, l, rfl, ha, q⟩ := h
    refine ⟨_, PSs.nox (pss_cons (ps_expr (pe_axI T.ae T.vV (pa_cons (pv 0) (pa_cons (pv 1) pa_nil)))) (pss_cons (ps_axS (pv 0) (pv 1)) (pss_one (ps_axS (pv 0) (pv 2))))), ?_⟩
    refine g_seq (g_drop ?_)
    refine ⟨_, rfl, _, rfl, a, CT, [v], rfl, by simp, T.ax, ha, ?_⟩
    refine g_seq ?_
    refine ⟨_, rfl, _, rfl, a, CT, rfl, T.ax, T.nV, .inl ⟨ha, fun d H1 nd ne h1 h2 kp => ?_⟩⟩
    refine ⟨_, rfl, _, rfl, a, CT, rfl, T.ax, T.nL, .inr ⟨d, _, h1, h2, by simp, fun H2 h3 kp2 => ?_⟩⟩
    exact q d H2 nd ne ((kp2 a (Ne.symm ne)).trans h1) h3 fun b b1 b2 => (kp2 b b2).trans (kp b b1 b2)
def CThr (P : Program) (w : World) (K : PySem.W.Frag) (mg : Str → Option Value) (base : Heap) (C : Addr) : Prop := ThK K mg C ∧ ∃ fI fd ds, PySem.W.findIn K (.ref C) "__init__" = some (some (.ref fI)) ∧ PySem.W.typeIn K (.ref fI) = some (.type "function") ∧
  FnOk P w K mg base CX0 1 fI fd ["self", "value", "level"] (sp_ThrInit C) ∧ Binds K fd ["self", "value", "level"] ds ∧ Vals [.int 1] ds
/-! raise, made of a reading -/
def tRai (t : L2.St → Hp → XK → Prop) (W : WX) : TS := fun _ σ H => t σ H fun cls d H' => W cls d σ H'
theorem g_rai {t : L2.St → Hp → XK → Prop} {W : WX} {D : Ends} {σ : L2.St} {H : Hp} (h : t σ H fun cls d H' => W cls d σ H') : tRai t W D σ H := h
def MkOR (C : Addr) (sp : Sp) (dvs : List V) (Q : XK) (vs : List V) (H1 : Hp) : Prop := vs.length ≤ 1000 ∧ ∀ a, H1 a = none → sp (.ref a :: (vs ++ dvs)) (upd H1 a (exo a C none))
  (fun v H2 => v = .non ∧ ∃ (d : Addr) (fs : List (Str × V)), H2 a = some (exo a C (some d)) ∧ H2 d = some (exd d fs) ∧ H1 d = none ∧ Q (.ref C) (some d) (upd (del H2 a) d (.xd fs))) (fun _ _ _ => False)
theorem g_mko {sp : Sp} {dvs : List V} {ta : TA} {σ : L2.St} {H : Hp} {Q : XK} (h : ta σ H fun vs H1 => MkOR C sp dvs Q vs H1) : tMkO C sp dvs ta σ H Q := h
def ThrR (C : Addr) (v : V) (H : Hp) (E : XK) : Prop := ∀ d H', Same H H' → H' d = some (.xd (thrF v (.int 1))) → E (.ref C) (some d) H'
theorem ThrR.later {v : V} {H H1 : Hp} {E : XK} (q : ThrR C v H E) (s : Same H H1) : ThrR C v H1 E := fun d H' s' h => q d H' (s.trans s') h
theorem g_thr {v : V} {H : Hp} {Q : XK} (q : ThrR C v H Q) : MkOR C (sp_ThrInit C) [.int 1] Q [v] H := by
  refine ⟨by simp, fun a na => ?_⟩
  refine ⟨a, v, .int 1, rfl, upd_same, fun d H' nd dne ha hd kp => ⟨rfl, d, _, ha, hd, ?_, q d _ (fun b o e => ?_) upd_same⟩⟩
  · rw [upd_ne dne] at nd
    exact nd
  · rw [upd_ne dne] at nd
    have b1 := ne_of_none e na
    have b2 := ne_of_none e nd
    rw [upd_ne b2, del_ne b1, kp b b1 b2, upd_ne b1]
    exact e
theorem ps_thr {X : Cx} {W : WX} {e : Expr} {te : TE} {p pos pos2 : Pos} (T : CThr X.prog X.w X.K X.mg X.base C) (hr : Room 2 X.A) (hc : X.calm = true) (tk : Takes X W) (he : PE X e te) (hg : Gl X "Thrown" := by rfl)
    (hst : starEach (e :: []) X.env = (false, eval e X.env) :: starEach [] X.env := by rfl) (hpl : (backTo pos (starEach [] X.env)).any (·.1) = false := by rfl) :
    PS X (.Raise (some (.Call (.Name "Thrown" p) [e] [] pos)) none pos2) (tRai (tMkO C (sp_ThrInit C) [.int 1] (tCons te tNil)) W) := by
  obtain ⟨T, fI, fd, ds, iC, tI, F, hb, hd⟩ := T
  exact ps_raise hc tk (pmk_ax T.ax iC tI F hr hb hd pass0 T.mg (pa_cons he pa_nil (hs := hst)) hg (by decide) hst hpl)
theorem pe_fnS {X : Cx} {CX : CXT} {k : Nat} {x : Str} {ps : List Str} {sp : Sp} {E : L2.St → XK} {p pos : Pos} {e : Expr} {es : List Expr} {t : TA} (F : Fn X.prog X.w X.K X.mg X.base CX k x ps [] sp) (hr : Room k X.A) (hx : ∀ σ, PassesAt CX X σ (E σ)) (ha : PA X (e :: es) t) (hg : Gl X x := by rfl)
    (hdb : (x == ("__debug__" : Str)) = false := by decide) (he : starEach (e :: es) X.env = (false, eval e X.env) :: starEach es X.env := by rfl) (hpl : (backTo pos (starEach es X.env)).any (·.1) = false := by rfl) :
    PE X (.Call (.Name x p) (e :: es) [] pos) (tCallS sp E t) := by
  obtain ⟨f, fd, ds, F, hm, hk, hb, hd⟩ := F
  cases hd
  exact pe_callS F hr hg hm hk hb hx ha hdb he hpl
theorem thr_value (v l : V) : (thrF v l).lookup ("value" : Str) = some v := by
  have h1 : (("value" : Str) == ("level" : Str)) = false := by decide +kernel
  have h2 : (("value" : Str) == ("value" : Str)) = true := by decide +kernel
  simp only [List.lookup, h1, h2]
end
end Up

set_option Elab.async false
set_option linter.all false
set_option pp.maxSteps 600
set_option maxRecDepth 100000
set_option maxHeartbeats 4000000
namespace Up
open PySem PySem.Spec PyProof.Rows L2
/-! ### the 64 bits of an int -/
def bitI (x : Int) (i : Nat) : Int := x / 2 ^ i % 2
def sumB (b : Nat → Int) : Nat → Int
  | 0 => 0
  | n + 1 => sumB b n + b n * 2 ^ n
def numN (b : Nat → Int) : Int := sumB b 63 - b 63 * 9223372036854775808
def wrB (z : Int) : Int := (z + 9223372036854775808).fmod 18446744073709551616 - 9223372036854775808
theorem bit01 (x : Int) (i : Nat) : bitI x i = 0 ∨ bitI x i = 1 := by unfold bitI; omega
theorem pow_pos2 (n : Nat) : (0 : Int) < 2 ^ n := Int.pow_pos (by decide)
theorem sum_bit (x : Int) : ∀ n, sumB (bitI x) n = x % 2 ^ n := by
  intro n
  induction n with
  | zero => show 0 = x % 1; omega
  | succ n ih =>
    show sumB (bitI x) n + bitI x n * 2 ^ n = x % (2 ^ n * 2)
    rw [ih]
    unfold bitI
    have hp := pow_pos2 n
    generalize (2 : Int) ^ n = p at hp ⊢
    have h1 := Int.emod_add_mul_ediv x p
    have h2 := Int.emod_add_mul_ediv (x / p) 2
    have l1 := Int.emod_nonneg x (b := p) (by omega)
    have l2 := Int.emod_lt_of_pos x hp
    have e : x = (p * (x / p % 2) + x % p) + (p * 2) * (x / p / 2) := by
      have h3 : p * (x / p) = p * (x / p % 2) + p * 2 * (x / p / 2) := by
        conv => lhs; rw [← h2]
        rw [Int.mul_add, ← Int.mul_assoc]
      omega
    have b2 : x / p % 2 = 0 ∨ x / p % 2 = 1 := by omega
    have r : (p * (x / p % 2) + x % p) % (p * 2) = p * (x / p % 2) + x % p := by
      refine Int.emod_eq_of_lt ?_ ?_
      · rcases b2 with z | z <;> rw [z] <;> omega
      · rcases b2 with z | z <;> rw [z] <;> omega
    have f : x % (p * 2) = p * (x / p % 2) + x % p := by
      conv => lhs; rw [e]
      rw [Int.add_mul_emod_self_left, r]
    rw [f, Int.mul_comm p]
    omega
theorem p63 : (2 : Int) ^ 63 = 9223372036854775808 := by decide
theorem num_bit (z : Int) : numN (bitI z) = wrB z := by
  unfold numN wrB
  rw [sum_bit, bitI, p63, Int.fmod_eq_emod_of_nonneg _ (by decide)]
  omega
theorem wr_id {z : Int} (h1 : -9223372036854775808 ≤ z) (h2 : z ≤ 9223372036854775807) : wrB z = z := by
  unfold wrB
  rw [Int.fmod_eq_emod_of_nonneg _ (by decide)]
  omega
theorem num_congr {b c : Nat → Int} (h : ∀ i, i < 64 → b i = c i) : numN b = numN c := by
  have : ∀ n, n ≤ 64 → sumB b n = sumB c n := by
    intro n
    induction n with
    | zero => intro _; rfl
    | succ n ih =>
      intro hn
      show sumB b n + b n * 2 ^ n = sumB c n + c n * 2 ^ n
      rw [ih (by omega), h n (by omega)]
  unfold numN
  rw [this 63 (by decide), h 63 (by decide)]
/-! and, or, exclusive or -/
theorem nat_and (a b : Nat) : (a &&& b) % 2 = (a % 2) * (b % 2) ∧ (a &&& b) / 2 = a / 2 &&& b / 2 := by
  refine ⟨?_, Nat.and_div_two⟩
  have := Nat.and_mod_two_pow (a := a) (b := b) (n := 1)
  rw [show 2 ^ 1 = 2 from rfl] at this
  rw [this]
  have h1 : a % 2 = 0 ∨ a % 2 = 1 := by omega
  have h2 : b % 2 = 0 ∨ b % 2 = 1 := by omega
  rcases h1 with h1 | h1 <;> rcases h2 with h2 | h2 <;> rw [h1, h2] <;> rfl
theorem nat_or (a b : Nat) : (a ||| b) % 2 = a % 2 + b % 2 - (a % 2) * (b % 2) ∧ (a ||| b) / 2 = a / 2 ||| b / 2 := by
  refine ⟨?_, Nat.or_div_two⟩
  have := Nat.or_mod_two_pow (a := a) (b := b) (n := 1)
  rw [show 2 ^ 1 = 2 from rfl] at this
  rw [this]
  have h1 : a % 2 = 0 ∨ a % 2 = 1 := by omega
  have h2 : b % 2 = 0 ∨ b % 2 = 1 := by omega
  rcases h1 with h1 | h1 <;> rcases h2 with h2 | h2 <;> rw [h1, h2] <;> rfl
theorem and_nat (a b : Nat) : (a &&& b) = 2 * (a / 2 &&& b / 2) + (a % 2) * (b % 2) := by
  obtain ⟨h1, h2⟩ := nat_and a b
  rw [← h1, ← h2]; omega
theorem or_nat (a b : Nat) : (a ||| b) = 2 * (a / 2 ||| b / 2) + (a % 2 + b % 2 - (a % 2) * (b % 2)) := by
  obtain ⟨h1, h2⟩ := nat_or a b
  rw [← h1, ← h2]; omega
/-- an int by its sign -/
theorem int_cases (x : Int) : (∃ n : Nat, x = n) ∨ ∃ n : Nat, x = -(n : Int) - 1 := by
  by_cases h : 0 ≤ x
  · exact .inl ⟨x.toNat, by omega⟩
  · exact .inr ⟨(-x - 1).toNat, by omega⟩
theorem and_pp (a b : Nat) : Builtin.bitAnd (a : Int) (b : Int) = ((a &&& b : Nat) : Int) := by
  rw [bitAnd_pp (Int.natCast_nonneg a) (Int.natCast_nonneg b), Int.toNat_natCast, Int.toNat_natCast]
theorem not_neg (n : Nat) : Builtin.bitNot (-(n : Int) - 1) = (n : Int) := by unfold Builtin.bitNot; omega
theorem and_pn (a b : Nat) : Builtin.bitAnd (a : Int) (-(b : Int) - 1) = (a : Int) - ((a &&& b : Nat) : Int) := by
  rw [bitAnd_pn (Int.natCast_nonneg a) (by omega), not_neg, Int.toNat_natCast, Int.toNat_natCast]
theorem and_np (a b : Nat) : Builtin.bitAnd (-(a : Int) - 1) (b : Int) = (b : Int) - ((b &&& a : Nat) : Int) := by
  rw [bitAnd_np (by omega) (Int.natCast_nonneg b), not_neg, Int.toNat_natCast, Int.toNat_natCast]
theorem and_nn (a b : Nat) : Builtin.bitAnd (-(a : Int) - 1) (-(b : Int) - 1) = -((a ||| b : Nat) : Int) - 1 := by
  rw [bitAnd_nn (by omega) (by omega), not_neg, not_neg, Int.toNat_natCast, Int.toNat_natCast]
  rfl
theorem halfP (a : Nat) : (a : Int) / 2 = ((a / 2 : Nat) : Int) := by omega
theorem halfN (a : Nat) : (-(a : Int) - 1) / 2 = -((a / 2 : Nat) : Int) - 1 := by omega
theorem par01 (a b : Nat) : (a % 2 = 0 ∧ b % 2 = 0 ∧ (a % 2) * (b % 2) = 0) ∨ (a % 2 = 0 ∧ b % 2 = 1 ∧ (a % 2) * (b % 2) = 0) ∨ (a % 2 = 1 ∧ b % 2 = 0 ∧ (a % 2) * (b % 2) = 0) ∨ (a % 2 = 1 ∧ b % 2 = 1 ∧ (a % 2) * (b % 2) = 1) := by
  have h1 : a % 2 = 0 ∨ a % 2 = 1 := by omega
  have h2 : b % 2 = 0 ∨ b % 2 = 1 := by omega
  rcases h1 with h1 | h1 <;> rcases h2 with h2 | h2 <;> simp [h1, h2]
theorem par01I (x y : Int) : (x % 2 = 0 ∧ (x % 2) * (y % 2) = 0) ∨ (y % 2 = 0 ∧ (x % 2) * (y % 2) = 0) ∨ (x % 2 = 1 ∧ y % 2 = 1 ∧ (x % 2) * (y % 2) = 1) := by
  have h1 : x % 2 = 0 ∨ x % 2 = 1 := by omega
  have h2 : y % 2 = 0 ∨ y % 2 = 1 := by omega
  rcases h1 with h1 | h1 <;> rcases h2 with h2 | h2 <;> simp [h1, h2]
theorem and_rec (x y : Int) : Builtin.bitAnd x y = 2 * Builtin.bitAnd (x / 2) (y / 2) + (x % 2) * (y % 2) := by
  have pI := par01I x y
  rcases int_cases x with ⟨a, rfl⟩ | ⟨a, rfl⟩ <;> rcases int_cases y with ⟨b, rfl⟩ | ⟨b, rfl⟩
  · rw [halfP, halfP, and_pp, and_pp]
    have := and_nat a b
    have := par01 a b
    omega
  · rw [halfP, halfN, and_pn, and_pn]
    have := and_nat a b
    have := par01 a b
    omega
  · rw [halfN, halfP, and_np, and_np]
    have := and_nat b a
    have := par01 b a
    omega
  · rw [halfN, halfN, and_nn, and_nn]
    have := or_nat a b
    have := par01 a b
    omega
theorem and_step (x y : Int) : Builtin.bitAnd x y % 2 = (x % 2) * (y % 2) ∧ Builtin.bitAnd x y / 2 = Builtin.bitAnd (x / 2) (y / 2) := by
  have := and_rec x y
  have pI := par01I x y
  omega
theorem div_pow (x : Int) (n : Nat) : x / 2 ^ (n + 1) = x / 2 ^ n / 2 := by
  rw [Int.ediv_ediv_of_nonneg (Int.le_of_lt (pow_pos2 n))]
  rfl
theorem and_div (x y : Int) : ∀ n, Builtin.bitAnd x y / 2 ^ n = Builtin.bitAnd (x / 2 ^ n) (y / 2 ^ n) := by
  intro n
  induction n with
  | zero => show _ / 1 = Builtin.bitAnd (x / 1) (y / 1); rw [Int.ediv_one, Int.ediv_one, Int.ediv_one]
  | succ n ih => rw [div_pow, div_pow, div_pow, ih, (and_step _ _).2]
theorem bit_and (x y : Int) (n : Nat) : bitI (Builtin.bitAnd x y) n = bitI x n * bitI y n := by
  unfold bitI
  rw [and_div, (and_step _ _).1]
theorem bit_not' (x : Int) (n : Nat) : bitI (-1 - x) n = 1 - bitI x n := by
  have h : ∀ n, (-1 - x) / 2 ^ n = -1 - x / 2 ^ n := by
    intro n
    induction n with
    | zero => show _ / 1 = -1 - x / 1; rw [Int.ediv_one, Int.ediv_one]
    | succ n ih => rw [div_pow, div_pow, ih]; omega
  unfold bitI
  rw [h]; omega
theorem or_eq (x y : Int) : Builtin.bitOr x y = x + y - Builtin.bitAnd x y := bitOr_and x y
theorem xor_eq (x y : Int) : Builtin.bitXor x y = x + y - 2 * Builtin.bitAnd x y := bitXor_and x y
theorem or_step (x y : Int) : Builtin.bitOr x y % 2 = x % 2 + y % 2 - (x % 2) * (y % 2) ∧ Builtin.bitOr x y / 2 = Builtin.bitOr (x / 2) (y / 2) := by
  rw [or_eq, or_eq]
  have := and_rec x y
  have pI := par01I x y
  omega
theorem xor_step (x y : Int) : Builtin.bitXor x y % 2 = x % 2 + y % 2 - 2 * ((x % 2) * (y % 2)) ∧ Builtin.bitXor x y / 2 = Builtin.bitXor (x / 2) (y / 2) := by
  rw [xor_eq, xor_eq]
  have := and_rec x y
  have pI := par01I x y
  omega
theorem or_div (x y : Int) : ∀ n, Builtin.bitOr x y / 2 ^ n = Builtin.bitOr (x / 2 ^ n) (y / 2 ^ n) := by
  intro n
  induction n with
  | zero => show _ / 1 = Builtin.bitOr (x / 1) (y / 1); rw [Int.ediv_one, Int.ediv_one, Int.ediv_one]
  | succ n ih => rw [div_pow, div_pow, div_pow, ih, (or_step _ _).2]
theorem xor_div (x y : Int) : ∀ n, Builtin.bitXor x y / 2 ^ n = Builtin.bitXor (x / 2 ^ n) (y / 2 ^ n) := by
  intro n
  induction n with
  | zero => show _ / 1 = Builtin.bitXor (x / 1) (y / 1); rw [Int.ediv_one, Int.ediv_one, Int.ediv_one]
  | succ n ih => rw [div_pow, div_pow, div_pow, ih, (xor_step _ _).2]
theorem bit_or (x y : Int) (n : Nat) : bitI (Builtin.bitOr x y) n = if bitI y n > bitI x n then bitI y n else bitI x n := by
  unfold bitI
  rw [or_div, (or_step _ _).1]
  have pI := par01I (x / 2 ^ n) (y / 2 ^ n)
  split <;> omega
theorem bit_xor (x y : Int) (n : Nat) : bitI (Builtin.bitXor x y) n = if bitI x n = bitI y n then 0 else 1 := by
  unfold bitI
  rw [xor_div, (xor_step _ _).1]
  have pI := par01I (x / 2 ^ n) (y / 2 ^ n)
  split <;> omega
/-! the results are ints of 64 bits -/
def r64 (x : Int) : Prop := -9223372036854775808 ≤ x ∧ x ≤ 9223372036854775807
theorem r64_iff {x : Int} : r64 x ↔ x / 2 ^ 63 = 0 ∨ x / 2 ^ 63 = -1 := by
  unfold r64
  rw [p63]
  omega
theorem r64_and {x y : Int} (hx : r64 x) (hy : r64 y) : r64 (Builtin.bitAnd x y) := by
  rw [r64_iff] at *
  rw [and_div]
  rcases hx with z | z <;> rcases hy with u | u <;> rw [z, u] <;> decide
theorem r64_or {x y : Int} (hx : r64 x) (hy : r64 y) : r64 (Builtin.bitOr x y) := by
  rw [r64_iff] at *
  rw [or_div]
  rcases hx with z | z <;> rcases hy with u | u <;> rw [z, u] <;> decide
theorem r64_xor {x y : Int} (hx : r64 x) (hy : r64 y) : r64 (Builtin.bitXor x y) := by
  rw [r64_iff] at *
  rw [xor_div]
  rcases hx with z | z <;> rcases hy with u | u <;> rw [z, u] <;> decide
theorem num_id {x : Int} (h : r64 x) : numN (bitI x) = x := (num_bit x).trans (wr_id h.1 h.2)
/-! shifts -/
theorem bit_shl (x : Int) (m i : Nat) : bitI (x * 2 ^ m) i = if m ≤ i then bitI x (i - m) else 0 := by
  unfold bitI
  have hm := pow_pos2 m
  split
  · rename_i h
    have e : (2 : Int) ^ i = 2 ^ m * 2 ^ (i - m) := by rw [← Int.pow_add]; congr 1; omega
    rw [e, ← Int.ediv_ediv_of_nonneg (Int.le_of_lt hm), Int.mul_ediv_cancel _ (by omega)]
  · rename_i h
    have e : (2 : Int) ^ m = 2 ^ i * (2 * 2 ^ (m - i - 1)) := by rw [← Int.mul_assoc, ← Int.pow_succ, ← Int.pow_add]; congr 1; omega
    have hi := pow_pos2 i
    rw [e, ← Int.mul_assoc, Int.mul_comm x, Int.mul_assoc, Int.mul_ediv_cancel_left _ (by omega), Int.mul_left_comm, Int.mul_emod_right]
theorem bit_mod (x : Int) (n i : Nat) : bitI (x % 2 ^ n) i = if i < n then bitI x i else 0 := by
  unfold bitI
  have hn := pow_pos2 n
  have hi := pow_pos2 i
  split
  · rename_i h
    have e : (2 : Int) ^ n = 2 ^ i * 2 * 2 ^ (n - i - 1) := by rw [← Int.pow_succ, ← Int.pow_add]; congr 1; omega
    have h1 := Int.emod_add_mul_ediv x (2 ^ n)
    have hY : ∀ Y : Int, 2 ^ i * (2 * (2 ^ (n - i - 1) * Y)) = 2 ^ n * Y := fun Y => by
      rw [e]
      simp only [Int.mul_assoc]
    have : x = x % 2 ^ n + 2 ^ i * (2 * (2 ^ (n - i - 1) * (x / 2 ^ n))) := by
      rw [hY]
      omega
    have h2 : x / 2 ^ i = x % 2 ^ n / 2 ^ i + 2 * (2 ^ (n - i - 1) * (x / 2 ^ n)) := by
      conv => lhs; rw [this]
      rw [Int.add_mul_ediv_left _ _ (by omega)]
    rw [h2]
    omega
  · rename_i h
    have h1 := Int.emod_nonneg x (b := 2 ^ n) (by omega)
    have h2 := Int.emod_lt_of_pos x hn
    have h3 : (2 : Int) ^ n ≤ 2 ^ i := by
      have c : ∀ k : Nat, ((2 ^ k : Nat) : Int) = (2 : Int) ^ k := fun k => Int.natCast_pow 2 k
      have := Nat.pow_le_pow_right (n := 2) (by decide) (show n ≤ i by omega)
      rw [← c, ← c]
      omega
    rw [Int.ediv_eq_zero_of_lt h1 (by omega)]
    rfl
theorem bit_shr (x : Int) (m i : Nat) : bitI (x / 2 ^ m) i = bitI x (i + m) := by
  unfold bitI
  rw [Int.ediv_ediv_of_nonneg (Int.le_of_lt (pow_pos2 m)), ← Int.pow_add, Nat.add_comm]
end Up

set_option Elab.async false
set_option linter.all false
set_option pp.maxSteps 600
set_option maxRecDepth 100000
set_option maxHeartbeats 4000000
/-! list(zip(xs, ys)), two lists -/
namespace PySem
open Sem (wp)
theorem Up.zip_no_len : typeLookup (.type "zip") "__len__" = pure none := by rw [typeLookup_type, builtinLookup_eq_fast]; kernel_rfl
theorem Up.zip_no_hint : typeLookup (.type "zip") "__length_hint__" = pure none := by rw [typeLookup_type, builtinLookup_eq_fast]; kernel_rfl
section
variable {prog : Program} {w : World} {A : Around} {R : Result → Shared → Prop} {z TI TO i1 i2 l1 l2 S N0 : Addr} {xs ys : Array Value} {n : Nat}
/-- the zip at step i; what it handed out is kept -/
def Up.ZSt (z TI TO i1 i2 l1 l2 S : Addr) (xs ys : Array Value) (h : Heap) (i : Nat) : Prop := IsPair h TI (.ref i1) (.ref i2) ∧ h.IsListIter i1 l1 i ∧ h.IsListIter i2 l2 i ∧ h.IsList l1 xs ∧ h.IsList l2 ys ∧
  ((IsZip h z TI TO .none ∧ ∃ a b, IsPair h TO a b) ∨ ∃ T f oT, IsZipHeld h z TI TO T f ∧ h.get? T = some oT ∧ T ≠ z ∧ T ≠ i1 ∧ T ≠ i2 ∧ T ≠ S)
/-- the pairs that the list has -/
def Up.ZAcc (xs ys : Array Value) (N0 : Addr) (h : Heap) (acc : Array Value) (i : Nat) : Prop := acc.size = i ∧ (∀ (j : Nat) (v : Value), acc[j]? = some v → ∃ T x y, v = .ref T ∧ IsPair h T x y ∧ xs[j]? = some x ∧ ys[j]? = some y ∧ N0 ≤ T) ∧ ∀ (j k : Nat) (T : Addr), acc[j]? = some (.ref T) → acc[k]? = some (.ref T) → j = k
theorem Up.ZSt.keep {h h' : Heap} {i : Nat} (st : Up.ZSt z TI TO i1 i2 l1 l2 S xs ys h i) (k : ∀ b o, b ≠ S → h.get? b = some o → h'.get? b = some o) (dz : S ≠ z) (dTI : S ≠ TI) (dTO : S ≠ TO) (di1 : S ≠ i1) (di2 : S ≠ i2) (dl1 : S ≠ l1) (dl2 : S ≠ l2) : Up.ZSt z TI TO i1 i2 l1 l2 S xs ys h' i := by
  obtain ⟨hTI, h1, h2, hl1, hl2, hz⟩ := st
  refine ⟨k _ _ (Ne.symm dTI) hTI, h1.at fun o e => k _ o (Ne.symm di1) e, h2.at fun o e => k _ o (Ne.symm di2) e, hl1.at fun o e => k _ o (Ne.symm dl1) e, hl2.at fun o e => k _ o (Ne.symm dl2) e, ?_⟩
  rcases hz with ⟨hz, a, b, hTO⟩ | ⟨T, f, oT, hz, hT, r1, r2, r3, r4⟩
  · exact .inl ⟨k _ _ (Ne.symm dz) hz, a, b, k _ _ (Ne.symm dTO) hTO⟩
  · exact .inr ⟨T, f, oT, k _ _ (Ne.symm dz) hz, k _ _ r4 hT, r1, r2, r3, r4⟩
theorem Up.ne_ge {a b c : Addr} (h : a < b) (g : b ≤ c) : c ≠ a := Nat.ne_of_gt (Nat.lt_of_lt_of_le h g)
theorem Up.extend_zip_loop (D : ZipApart z TI TO i1 i2 l1 l2) (hh : A.in1.handled = none) (hx : xs.size = n) (hy : ys.size = n) (hn : n ≤ sizeLine) (dz : S ≠ z) (dTI : S ≠ TI) (dTO : S ≠ TO) (di1 : S ≠ i1) (di2 : S ≠ i2) (dl1 : S ≠ l1) (dl2 : S ≠ l2)
    (lz : z < N0) (lTO : TO < N0) (l1' : i1 < N0) (l2' : i2 < N0) (lS : S < N0) (res : Value) (s : Shared) (h0 : Heap)
    (hR : ∀ h' acc c, h'.get? S = some { cls := .type "list", dict := none, data := .seq acc c, slots := #[] } → Up.ZAcc xs ys N0 h' acc n → (∀ c o, c ≠ S → c ≠ z → c ≠ TO → c ≠ i1 → c ≠ i2 → h0.get? c = some o → h'.get? c = some o) → R (.ok (.ret res)) { s with heap := h' }) :
    ∀ (k i : Nat) (h : Heap) (acc : Array Value) (c : Nat), n - i = k → i ≤ n → N0 ≤ h.objs.size → Up.ZSt z TI TO i1 i2 l1 l2 S xs ys h i → h.get? S = some { cls := .type "list", dict := none, data := .seq acc c, slots := #[] } → Up.ZAcc xs ys N0 h acc i →
      (∀ c o, c ≠ S → c ≠ z → c ≠ TO → c ≠ i1 → c ≠ i2 → h0.get? c = some o → h.get? c = some o) → codeAny (model prog w) A (.builtin "list.extend.loop" ⟨[.ref S, .ref z, res], []⟩) R { s with heap := h } := by
  intro k
  induction k with
  | zero =>
    intro i h acc c hk hi hN st hS ha hk0
    have hin : i = n := by omega
    subst hin
    refine codeAny_builtin F.entry_extend_loop ?_
    rw [Around.under_plainId F.plain_extend_loop _]
    show wpAny _ A.in1 (pyNext (.ref z) >>= _) _ _ _
    obtain ⟨hTI, h1, h2, hl1, hl2, hz⟩ := st
    have hend : xs[i]? = none ∨ ys[i]? = none := .inl (Array.getElem?_eq_none (by omega))
    have fin : ∀ h', (∀ c o, c ≠ z → c ≠ TO → c ≠ i1 → c ≠ i2 → h.get? c = some o → h'.get? c = some o) → R (.ok (.ret res)) { s with heap := h' } := fun h' hk' => hR h' acc c (hk' _ _ dz dTO di1 di2 hS) ⟨ha.1, fun j v e => by
      obtain ⟨T, x, y, e1, e2, e3, e4, e5⟩ := ha.2.1 j v e
      exact ⟨T, x, y, e1, hk' _ _ (Up.ne_ge lz e5) (Up.ne_ge lTO e5) (Up.ne_ge l1' e5) (Up.ne_ge l2' e5) e2, e3, e4, e5⟩, ha.2.2⟩ fun c o c0 c1 c2 c3 c4 e => hk' _ _ c1 c2 c3 c4 (hk0 c o c0 c1 c2 c3 c4 e)
    rcases hz with ⟨hz, a, b, hTO⟩ | ⟨T, f, oT, hz, hT, r1, r2, r3, r4⟩
    · exact wpAny_bind (wpAny_pyNext_zip_end hh D hz hTI hTO h1 h2 hl1 hl2 hend fun h' hk' => wpAny_pure (fin h' hk'))
    · exact wpAny_bind (wpAny_pyNext_zip_end_held hh D hz hT hTI h1 h2 hl1 hl2 hend fun h' hk' => wpAny_pure (fin h' fun c o c1 _ c3 c4 e => hk' c o c1 c3 c4 e))
  | succ k ih =>
    intro i h acc c hk hi hN st hS ha hk0
    have hlt : i < n := by omega
    refine codeAny_builtin F.entry_extend_loop ?_
    rw [Around.under_plainId F.plain_extend_loop _]
    show wpAny _ A.in1 (pyNext (.ref z) >>= _) _ _ _
    obtain ⟨hTI, h1, h2, hl1, hl2, hz⟩ := st
    have ex := Array.getElem?_eq_getElem (show i < xs.size by omega)
    have ey := Array.getElem?_eq_getElem (show i < ys.size by omega)
    have next : ∀ h', h'.objs.size = h.objs.size + 1 → Up.ZSt z TI TO i1 i2 l1 l2 S xs ys h' (i + 1) → IsPair h' h.objs.size (xs[i]'(by omega)) (ys[i]'(by omega)) → (∀ c o, c ≠ z → c ≠ TO → c ≠ i1 → c ≠ i2 → h.get? c = some o → h'.get? c = some o) →
        wpAny (model prog w) A.in1 (updateSeq S (·.push (.ref h.objs.size)) >>= fun _ => again (.builtin "list.extend.loop" ⟨[.ref S, .ref z, res], []⟩))
          (fun fin s' => match fin with | .done f => R (.ok f) s' | .again c' => c'.quiet = true ∧ codeAny (model prog w) A c' R s') (fun e s' => R (.error e) s') { s with heap := h' } := fun h' hsz st' hp hk' => by
      have hS' := hk' _ _ dz dTO di1 di2 hS
      refine wpAny_bind ?_
      refine wpAny_updateSeq hS' rfl (wpAny_pure ⟨plainId_quiet F.plain_extend_loop _, ?_⟩) (by rw [ha.1]; omega) (by show (acc.push _).size ≤ sizeLine + 1; rw [Array.size_push, ha.1]; omega)
      have oth : ∀ b o, b ≠ S → h'.get? b = some o → (h'.update S (Obj.mapSeq (·.push (Value.ref h.objs.size)))).get? b = some o := fun b o hb e => (Heap.get?_update_other _ _ (Ne.symm hb)).trans e
      refine ih (i + 1) _ (acc.push (.ref h.objs.size)) _ (by omega) hlt (by rw [show (h'.update S (Obj.mapSeq (·.push (Value.ref h.objs.size)))).objs.size = h'.objs.size from by simp [Heap.update]]; exact Nat.le_trans hN (by rw [hsz]; exact Nat.le_succ _)) (st'.keep oth dz dTI dTO di1 di2 dl1 dl2) (Heap.get?_update_self _ hS' rfl) ⟨by rw [Array.size_push, ha.1], fun j v e => ?_, fun j m T e1 e2 => ?_⟩ fun c o c0 c1 c2 c3 c4 e => oth _ _ c0 (hk' _ _ c1 c2 c3 c4 (hk0 c o c0 c1 c2 c3 c4 e))
      rw [Array.getElem?_push] at e
      split at e
      · rename_i q
        rw [ha.1] at q
        cases e
        subst q
        exact ⟨_, _, _, rfl, oth _ _ (Up.ne_ge lS hN) hp, ex, ey, hN⟩
      · obtain ⟨T, x, y, e1, e2, e3, e4, e5⟩ := ha.2.1 j v e
        exact ⟨T, x, y, e1, oth _ _ (Up.ne_ge lS e5) (hk' _ _ (Up.ne_ge lz e5) (Up.ne_ge lTO e5) (Up.ne_ge l1' e5) (Up.ne_ge l2' e5) e2), e3, e4, e5⟩
      · have no : ∀ m : Nat, acc[m]? = some (Value.ref h.objs.size) → False := fun m e => by
          obtain ⟨T, x, y, e1, e2, _⟩ := ha.2.1 m _ e
          cases e1
          exact Nat.lt_irrefl _ (Heap.lt_size e2)
        rw [Array.getElem?_push] at e1 e2
        split at e1
        · rename_i q1
          split at e2
          · rename_i q2; rw [q1, q2]
          · cases e1; exact (no m e2).elim
        · split at e2
          · cases e2; exact (no j e1).elim
          · exact ha.2.2 j m T e1 e2
    rcases hz with ⟨hz, a, b, hTO⟩ | ⟨T, f, oT, hz, hT, r1, r2, r3, r4⟩
    · refine wpAny_bind (wpAny_pyNext_zip_item D hz hTI hTO h1 h2 hl1 hl2 ex ey fun h' a1 a2 a3 a4 a5 a6 hk' => ?_)
      exact next h' a6 ⟨hk' _ _ D.TIz D.TITO D.TIi1 D.TIi2 hTI, a3, a4, hl1.at fun o e => hk' _ o D.l1z D.l1TO D.l1i1 D.l1i2 e, hl2.at fun o e => hk' _ o D.l2z D.l2TO D.l2i1 D.l2i2 e,
        .inr ⟨h.objs.size, false, _, a1, a5, Up.ne_ge lz hN, Up.ne_ge l1' hN, Up.ne_ge l2' hN, Up.ne_ge lS hN⟩⟩ a5 fun c o c1 c2 c3 c4 e => hk' c o c1 c2 c3 c4 e
    · refine wpAny_bind (wpAny_pyNext_zip_item_held D hz hT hTI h1 h2 hl1 hl2 ex ey fun h' a1 a3 a4 a5 a6 hk' => ?_)
      exact next h' a6 ⟨hk' _ _ D.TIz D.TIi1 D.TIi2 hTI, a3, a4, hl1.at fun o e => hk' _ o D.l1z D.l1i1 D.l1i2 e, hl2.at fun o e => hk' _ o D.l2z D.l2i1 D.l2i2 e,
        .inr ⟨T, true, oT, a1, hk' _ _ r1 r2 r3 hT, r1, r2, r3, r4⟩⟩ a5 fun c o c1 c2 c3 c4 e => hk' c o c1 c3 c4 e
theorem Up.extend_zip {s : Shared} (D : ZipApart z TI TO i1 i2 l1 l2) (hh : A.in1.handled = none) (hx : xs.size = n) (hy : ys.size = n) (hn : n ≤ sizeLine) (dz : S ≠ z) (dTI : S ≠ TI) (dTO : S ≠ TO) (di1 : S ≠ i1) (di2 : S ≠ i2) (dl1 : S ≠ l1) (dl2 : S ≠ l2)
    (lz : z < N0) (lTO : TO < N0) (l1' : i1 < N0) (l2' : i2 < N0) (lS : S < N0) (res : Value) (c₀ : Nat) (hN : N0 ≤ s.heap.objs.size) (hz : IsZip s.heap z TI TO .none) (hst : Up.ZSt z TI TO i1 i2 l1 l2 S xs ys s.heap 0) (hS : s.heap.get? S = some { cls := .type "list", data := .seq #[] c₀ })
    (hR : ∀ h' acc c, h'.get? S = some { cls := .type "list", dict := none, data := .seq acc c, slots := #[] } → Up.ZAcc xs ys N0 h' acc n → (∀ c o, c ≠ S → c ≠ z → c ≠ TO → c ≠ i1 → c ≠ i2 → s.heap.get? c = some o → h'.get? c = some o) → R (.ok (.ret res)) { s with heap := h' }) :
    wpAny (model prog w) A.in1 (Builtin.List.listExtendWith (.ref S) (.ref z) res)
      (fun fin s' => match fin with | .done f => R (.ok f) s' | .again c' => c'.quiet = true ∧ codeAny (model prog w) A c' R s') (fun e s' => R (.error e) s') s := by
  have hT : s.TypeIs (.ref z) "zip" := ⟨_, hz, rfl⟩
  unfold Builtin.List.listExtendWith
  refine wpAny_bind (wpAny_typeOf hT ?_)
  have h1 : Builtin.List.listSameRef (.ref S) (.ref z) = false := by simp [Builtin.List.listSameRef, dz]
  have h2 : (Value.type "zip" == Value.type "list") = false := by decide
  have h3 : (Value.type "zip" == Value.type "tuple") = false := by decide
  simp only [h1, h2, h3, Bool.or_false, Bool.false_eq_true, if_false]
  refine wpAny_bind (wpAny_pyIter_zip hz ?_)
  refine wpAny_bind (wpAny_holding ?_)
  unfold Builtin.List.listLengthHint
  refine wpAny_bind (wpAny_specialOf hT Up.zip_no_len ?_)
  show wpAny _ A.in1 (specialOf (Value.ref z) (Str.ofString "__length_hint__") >>= _) _ _ _
  refine wpAny_bind (wpAny_specialOf hT Up.zip_no_hint ?_)
  refine wpAny_pure ?_
  show wpAny _ A.in1 (rule "list.extend.makes-room" >>= fun _ => Builtin.List.listTouch (.ref S) >>= fun _ =>
    again (.builtin "list.extend.loop" ⟨[.ref S, .ref z, res], []⟩)) _ _ _
  refine wpAny_bind (wpAny_rule ?_)
  refine wpAny_bind ?_
  show wpAny _ A.in1 (updateSeq S (·.push .none) >>= fun _ => updateSeq S (·.pop)) _ _ _
  refine wpAny_bind (wpAny_updateSeq hS rfl ?_)
  have hS₂ := Heap.get?_update_self (Obj.mapSeq (·.push Value.none)) hS rfl
  refine wpAny_updateSeq (hz := by seq_fits) hS₂ rfl ?_
  have hS₃ := Heap.get?_update_self (Obj.mapSeq (·.pop)) hS₂ rfl
  have oth : ∀ b o, b ≠ S → s.heap.get? b = some o → ((s.heap.update S (Obj.mapSeq (·.push Value.none))).update S (Obj.mapSeq (·.pop))).get? b = some o :=
    fun b o hb e => (Heap.get?_update_other _ _ (Ne.symm hb)).trans ((Heap.get?_update_other _ _ (Ne.symm hb)).trans e)
  refine wpAny_pure ⟨plainId_quiet F.plain_extend_loop _, Up.extend_zip_loop D hh hx hy hn dz dTI dTO di1 di2 dl1 dl2 lz lTO l1' l2' lS res s s.heap hR n 0 _ #[] _ rfl (Nat.zero_le _) (by simp only [Heap.update, Array.size_modify]; exact hN) (hst.keep oth dz dTI dTO di1 di2 dl1 dl2) hS₃ ⟨rfl, (fun j v e => by simp at e), fun j m T e => by simp at e⟩ fun c o c0 _ _ _ _ e => oth c o c0 e⟩
theorem Up.list_init_zip {s : Shared} (D : ZipApart z TI TO i1 i2 l1 l2) (hh : A.in1.handled = none) (hx : xs.size = n) (hy : ys.size = n) (hn : n ≤ sizeLine) (dz : S ≠ z) (dTI : S ≠ TI) (dTO : S ≠ TO) (di1 : S ≠ i1) (di2 : S ≠ i2) (dl1 : S ≠ l1) (dl2 : S ≠ l2)
    (lz : z < N0) (lTO : TO < N0) (l1' : i1 < N0) (l2' : i2 < N0) (lS : S < N0) (hN : N0 ≤ s.heap.objs.size) (hz : IsZip s.heap z TI TO .none) (hst : Up.ZSt z TI TO i1 i2 l1 l2 S xs ys s.heap 0) (hS : s.heap.get? S = some { cls := .type "list", data := .seq #[] })
    (hR : ∀ h' acc c, h'.get? S = some { cls := .type "list", dict := none, data := .seq acc c, slots := #[] } → Up.ZAcc xs ys N0 h' acc n → (∀ c o, c ≠ S → c ≠ z → c ≠ TO → c ≠ i1 → c ≠ i2 → s.heap.get? c = some o → h'.get? c = some o) → R (.ok (.ret .none)) { s with heap := h' }) :
    wpAny (model prog w) A.in1 (Builtin.«list.__init__» ⟨[.ref S, .ref z], []⟩)
      (fun fin s' => match fin with | .done f => R (.ok f) s' | .again c' => c'.quiet = true ∧ codeAny (model prog w) A c' R s') (fun e s' => R (.error e) s') s := by
  show wpAny _ A.in1 (do let old ← Builtin.List.listItems (.ref S); Builtin.List.listUpdate (.ref S) (fun _ => #[]); letGo old.toList.reverse; Builtin.List.listExtendWith (.ref S) (.ref z) .none) _ _ s
  refine wpAny_bind ?_
  unfold Builtin.List.listItems
  refine wpAny_bind (wpAny_seqItems hS rfl (wpAny_pure ?_))
  show wpAny _ A.in1 (updateSeq S (fun _ => #[]) >>= fun _ => letGo (#[] : Array Value).toList.reverse >>= fun _ => Builtin.List.listExtendWith (.ref S) (.ref z) .none) _ _ s
  refine wpAny_bind (wpAny_updateSeq hS rfl ?_)
  have hS₂ := Heap.get?_update_self (Obj.mapSeq (fun _ => (#[] : Array Value))) hS rfl
  have oth : ∀ b o, b ≠ S → s.heap.get? b = some o → (s.heap.update S (Obj.mapSeq (fun _ => (#[] : Array Value)))).get? b = some o :=
    fun b o hb e => (Heap.get?_update_other _ _ (Ne.symm hb)).trans e
  refine wpAny_bind (wpAny_letGo ?_)
  exact Up.extend_zip (s := { s with heap := s.heap.update S (Obj.mapSeq (fun _ => (#[] : Array Value))) }) D hh hx hy hn dz dTI dTO di1 di2 dl1 dl2 lz lTO l1' l2' lS .none _ (by simp only [Heap.update, Array.size_modify]; exact hN) (oth _ _ (Ne.symm dz) hz) (hst.keep oth dz dTI dTO di1 di2 dl1 dl2) hS₂ fun h' acc c e1 e2 e3 => hR h' acc c e1 e2 fun c o c0 c1 c2 c3 c4 e => e3 c o c0 c1 c2 c3 c4 (oth c o c0 e)
theorem Up.call_list_zip {s : Shared} {E : Value → Shared → Prop} {Q : Value → Shared → Prop} (D : ZipApart z TI TO i1 i2 l1 l2) (hh : A.in1.in1.handled = none) (hx : xs.size = n) (hy : ys.size = n) (hn : n ≤ sizeLine)
    (lz : z < s.heap.objs.size) (lTI : TI < s.heap.objs.size) (lTO : TO < s.heap.objs.size) (l1' : i1 < s.heap.objs.size) (l2' : i2 < s.heap.objs.size) (la : l1 < s.heap.objs.size) (lb : l2 < s.heap.objs.size) (hz : IsZip s.heap z TI TO .none) (hTI : IsPair s.heap TI (.ref i1) (.ref i2)) {a b : Value} (hTO : IsPair s.heap TO a b) (h1 : s.heap.IsListIter i1 l1 0) (h2 : s.heap.IsListIter i2 l2 0) (hl1 : s.heap.IsList l1 xs) (hl2 : s.heap.IsList l2 ys)
    (hQ : ∀ h' acc c, h'.get? s.heap.objs.size = some { cls := .type "list", dict := none, data := .seq acc c, slots := #[] } → Up.ZAcc xs ys (s.heap.objs.size + 1) h' acc n → (∀ c o, c ≠ z → c ≠ TO → c ≠ i1 → c ≠ i2 → s.heap.get? c = some o → h'.get? c = some o) → Q (.ref s.heap.objs.size) { s with heap := h' }) :
    wpAny (model prog w) A (call (.type "list") [.ref z]) Q E s := by
  refine callType_codes (Q₁ := fun obj s₁ => obj = .ref s.heap.objs.size ∧ s₁ = { s with heap := s.heap.push { cls := .type "list", data := .seq #[] } }) F.called_list (F.typeCall_list_1 _) F.entry_list_init
    (code_list_new _ ⟨rfl, rfl⟩) fun obj s₁ h₁ => ?_
  obtain ⟨rfl, rfl⟩ := h₁
  have hS : (s.heap.push { cls := .type "list", data := .seq #[] }).get? s.heap.objs.size = some { cls := .type "list", data := .seq #[] } := Heap.get?_push_size _ rfl
  have up : ∀ c o, s.heap.get? c = some o → (s.heap.push { cls := .type "list", data := .seq #[] }).get? c = some o := fun c o e => Heap.get?_push_of_some _ e
  have ps : (s.heap.push { cls := .type "list", data := .seq #[] }).objs.size = s.heap.objs.size + 1 := Heap.size_push ..
  have lt1 : ∀ {c : Addr}, c < s.heap.objs.size → c < s.heap.objs.size + 1 := fun h => Nat.lt_succ_of_lt h
  refine ⟨⟨_, hS, rfl⟩, F.args_list_init_2 _ _, Up.list_init_zip (s := { s with heap := s.heap.push { cls := .type "list", data := .seq #[] } }) (N0 := s.heap.objs.size + 1) D hh hx hy hn (Nat.ne_of_gt lz) (Nat.ne_of_gt lTI) (Nat.ne_of_gt lTO) (Nat.ne_of_gt l1') (Nat.ne_of_gt l2') (Nat.ne_of_gt la) (Nat.ne_of_gt lb)
    (lt1 lz) (lt1 lTO) (lt1 l1') (lt1 l2') (Nat.lt_succ_self _) (Nat.le_of_eq ps.symm) (up _ _ hz) ⟨up _ _ hTI, h1.at fun o e => up _ o e, h2.at fun o e => up _ o e, hl1.at fun o e => up _ o e, hl2.at fun o e => up _ o e, .inl ⟨up _ _ hz, a, b, up _ _ hTO⟩⟩ hS fun h' acc c e1 e2 e3 => ?_⟩
  exact ⟨rfl, hQ h' acc c e1 e2 fun c o c1 c2 c3 c4 e => e3 c o (Nat.ne_of_lt (Heap.lt_size e)) c1 c2 c3 c4 (up _ _ e)⟩
end
end PySem
namespace Up
open PySem PySem.Spec PyProof.Rows L2
theorem _root_.L2.Inv.many {X : Cx} {pins : List (Addr × Obj)} {σ : List (Option V)} {H H' : Hp} {s : Shared} {h' : Heap} {t' : Nat} (I : L2.Inv X pins σ H s) (k : ∀ b u, s.heap.get? b = some u → h'.get? b = some u) (old : ∀ b u, H b = some u → H' b = some u) (low : ∀ b, b < s.heap.objs.size → H b = none → H' b = none)
    (new : ∀ b u, H' b = some u → H b = none → ObjOk X.prog X.w H' h' b u) : L2.Inv X pins σ H' { s with heap := h', toks := t' } :=
  I.un ⟨fun b ob q _ _ _ => k b ob q, fun b ob q _ _ _ => ⟨ob.slots, k b ob q⟩, fun b ob q n _ => low b (Heap.lt_size q) n, fun b ob q _ => ⟨ob, k b ob q⟩, fun b xs q => old _ _ q, fun b o u q => old _ _ q, fun b ps q => ⟨#[], by rw [old _ _ q]; simp⟩⟩ fun b u e => by
    cases q : H b with
    | none => exact new b u e q
    | some u0 =>
      have := (old _ _ q).symm.trans e
      cases this
      exact (I.hok b u q).stay (fun c v _ z => k c v z) (fun c z => old _ _ z) fun c xs z => old _ _ z
/-- list(zip(xs, ys)) -/
def tLstZip (K : PySem.W.Frag) (ta : TA) : TE := fun σ H Q => ta σ H fun vs H1 => ∃ a b xs ys, vs = [.ref a, .ref b] ∧ SqL K H1 a xs ∧ SqL K H1 b ys ∧ xs.length = ys.length ∧
  ∀ H' q zs, H1 q = none → Same H1 H' → H' q = some (.lst zs) → zs.length = xs.length → (∀ (j : Nat) (z : V), zs[j]? = some z → ∃ T x y, z = .ref T ∧ H' T = some (.tup [x, y]) ∧ xs[j]? = some x ∧ ys[j]? = some y) → Q (.ref q) H'
open Classical in
noncomputable def zipHp (H : Hp) (q : Addr) (acc : Array Value) (xs ys : List V) : Hp := fun b => if b = q then some (.lst (acc.toList.map fun v => match v with | .ref T => V.ref T | _ => .non)) else
  if h : ∃ (j : Nat) (x y : V), acc[j]? = some (.ref b) ∧ xs[j]? = some x ∧ ys[j]? = some y then some (.tup [h.choose_spec.choose, h.choose_spec.choose_spec.choose]) else H b
theorem pe_listZip {X : Cx} {e e2 : Expr} {ta : TA} {p p2 pos pos2 : Pos} (hc : X.calm = true) (hg : Gl X "list") (hm : X.mg "list" = none) (hg2 : Gl X "zip") (hm2 : X.mg "zip" = none) (ha : PA X [e, e2] ta)
    (hs : starEach [e, e2] X.env = (false, eval e X.env) :: starEach [e2] X.env := by rfl) (hpl : (backTo pos2 (starEach [e2] X.env)).any (·.1) = false := by rfl)
    (na : starEach [.Call (.Name "zip" p2) [e, e2] [] pos2] X.env = (false, eval (.Call (.Name "zip" p2) [e, e2] [] pos2) X.env) :: starEach [] X.env := by rfl) :
    PE X (.Call (.Name "list" p) [.Call (.Name "zip" p2) [e, e2] [] pos2] [] pos) (tLstZip X.K ta) := by
  refine ⟨fun pins s σ H Q I h => ?_⟩
  refine Call_ (ld_blt I hg hm boot_list (PyProof.Rows.callWith_type1 (args_cons (Call_ (ld_blt I hg2 hm2 PyProof.Rows.boot_zip (PyProof.Rows.callWith_type1 (thn (ha.run pos2 pins s σ H _ I h) fun us s1 ⟨vs, H1, I1, r1, q1⟩ => ?_) hs hpl))) na) na))
  obtain ⟨a, b, xs, ys, ex, hqx, hqy, hl, q⟩ := q1
  subst ex
  cases r1 with
  | cons r rr =>
    cases rr with
    | cons r' rr =>
      cases rr
      cases r
      cases r'
      obtain ⟨its, rv, p1, hz1⟩ := I1.list hqx
      obtain ⟨its2, rv2, p2, hz2⟩ := I1.list hqy
      have la : a < s1.heap.objs.size := p1.lt
      have lb : b < s1.heap.objs.size := p2.lt
      refine call_zip_2 p1.isList p2.isList fun h' hz hTI hTO h1 h2 hsz hk => args_nil ?_
      have dd := PySem.W.ktu_apart s1.heap.objs.size a b la lb
      have lt5 : ∀ {m : Nat}, m < 5 → s1.heap.objs.size + m < h'.objs.size := fun hm => by rw [hsz]; exact Nat.add_lt_add_left hm _
      have lo : ∀ {c : Addr}, c < s1.heap.objs.size → c < h'.objs.size := fun hc' => Nat.lt_trans hc' (lt5 (m := 0) (by decide))
      have e1 := rv.length
      have e2 := rv2.length
      refine Up.call_list_zip (n := its.length) (s := { s1 with heap := h' }) (xs := its.toArray) (ys := its2.toArray) dd (I1.ok.hd hc) (by simp) (by simp; omega) (by rw [← e1]; exact hz1) (lt5 (by decide)) (lt5 (by decide)) (lt5 (by decide)) (lt5 (m := 0) (by decide)) (lt5 (by decide)) (lo la) (lo lb) hz hTI hTO h1 h2 (p1.isList.at fun o e => hk _ o e) (p2.isList.at fun o e => hk _ o e) fun h3 acc c g1 g2 g3 => ?_
      have k3 : ∀ b u, s1.heap.get? b = some u → h3.get? b = some u := fun b u e => by
        have lb' := Heap.lt_size e
        exact g3 _ _ (Nat.ne_of_lt (Nat.lt_add_right 4 lb')) (Nat.ne_of_lt (Nat.lt_add_right 3 lb')) (Nat.ne_of_lt lb') (Nat.ne_of_lt (Nat.lt_add_right 1 lb')) (hk _ _ e)
      obtain ⟨ga, gb, gc⟩ := g2
      have hi : ∀ (j : Nat) (T : Addr), acc[j]? = some (.ref T) → h'.objs.size + 1 ≤ T := fun j T e => by
        obtain ⟨T', x, y, q1, _, _, _, q5⟩ := gb j _ e
        cases q1; exact q5
      have noT : ∀ b, b < s1.heap.objs.size → ¬ ∃ (j : Nat) (x y : V), acc[j]? = some (.ref b) ∧ xs[j]? = some x ∧ ys[j]? = some y := fun b hb ⟨j, x, y, e, _⟩ => by
        exact Nat.lt_irrefl _ (Nat.lt_of_lt_of_le (Nat.lt_trans (lo hb) (Nat.lt_succ_self _)) (hi j b e))
      have nq : ∀ b, b < s1.heap.objs.size → b ≠ h'.objs.size := fun b hb => Nat.ne_of_lt (lo hb)
      have low : ∀ b, b < s1.heap.objs.size → zipHp H1 h'.objs.size acc xs ys b = H1 b := fun b hb => by
        unfold zipHp
        rw [if_neg (nq b hb), dif_neg (noT b hb)]
      have zl : (acc.toList.map fun v => match v with | .ref T => V.ref T | _ => V.non).length = xs.length := by
        rw [List.length_map, Array.length_toList, ga, e1]
      have I3 : L2.Inv X pins σ (zipHp H1 h'.objs.size acc xs ys) { s1 with heap := h3, toks := s1.toks } := by
        refine I1.many k3 (fun b u e => by rw [low b (I1.hok.lt e)]; exact e) (fun b hb e => by rw [low b hb]; exact e) fun b u e e0 => ?_
        unfold zipHp at e
        split at e
        · rename_i eb
          cases e
          rw [eb]
          refine ⟨by rw [zl]; exact hz1, acc.toList, c, vals_of_at (by rw [List.length_map]) fun j x w hx hw => ?_, by rw [Array.toArray_toList]; exact g1⟩
          rw [List.getElem?_map, hw] at hx
          obtain ⟨T, u, v, q1, _⟩ := gb j w (by rw [← Array.getElem?_toList]; exact hw)
          subst q1
          cases hx
          rfl
        · split at e
          · rename_i hT
            cases e
            obtain ⟨q1, q2, q3⟩ := hT.choose_spec.choose_spec.choose_spec
            obtain ⟨T, u, v, r1, r2, r3, r4, _⟩ := gb _ _ q1
            cases r1
            obtain ⟨u', hu', ru⟩ := rv.get q2
            obtain ⟨v', hv', rv'⟩ := rv2.get q3
            have r3 : its[hT.choose]? = some u := by simpa using r3
            have r4 : its2[hT.choose]? = some v := by simpa using r4
            rw [hu'] at r3; cases r3
            rw [hv'] at r4; cases r4
            exact ⟨by show 2 ≤ sizeLine; decide, [u, v], .cons ru (.cons rv' .nil), ⟨_, r2, rfl, _, rfl⟩⟩
          · rw [e0] at e; cases e
      have sm : ∀ b u, H1 b = some u → zipHp H1 h'.objs.size acc xs ys b = some u := fun b u e => by rw [low b (I1.hok.lt e)]; exact e
      have hq : zipHp H1 h'.objs.size acc xs ys h'.objs.size = some (.lst (acc.toList.map fun v => match v with | .ref T => V.ref T | _ => V.non)) := by
        unfold zipHp
        rw [if_pos rfl]
      refine ⟨.ref h'.objs.size, zipHp H1 h'.objs.size acc xs ys, I3, rfl, q _ _ _ (I1.hok.fresh (by rw [hsz]; exact Nat.le_add_right _ _)) sm hq zl fun j z ez => ?_⟩
      rw [List.getElem?_map] at ez
      cases ew : acc.toList[j]? with
      | none => rw [ew] at ez; cases ez
      | some w =>
        rw [ew] at ez
        have ew : acc[j]? = some w := by rw [← Array.getElem?_toList]; exact ew
        obtain ⟨T, u, v, r1, r2, r3, r4, r5⟩ := gb j w ew
        subst r1
        cases ez
        have jl : j < xs.length := by
          rw [e1]
          have r3 : its[j]? = some u := by simpa using r3
          exact (List.getElem?_eq_some_iff.mp r3).1
        have ex : ∃ (j : Nat) (x y : V), acc[j]? = some (.ref T) ∧ xs[j]? = some x ∧ ys[j]? = some y := ⟨j, xs[j], ys[j]'(by omega), ew, List.getElem?_eq_getElem jl, List.getElem?_eq_getElem _⟩
        obtain ⟨q1, q2, q3⟩ := ex.choose_spec.choose_spec.choose_spec
        have ej := gc _ _ _ q1 ew
        refine ⟨T, _, _, rfl, ?_, by rw [← ej]; exact q2, by rw [← ej]; exact q3⟩
        unfold zipHp
        rw [if_neg (Nat.ne_of_gt (Nat.lt_of_lt_of_le (Nat.lt_succ_self _) r5)), dif_pos ex]
end Up

set_option Elab.async false
set_option linter.all false
set_option maxRecDepth 100000
set_option maxHeartbeats 4000000
set_option exponentiation.threshold 200000
namespace Up
open PySem PySem.Spec PyProof.Rows L2
local macro_rules | `(tactic| walk_at "u") => `(tactic| first
  | with_reducible refine g_seq ?_
  | with_reducible refine g_asg ?_
  | with_reducible refine g_op ?_
  | ((with_reducible show tVar _ _ _ _); apply g_var; exact rfl)
  | with_reducible refine g_c ?_
  | with_reducible refine g_name ?_
  | with_reducible refine g_ifs ?_
  | with_reducible refine g_tt ?_
  | with_reducible refine g_tB ?_
  | with_reducible refine g_bl ?_
  | with_reducible refine g_ret ?_
  | with_reducible refine g_cb ?_
  | with_reducible refine g_cons ?_
  | with_reducible refine g_nil ?_
  | with_reducible refine g_call ?_
  | with_reducible refine g_and ?_
  | with_reducible refine g_or ?_
  | with_reducible refine g_not ?_
  | with_reducible refine g_andV ?_
  | with_reducible refine g_orV ?_
  | with_reducible refine g_notV ?_
  | with_reducible refine g_if ?_
  | with_reducible refine g_un ?_
  | with_reducible refine g_neg ?_
  | with_reducible refine g_addI ?_
  | with_reducible refine g_subI ?_
  | with_reducible refine g_subB ?_
  | with_reducible refine g_I0 ?_
  | with_reducible refine g_cmpI ?_
  | with_reducible refine g_eqI ?_
  | with_reducible refine g_neI ?_
  | with_reducible refine g_eqS ?_
  | with_reducible refine g_neS ?_
  | with_reducible refine g_eqB ?_
  | with_reducible refine g_neB ?_
  | with_reducible refine g_bits ?_
  | with_reducible refine g_bitsI ?_
  | with_reducible refine g_fld ?_
  | with_reducible refine g_tup ?_
  | with_reducible refine g_lst ?_
  | with_reducible refine g_gtup ?_
  | with_reducible refine g_make ?_
  | with_reducible refine g_lc ?_
  | with_reducible refine g_yesT ?_
  | with_reducible refine g_intI ?_
  | with_reducible refine g_intB ?_
  | with_reducible refine g_max2 ?_
  | with_reducible refine g_abs1 ?_
  | with_reducible refine g_for ?_
  | with_reducible refine g_iList ?_
  | with_reducible refine g_iTup ?_
  | with_reducible refine g_iRng1 ?_
  | with_reducible refine g_iEnum ?_
  | with_reducible refine g_slice ?_
  | with_reducible refine g_po0 ?_
  | with_reducible refine g_po1 ?_
  | with_reducible refine g_gsub ?_
  | with_reducible refine g_par ?_
  | with_reducible refine g_par2 ?_
  | with_reducible refine g_rfl ?_
  | with_reducible refine g_meth ?_
  | with_reducible refine g_gcons ?_
  | with_reducible refine g_gnil ?_
  | with_reducible refine g_gfld ?_
  | with_reducible refine g_sfld ?_
  | with_reducible refine g_drop ?_
  | with_reducible refine g_next ?_
  | with_reducible refine iteT ?_
  | with_reducible refine iteF ?_)
local macro_rules | `(tactic| walk_at "go") => `(tactic| (repeat walk_at "u"))

section
variable {P : Program} {w : World} {K : PySem.W.Frag} {mg : Str → Option Value} {base : Heap} {C : Addr}
/-! _law_well -/
abbrev s_Lwell : Stmt := top 35
theorem sc_Lwell : FnScope ["_law_cell"] ["_law_cell"] (defScope s_Lwell) := ⟨rfl, rfl, rfl, by decide +kernel, rfl, by decide +kernel, by decide +kernel⟩
def sp_Lwell : Sp := fun vs H Q _ => ∃ n, vs = [.int n] ∧ ∀ a H', H a = none → Same H H' → Well H' a → Q (.ref a) H'
theorem fmod_lt {x m : Int} (h : 0 < m) : 0 ≤ x.fmod m ∧ x.fmod m < m := by
  rw [Int.fmod_eq_emod_of_nonneg _ (by omega)]
  exact ⟨Int.emod_nonneg _ (by omega), Int.emod_lt_of_pos _ h⟩
theorem fdiv_nn {x m : Int} (hx : 0 ≤ x) (h : 0 < m) : 0 ≤ x.fdiv m := by
  rw [Int.fdiv_eq_ediv_of_nonneg _ (by omega)]
  exact Int.ediv_nonneg hx (by omega)
theorem ok_Lwell {f : Addr} {fd : FuncData} (F : FunD K "_law_well" "_law_well" (defArgs s_Lwell) (defBody s_Lwell) (defScope s_Lwell) [] [] f fd) (B : Blt mg) : FnOk P w K mg base CX0 1 f fd ["_law_cell"] sp_Lwell := by
  refine F.ok sc_Lwell (fun vs H Q E h => ?_) (fun cdv A outer s H vs Q E hr h => ?_)
  · obtain ⟨n, rfl, _⟩ := h; rfl
  · obtain ⟨n, rfl, q⟩ := h
    refine ⟨_, PSs.nox (pss_one (ps_ret (pe_lstN (pa_cons (pe_op op_oMul (pv 0) (pe_callTy call_int1 (by rfl) B.int (by decide +kernel) (pa_cons (pe_cmpR op_oGe (pv 0) (pe_op op_oPow pe_int pe_int) (nomark _)) pa_nil))) (pa_cons (pe_op op_oMod (pe_callTy call_int1 (by rfl) B.int (by decide +kernel) (pa_cons (pv 0) pa_nil)) pe_int) (pa_cons pe_int pa_nil)))))), ?_⟩
    walk_at "go"
    refine g_II ⟨by decide, by decide, by decide⟩ ?_
    walk_at "go"
    refine g_mulI (.of_right (by by_cases h : ((10 : Int) ^ (18 : Int).toNat ≤ n) <;> simp only [h, decide_true, decide_false] <;> decide)) ?_
    walk_at "go"
    refine g_modI (by decide) ?_
    walk_at "go"
    refine g_new (sz rfl) fun a H1 na s1 ha _ => ?_
    refine q a H1 na s1 ⟨_, _, _, ha, ?_, (fmod_lt (by decide)).1, (fmod_lt (by decide)).2, by decide⟩
    by_cases h : ((10 : Int) ^ (18 : Int).toNat ≤ n)
    · simp only [h, decide_true, if_true]
      have : (0 : Int) ≤ 10 ^ (18 : Int).toNat := by decide
      omega
    · rw [if_neg (by simpa using h), Int.mul_zero]
      decide
/-! _law_draw -/
abbrev s_Ldraw : Stmt := top 36
theorem sc_Ldraw : FnScope ["_law_well_here", "_law_many", "_law_digit", "_law_number_here"] ["_law_well_here", "_law_many"] (defScope s_Ldraw) := ⟨rfl, rfl, rfl, by decide +kernel, rfl, by decide +kernel, by decide +kernel⟩
def sp_Ldraw : Sp := fun vs H Q _ => ∃ (a : Addr) (m : Int), vs = [.ref a, .int m] ∧ 0 < m ∧ m < 2 ^ 62 ∧ Well H a ∧ ∀ k H', 0 ≤ k → k < m → Stp a H H' → Well H' a → Q (.int k) H'
theorem small_div {m : Int} (h : 0 < m) (h2 : m < 2 ^ 62) : m.natAbs.log2 < 9000 := Nat.lt_trans (log2_lt (k := 62) (by omega) (by decide)) (by decide)
theorem sm31 {x : Int} (h0 : 0 ≤ x) (h1 : x < 2147483648) (y : Int) : IntMulOk x y := .of_left (intBits_le_64 (by omega) (by omega))
theorem sm31r {x : Int} (h0 : 0 ≤ x) (h1 : x < 2147483648) (y : Int) : IntMulOk y x := .of_right (intBits_le_64 (by omega) (by omega))
theorem ok_Ldraw {f : Addr} {fd : FuncData} (F : FunD K "_law_draw" "_law_draw" (defArgs s_Ldraw) (defBody s_Ldraw) (defScope s_Ldraw) [] [] f fd) (B : Blt mg) : FnOk P w K mg base CX0 1 f fd ["_law_well_here", "_law_many"] sp_Ldraw := by
  refine F.ok sc_Ldraw (fun vs H Q E h => ?_) (fun cdv A outer s H vs Q E hr h => ?_)
  · obtain ⟨a, m, rfl, _⟩ := h; rfl
  · obtain ⟨a, m, rfl, m0, m1, ⟨x, y, z, hw, x0, y0, y1, z0⟩, q⟩ := h
    refine ⟨_, PSs.nox (pss_cons (ps_if (pt_cmpR op_oGt (pe_ix ix_seq (pv 0) pe_int (fun _ _ => rfl)) pe_int (nomark _)) (pss_cons (ps_set (i := 2) sc_Ldraw.nd rfl (Or.inl rfl) (pe_op op_oMod (pe_callTy call_int1 (by rfl) B.int (by decide +kernel) (pa_cons (pe_ix ix_seq (pv 0) pe_int (fun _ _ => rfl)) pa_nil)) (pv 1)))
  (pss_cons (ps_asg (pe_op op_oDiv (pe_ix ix_seq (pv 0) pe_int (fun _ _ => rfl)) (pv 1)) (pg_sub (pv 0) pe_int set_list))
  (pss_one (ps_ret (pv 2))))) pss_nil)
  (pss_cons (ps_asg (pe_op op_oAdd (pe_ix ix_seq (pv 0) pe_int (fun _ _ => rfl)) pe_int) (pg_sub (pv 0) pe_int set_list))
  (pss_cons (ps_set (i := 3) sc_Ldraw.nd rfl (Or.inl rfl) (pe_op op_oMod (pe_callTy call_int1 (by rfl) B.int (by decide +kernel) (pa_cons (pe_op op_oAdd (pe_op op_oAdd (pe_op op_oMul (pe_ix ix_seq (pv 0) pe_int (fun _ _ => rfl)) pe_int) (pe_op op_oMul pe_int (pe_ix ix_seq (pv 0) pe_int (fun _ _ => rfl)))) pe_int) pa_nil)) pe_int))
  (pss_cons (ps_set (i := 3) sc_Ldraw.nd rfl (Or.inl rfl) (pe_op op_oMod (pe_callTy call_int1 (by rfl) B.int (by decide +kernel) (pa_cons (pe_op op_oMul (pv 3) (pe_op op_oAdd (pe_op op_oDiv (pv 3) pe_int) pe_int)) pa_nil)) pe_int))
  (pss_cons (ps_set (i := 3) sc_Ldraw.nd rfl (Or.inl rfl) (pe_op op_oMod (pe_callTy call_int1 (by rfl) B.int (by decide +kernel) (pa_cons (pe_op op_oMul (pv 3) (pe_op op_oAdd (pe_op op_oAdd (pe_op op_oDiv (pv 3) pe_int) pe_int) (pe_ix ix_seq (pv 0) pe_int (fun _ _ => rfl)))) pa_nil)) pe_int))
  (pss_one (ps_ret (pe_op op_oMod (pe_callTy call_int1 (by rfl) B.int (by decide +kernel) (pa_cons (pe_op op_oDiv (pv 3) pe_int) pa_nil)) (pv 1))))))))), ?_⟩
    walk_at "go"
    refine g_ixL hw rfl ?_
    walk_at "go"
    refine g_ite (fun hx => ?_) fun hx => ?_
    · walk_at "go"
      refine g_ixL hw rfl ?_
      walk_at "go"
      refine g_modI (by omega) ?_
      walk_at "go"
      refine g_ixL hw rfl ?_
      walk_at "go"
      refine g_divI (by omega) (small_div m0 m1) ?_
      walk_at "go"
      refine g_setL hw rfl fun H1 h1 k1 => ?_
      walk_at "go"
      exact q _ H1 (fmod_lt m0).1 (fmod_lt m0).2 (fun b o n e => (k1 b n).trans e) ⟨_, _, _, h1, fdiv_nn x0 m0, y0, y1, z0⟩
    · walk_at "go"
      refine g_ixL hw rfl ?_
      walk_at "go"
      refine g_setL hw rfl fun H1 h1 k1 => ?_
      walk_at "go"
      refine g_ixL h1 rfl ?_
      walk_at "go"
      refine g_mulI (.of_right (by decide)) ?_
      walk_at "go"
      refine g_ixL h1 rfl ?_
      refine g_mulI (.of_left (by decide)) ?_
      walk_at "go"
      refine g_modI (by decide) ?_
      walk_at "go"
      have b1 := fmod_lt (x := y * 48271 + 30103 * (z + 1) + 11) (m := 2147483647) (by decide)
      refine g_divI (by decide) (by decide) ?_
      walk_at "go"
      refine g_mulI (sm31 b1.1 (by omega) _) ?_
      walk_at "go"
      refine g_modI (by decide) ?_
      walk_at "go"
      generalize (y * 48271 + 30103 * (z + 1) + 11).fmod 2147483647 = u1 at *
      have b2 := fmod_lt (x := u1 * (u1.fdiv 1009 + 69621)) (m := 2147483629) (by decide)
      refine g_divI (by decide) (by decide) ?_
      walk_at "go"
      refine g_ixL h1 rfl ?_
      walk_at "go"
      refine g_mulI (sm31 b2.1 (by omega) _) ?_
      walk_at "go"
      refine g_modI (by decide) ?_
      walk_at "go"
      refine g_divI (by decide) (by decide) ?_
      walk_at "go"
      refine g_modI (by omega) ?_
      exact q _ H1 (fmod_lt m0).1 (fmod_lt m0).2 (fun b o n e => (k1 b n).trans e) ⟨_, _, _, h1, x0, y0, y1, by omega⟩
/-! _law_one -/
abbrev s_Lone : Stmt := top 37
theorem sc_Lone : FnScope ["_law_well_here", "_law_some"] ["_law_well_here", "_law_some"] (defScope s_Lone) := ⟨rfl, rfl, rfl, by decide +kernel, rfl, by decide +kernel, by decide +kernel⟩
def sp_Lone : Sp := fun vs H Q _ => ∃ (a l : Addr) (xs : List V), vs = [.ref a, .ref l] ∧ Well H a ∧ H l = some (.lst xs) ∧ l ≠ a ∧ 0 < xs.length ∧ xs.length < 1000 ∧ ∀ v H', v ∈ xs → Stp a H H' → Well H' a → Q v H'
theorem ok_Lone {f : Addr} {fd : FuncData} (F : FunD K "_law_one" "_law_one" (defArgs s_Lone) (defBody s_Lone) (defScope s_Lone) [] [] f fd) (B : Blt mg) (c_Ldraw : Fn P w K mg base CX0 1 "_law_draw" ["_law_well_here", "_law_many"] [] sp_Ldraw) : FnOk P w K mg base CX0 2 f fd ["_law_well_here", "_law_some"] sp_Lone := by
  refine F.ok sc_Lone (fun vs H Q E h => ?_) (fun cdv A outer s H vs Q E hr h => ?_)
  · obtain ⟨a, l, xs, rfl, _⟩ := h; rfl
  · obtain ⟨a, l, xs, rfl, hw, hl, ne, x0, x1, q⟩ := h
    refine ⟨_, PSs.nox (pss_one (ps_ret (pe_ix ix_seq (pv 1) (pe_fn c_Ldraw (hr.mono (by first | decide | omega)) pass0 (pa_cons (pv 0) (pa_cons (pe_callB call_len_seq (by rfl) B.len (by decide +kernel) (pa_cons (pv 1) pa_nil)) pa_nil))) (fun _ _ => rfl)))), ?_⟩
    walk_at "go"
    refine g_lenL hl ?_
    walk_at "go"
    refine ⟨a, _, rfl, by omega, by omega, hw, fun k H1 k0 k1 s1 hw1 => ?_⟩
    have hi : k.toNat < xs.length := by omega
    refine g_ixL (s1 _ _ ne hl) (v := xs[k.toNat]) ?_ (q _ _ (List.getElem_mem hi) s1 hw1)
    have e : ixN xs.length k = some k.toNat := by unfold ixN; rw [if_pos k0, if_pos k1]
    unfold atI
    rw [e]
    simp [hi]
/-! _law_great -/
abbrev s_Lgreat : Stmt := top 38
theorem sc_Lgreat : FnScope ["_law_well_here", "_law_bits_here", "_law_number_here", "_law_k"] ["_law_well_here", "_law_bits_here"] (defScope s_Lgreat) := ⟨rfl, rfl, rfl, by decide +kernel, rfl, by decide +kernel, by decide +kernel⟩
def sp_Lgreat : Sp := fun vs H Q _ => ∃ (a : Addr) (m : Int), vs = [.ref a, .int m] ∧ 0 ≤ m ∧ m ≤ 1000 ∧ Well H a ∧ ∀ k H', 0 ≤ k → k < 2 ^ m.toNat → Stp a H H' → Well H' a → Q (.int k) H'
theorem ok_Lgreat {f : Addr} {fd : FuncData} (F : FunD K "_law_great" "_law_great" (defArgs s_Lgreat) (defBody s_Lgreat) (defScope s_Lgreat) [] [] f fd) (B : Blt mg) (c_Ldraw : Fn P w K mg base CX0 1 "_law_draw" ["_law_well_here", "_law_many"] [] sp_Ldraw) : FnOk P w K mg base CX0 2 f fd ["_law_well_here", "_law_bits_here"] sp_Lgreat := by
  refine F.ok sc_Lgreat (fun vs H Q E h => ?_) (fun cdv A outer s H vs Q E hr h => ?_)
  · obtain ⟨a, m, rfl, _⟩ := h; rfl
  · obtain ⟨a, m, rfl, m0, m1, hw, q⟩ := h
    refine ⟨_, PSs.nox (pss_cons (ps_set (i := 2) sc_Lgreat.nd rfl (Or.inl rfl) pe_int)
  (pss_cons (ps_for PassesOwn.never rfl (pi_range1 (by rfl) B.range (pa_cons (pe_op op_oAdd pe_int (pe_op op_oDiv (pv 1) pe_int)) pa_nil)) (pg_name (i := 3) sc_Lgreat.nd rfl (Or.inl rfl))
    (pss_one (ps_set (i := 2) sc_Lgreat.nd rfl (Or.inl rfl) (pe_op op_oAdd (pe_op op_oMul (pv 2) pe_int) (pe_fn c_Ldraw (hr.mono (by first | decide | omega)) pass0 (pa_cons (pv 0) (pa_cons pe_int pa_nil)))))))
  (pss_one (ps_ret (pe_op op_oMod (pe_callTy call_int1 (by rfl) B.int (by decide +kernel) (pa_cons (pv 2) pa_nil)) (pe_op op_oShl pe_int (pv 1))))))), ?_⟩
    walk_at "go"
    refine g_divI (by decide) (by decide) ?_
    walk_at "go"
    have e0 : m.fdiv 20 = m / 20 := Int.fdiv_eq_ediv_of_nonneg _ (by decide)
    refine ⟨by omega, by omega, ?_⟩
    refine for_range (fun i σ' H' => ∃ (n : Int) (v : Option V), σ' = [some (.ref a), some (.int m), some (.int n), v] ∧ Stp a H H' ∧ Well H' a) ⟨0, none, rfl, Stp.refl _ _, hw⟩ ?_ ?_
    · rintro i _ H1 hi ⟨n, v, rfl, s1, hw1⟩
      walk_at "go"
      refine g_mulI (.of_right (by decide)) ?_
      walk_at "go"
      refine ⟨a, _, rfl, by decide, by decide, hw1, fun k H2 k0 k1 s2 hw2 => ?_⟩
      walk_at "go"
      exact ⟨_, _, rfl, s1.trans s2, hw2⟩
    · rintro _ H1 ⟨n, v, rfl, s1, hw1⟩
      walk_at "go"
      refine g_II (shl_small m0 (by omega) (lt_pow_mono (a := 1) (by decide) (by decide))) ?_
      rw [Int.one_mul]
      have hp : (0 : Int) < 2 ^ m.toNat := Int.pow_pos (by decide)
      refine g_modI (by omega) ?_
      exact q _ H1 (fmod_lt hp).1 (fmod_lt hp).2 s1 hw1
end
end Up

set_option Elab.async false
set_option linter.all false
set_option maxRecDepth 100000
set_option maxHeartbeats 4000000
set_option exponentiation.threshold 200000
namespace Up
open PySem PySem.Spec PyProof.Rows L2
local macro_rules | `(tactic| walk_at "u") => `(tactic| first
  | with_reducible refine g_seq ?_
  | with_reducible refine g_asg ?_
  | with_reducible refine g_op ?_
  | ((with_reducible show tVar _ _ _ _); apply g_var; exact rfl)
  | with_reducible refine g_c ?_
  | with_reducible refine g_name ?_
  | with_reducible refine g_ifs ?_
  | with_reducible refine g_tt ?_
  | with_reducible refine g_tB ?_
  | with_reducible refine g_bl ?_
  | with_reducible refine g_ret ?_
  | with_reducible refine g_cb ?_
  | with_reducible refine g_cons ?_
  | with_reducible refine g_nil ?_
  | with_reducible refine g_call ?_
  | with_reducible refine g_and ?_
  | with_reducible refine g_or ?_
  | with_reducible refine g_not ?_
  | with_reducible refine g_andV ?_
  | with_reducible refine g_orV ?_
  | with_reducible refine g_notV ?_
  | with_reducible refine g_if ?_
  | with_reducible refine g_un ?_
  | with_reducible refine g_neg ?_
  | with_reducible refine g_addI ?_
  | with_reducible refine g_subI ?_
  | with_reducible refine g_subB ?_
  | with_reducible refine g_I0 ?_
  | with_reducible refine g_cmpI ?_
  | with_reducible refine g_eqI ?_
  | with_reducible refine g_neI ?_
  | with_reducible refine g_eqS ?_
  | with_reducible refine g_neS ?_
  | with_reducible refine g_eqB ?_
  | with_reducible refine g_neB ?_
  | with_reducible refine g_bits ?_
  | with_reducible refine g_bitsI ?_
  | with_reducible refine g_fld ?_
  | with_reducible refine g_tup ?_
  | with_reducible refine g_lst ?_
  | with_reducible refine g_gtup ?_
  | with_reducible refine g_make ?_
  | with_reducible refine g_lc ?_
  | with_reducible refine g_yesT ?_
  | with_reducible refine g_intI ?_
  | with_reducible refine g_intB ?_
  | with_reducible refine g_max2 ?_
  | with_reducible refine g_abs1 ?_
  | with_reducible refine g_for ?_
  | with_reducible refine g_iList ?_
  | with_reducible refine g_iTup ?_
  | with_reducible refine g_iRng1 ?_
  | with_reducible refine g_iEnum ?_
  | with_reducible refine g_slice ?_
  | with_reducible refine g_po0 ?_
  | with_reducible refine g_po1 ?_
  | with_reducible refine g_gsub ?_
  | with_reducible refine g_par ?_
  | with_reducible refine g_par2 ?_
  | with_reducible refine g_rfl ?_
  | with_reducible refine g_meth ?_
  | with_reducible refine g_gcons ?_
  | with_reducible refine g_gnil ?_
  | with_reducible refine g_gfld ?_
  | with_reducible refine g_sfld ?_
  | with_reducible refine g_drop ?_
  | with_reducible refine g_next ?_
  | with_reducible refine iteT ?_
  | with_reducible refine iteF ?_)
local macro_rules | `(tactic| walk_at "go") => `(tactic| (repeat walk_at "u"))

section
variable {P : Program} {w : World} {K : PySem.W.Frag} {mg : Str → Option Value} {base : Heap} {C : Addr}
/-! _law_finite -/
abbrev s_Lfinite : Stmt := top 39
theorem sc_Lfinite : FnScope ["_law_well_here", "_law_sign", "_law_way", "_law_some"] ["_law_well_here"] (defScope s_Lfinite) := ⟨rfl, rfl, rfl, by decide +kernel, rfl, by decide +kernel, by decide +kernel⟩
def FinD (s t p : Int) : Prop := (s = 1 ∨ s = -1) ∧ 0 ≤ t ∧ t < 2 ^ 53 ∧ -1074 ≤ p ∧ p ≤ 971
def sp_Lfinite : Sp := fun vs H Q _ => ∃ (a : Addr), vs = [.ref a] ∧ Well H a ∧ ∀ b H' s t p, H b = none → Stp a H H' → Well H' a → H' b = some (.tup [.int s, .int t, .int p]) → FinD s t p → Q (.ref b) H'
theorem pow53 {k : Int} {n : Nat} (h : k < 2 ^ n) (hn : n ≤ 53) : k < 2 ^ 53 := by
  have : (2 : Int) ^ n ≤ 2 ^ 53 := by exact_mod_cast Nat.pow_le_pow_right (show 0 < 2 by decide) hn
  omega
theorem ok_Lfinite {f : Addr} {fd : FuncData} (F : FunD K "_law_finite" "_law_finite" (defArgs s_Lfinite) (defBody s_Lfinite) (defScope s_Lfinite) [] [] f fd) (B : Blt mg) (c_Ldraw : Fn P w K mg base CX0 1 "_law_draw" ["_law_well_here", "_law_many"] [] sp_Ldraw) (c_Lone : Fn P w K mg base CX0 2 "_law_one" ["_law_well_here", "_law_some"] [] sp_Lone)
    (c_Lgreat : Fn P w K mg base CX0 2 "_law_great" ["_law_well_here", "_law_bits_here"] [] sp_Lgreat) : FnOk P w K mg base CX0 3 f fd ["_law_well_here"] sp_Lfinite := by
  refine F.ok sc_Lfinite (fun vs H Q E h => ?_) (fun cdv A outer s H vs Q E hr h => ?_)
  · obtain ⟨a, rfl, _⟩ := h; rfl
  · obtain ⟨a, rfl, hw, q⟩ := h
    refine ⟨_, PSs.nox (pss_cons (ps_par (i := 1) (j := 2) rfl sc_Lfinite.nd rfl rfl (by decide) rfl rfl (pa_cons (pe_fn c_Lone (hr.mono (by first | decide | omega)) pass0 (pa_cons (pv 0) (pa_cons (pe_lstN (pa_cons pe_int (pa_cons (pe_un un_neg pe_int) pa_nil))) pa_nil))) (pa_cons (pe_fn c_Ldraw (hr.mono (by first | decide | omega)) pass0 (pa_cons (pv 0) (pa_cons pe_int pa_nil))) pa_nil)) (by rfl))
  (pss_cons (ps_if (pt_cmpR (op_oEq hr.units) (pv 2) pe_int (nomark _)) (pss_one (ps_ret (pe_tupN (pa_cons (pv 1) (pa_cons pe_int (pa_cons pe_int pa_nil)))))) pss_nil)
  (pss_cons (ps_if (pt_cmpR op_oLt (pv 2) pe_int (nomark _)) (pss_one (ps_ret (pe_tupN (pa_cons (pv 1) (pa_cons (pe_fn c_Ldraw (hr.mono (by first | decide | omega)) pass0 (pa_cons (pv 0) (pa_cons pe_int pa_nil))) (pa_cons (pe_fn c_Lone (hr.mono (by first | decide | omega)) pass0 (pa_cons (pv 0) (pa_cons (pe_lstN (pa_cons pe_int (pa_cons pe_int (pa_cons (pe_un un_neg pe_int) (pa_cons (pe_un un_neg pe_int) pa_nil))))) pa_nil))) pa_nil)))))) pss_nil)
  (pss_cons (ps_set (i := 3) sc_Lfinite.nd rfl (Or.inl rfl) (pe_lstN (pa_cons (pe_op op_oSub (pe_fn c_Ldraw (hr.mono (by first | decide | omega)) pass0 (pa_cons (pv 0) (pa_cons pe_int pa_nil))) pe_int) (pa_cons (pe_op op_oSub pe_int (pe_fn c_Ldraw (hr.mono (by first | decide | omega)) pass0 (pa_cons (pv 0) (pa_cons pe_int pa_nil)))) (pa_cons (pe_fn c_Ldraw (hr.mono (by first | decide | omega)) pass0 (pa_cons (pv 0) (pa_cons pe_int pa_nil))) (pa_cons (pe_op op_oSub pe_int (pe_fn c_Ldraw (hr.mono (by first | decide | omega)) pass0 (pa_cons (pv 0) (pa_cons pe_int pa_nil)))) pa_nil))))))
  (pss_cons (ps_set (i := 3) sc_Lfinite.nd rfl (Or.inl rfl) (pe_op op_oAdd (pv 3) (pe_lstN (pa_cons (pe_op op_oSub (pe_un un_neg pe_int) (pe_fn c_Ldraw (hr.mono (by first | decide | omega)) pass0 (pa_cons (pv 0) (pa_cons pe_int pa_nil)))) (pa_cons (pe_op op_oSub (pe_fn c_Ldraw (hr.mono (by first | decide | omega)) pass0 (pa_cons (pv 0) (pa_cons pe_int pa_nil))) pe_int) pa_nil)))))
  (pss_one (ps_ret (pe_tupN (pa_cons (pv 1) (pa_cons (pe_fn c_Lgreat (hr.mono (by first | decide | omega)) pass0 (pa_cons (pv 0) (pa_cons (pe_fn c_Lone (hr.mono (by first | decide | omega)) pass0 (pa_cons (pv 0) (pa_cons (pe_lstN (pa_cons pe_int (pa_cons pe_int (pa_cons pe_int (pa_cons pe_int pa_nil))))) pa_nil))) pa_nil))) (pa_cons (pe_callB (call_min2 rfl) (by rfl) B.min (by decide +kernel) (pa_cons pe_int (pa_cons (pe_fn c_Lone (hr.mono (by first | decide | omega)) pass0 (pa_cons (pv 0) (pa_cons (pv 3) pa_nil))) pa_nil))) pa_nil))))))))))), ?_⟩
    walk_at "go"
    refine g_new (sz rfl) fun l1 H1 n1 s1 h1 _ => ?_
    refine ⟨a, l1, _, rfl, hw.same s1, h1, hw.ne_none n1, by decide, by decide, fun v H2 hv s2 hw2 => ?_⟩
    have S2 := (Stp.of (w := a) s1).trans s2
    obtain ⟨sg, rfl, hs⟩ : ∃ sg, v = .int sg ∧ (sg = 1 ∨ sg = -1) := by
      simp only [List.mem_cons, List.not_mem_nil, or_false] at hv
      rcases hv with rfl | rfl
      · exact ⟨_, rfl, .inl rfl⟩
      · exact ⟨_, rfl, .inr rfl⟩
    walk_at "go"
    refine ⟨a, _, rfl, by decide, by decide, hw2, fun k H3 k0 k1 s3 hw3 => ?_⟩
    have S3 := S2.trans s3
    walk_at "go"
    refine g_ite (fun hk => ?_) fun hk => ?_
    · walk_at "go"
      refine g_new (sz rfl) fun b H4 n4 s4 h4 _ => ?_
      exact q b H4 _ _ _ (S3.free hw3 n4) (S3.trans (Stp.of s4)) (hw3.same s4) h4 ⟨hs, by decide, by decide, by decide, by decide⟩
    · walk_at "go"
      refine g_ite (fun hk4 => ?_) fun hk4 => ?_
      · walk_at "go"
        refine ⟨a, _, rfl, by decide, by decide, hw3, fun t H4 t0 t1 s4 hw4 => ?_⟩
        have S4 := S3.trans s4
        walk_at "go"
        refine g_new (sz rfl) fun l5 H5 n5 s5 h5 _ => ?_
        refine ⟨a, l5, _, rfl, hw4.same s5, h5, hw4.ne_none n5, by decide, by decide, fun v H6 hv s6 hw6 => ?_⟩
        have S6 := (S4.trans (Stp.of s5)).trans s6
        obtain ⟨p, rfl, hp⟩ : ∃ p, v = .int p ∧ -1074 ≤ p ∧ p ≤ 971 := by
          simp only [List.mem_cons, List.not_mem_nil, or_false] at hv
          rcases hv with rfl | rfl | rfl | rfl <;> exact ⟨_, rfl, by decide, by decide⟩
        walk_at "go"
        refine g_new (sz rfl) fun b H7 n7 s7 h7 _ => ?_
        exact q b H7 _ _ _ (S6.free hw6 n7) (S6.trans (Stp.of s7)) (hw6.same s7) h7 ⟨hs, t0, by omega, hp.1, hp.2⟩
      · walk_at "go"
        refine ⟨a, _, rfl, by decide, by decide, hw3, fun d1 H4 a1 b1 s4 hw4 => ?_⟩
        walk_at "go"
        refine ⟨a, _, rfl, by decide, by decide, hw4, fun d2 H5 a2 b2 s5 hw5 => ?_⟩
        walk_at "go"
        refine ⟨a, _, rfl, by decide, by decide, hw5, fun d3 H6 a3 b3 s6 hw6 => ?_⟩
        walk_at "go"
        refine ⟨a, _, rfl, by decide, by decide, hw6, fun d4 H7 a4 b4 s7 hw7 => ?_⟩
        have S7 := (((S3.trans s4).trans s5).trans s6).trans s7
        walk_at "go"
        refine g_new (sz rfl) fun l8 H8 n8 s8 h8 _ => ?_
        have S8 := S7.trans (Stp.of s8)
        have hw8 := hw7.same s8
        have l8a := hw7.ne_none n8
        walk_at "go"
        refine ⟨a, _, rfl, by decide, by decide, hw8, fun d5 H9 a5 b5 s9 hw9 => ?_⟩
        walk_at "go"
        refine ⟨a, _, rfl, by decide, by decide, hw9, fun d6 H10 a6 b6 s10 hw10 => ?_⟩
        have S10 := (S8.trans s9).trans s10
        have h8b := s10 _ _ l8a (s9 _ _ l8a h8)
        walk_at "go"
        refine g_new (sz rfl) fun l11 H11 n11 s11 h11 _ => ?_
        refine .inl ⟨l8, l11, _, _, rfl, rfl, SqL.of (s11 _ _ h8b), SqL.of h11, sz rfl, fun l12 H12 n12 s12 h12 _ => ?_⟩
        have S12 := (S10.trans (Stp.of s11)).trans (Stp.of s12)
        have hw12 := (hw10.same s11).same s12
        have l12a := (hw10.same s11).ne_none n12
        walk_at "go"
        refine g_new (sz rfl) fun l13 H13 n13 s13 h13 _ => ?_
        refine ⟨a, l13, _, rfl, hw12.same s13, h13, hw12.ne_none n13, by decide, by decide, fun v H14 hv s14 hw14 => ?_⟩
        have S14 := (S12.trans (Stp.of s13)).trans s14
        obtain ⟨p, rfl, hp⟩ : ∃ p, v = .int p ∧ 0 ≤ p ∧ p ≤ 53 := by
          simp only [List.mem_cons, List.not_mem_nil, or_false] at hv
          rcases hv with rfl | rfl | rfl | rfl <;> exact ⟨_, rfl, by decide, by decide⟩
        walk_at "go"
        refine ⟨a, p, rfl, hp.1, by omega, hw14, fun t H15 t0 t1 s15 hw15 => ?_⟩
        have S15 := S14.trans s15
        have h12b := s15 _ _ l12a (s14 _ _ l12a (s13 _ _ h12))
        walk_at "go"
        refine ⟨a, l12, _, rfl, hw15, h12b, l12a, Nat.lt_of_lt_of_le (by decide : 0 < 6) (Nat.le_refl _), Nat.lt_of_le_of_lt (Nat.le_refl 6) (by decide), fun v H16 hv s16 hw16 => ?_⟩
        have S16 := S15.trans s16
        obtain ⟨u, rfl, hu⟩ : ∃ u, v = .int u ∧ -1074 ≤ u ∧ u ≤ 971 := by
          simp only [List.mem_append, List.mem_cons, List.not_mem_nil, or_false] at hv
          rcases hv with (rfl | rfl | rfl | rfl) | (rfl | rfl) <;> exact ⟨_, rfl, by omega, by omega⟩
        walk_at "go"
        refine g_new (sz rfl) fun b H17 n17 s17 h17 _ => ?_
        refine q b H17 _ _ _ (S16.free hw16 n17) (S16.trans (Stp.of s17)) (hw16.same s17) h17 ⟨hs, t0, pow53 t1 (by omega), ?_, ?_⟩
        · split <;> omega
        · split <;> omega
/-! _law_float -/
abbrev s_Lfloat : Stmt := top 40
theorem sc_Lfloat : FnScope ["_law_well_here", "_law_sign", "_law_top", "_law_power"] ["_law_well_here"] (defScope s_Lfloat) := ⟨rfl, rfl, rfl, by decide +kernel, rfl, by decide +kernel, by decide +kernel⟩
theorem FlAt.stp {a b : Addr} {H H' : Hp} {s : Int} {t : V} {p : Int} (h : FlAt C H b s t p) (hw : Well H a) (e : Stp a H H') : FlAt C H' b s t p := by
  obtain ⟨dx, h⟩ := h
  exact ⟨dx, e.ins hw h⟩
theorem NumAt.stp {a : Addr} {H H' : Hp} {v : V} (hw : Well H a) (e : Stp a H H') : ∀ {n : Nm}, NumAt C H v n → NumAt C H' v n
  | .i _, h => h
  | .f _ _ _, ⟨b, z, h, k⟩ => ⟨b, z, h.stp hw e, k⟩
theorem mk_nan : MkOk 1 (.str "nan") 0 := ⟨.inl rfl, .inl ⟨rfl, rfl, rfl⟩⟩
theorem FinD.mk {s t p : Int} (h : FinD s t p) : MkOk s (.int t) p := by
  obtain ⟨hs, t0, t1, p0, p1⟩ := h
  obtain ⟨n, rfl⟩ := Int.eq_ofNat_of_zero_le t0
  have hb : bitsN n ≤ 53 := bits_le (by omega)
  exact mk_of_flok hs (by omega) p0 (by omega)
def sp_Lfloat (C : Addr) : Sp := fun vs H Q _ => ∃ (a : Addr), vs = [.ref a] ∧ Well H a ∧ ∀ v H' s t p, Stp a H H' → Well H' a → NumAt C H' v (.f s t p) → Q v H'
theorem ok_Lfloat {f : Addr} {fd : FuncData} (F : FunD K "_law_float" "_law_float" (defArgs s_Lfloat) (defBody s_Lfloat) (defScope s_Lfloat) [] [] f fd) (B : Blt mg) (c_Float : CnF P w K mg base C) (c_Ldraw : Fn P w K mg base CX0 1 "_law_draw" ["_law_well_here", "_law_many"] [] sp_Ldraw) (c_Lone : Fn P w K mg base CX0 2 "_law_one" ["_law_well_here", "_law_some"] [] sp_Lone)
    (c_Lfinite : Fn P w K mg base CX0 3 "_law_finite" ["_law_well_here"] [] sp_Lfinite) : FnOk P w K mg base CX0 4 f fd ["_law_well_here"] (sp_Lfloat C) := by
  refine F.ok sc_Lfloat (fun vs H Q E h => ?_) (fun cdv A outer s H vs Q E hr h => ?_)
  · obtain ⟨a, rfl, _⟩ := h; rfl
  · obtain ⟨a, rfl, hw, q⟩ := h
    refine ⟨_, PSs.nox (pss_cons (ps_if (pt_cmpR (op_oEq hr.units) (pe_fn c_Ldraw (hr.mono (by first | decide | omega)) pass0 (pa_cons (pv 0) (pa_cons pe_int pa_nil))) pe_int (nomark _)) (pss_one (ps_ret (pe_fn c_Lone (hr.mono (by first | decide | omega)) pass0 (pa_cons (pv 0) (pa_cons (pe_lstN (pa_cons (pe_cn c_Float (hr.mono (by first | decide | omega)) pass0 (pa_cons pe_int (pa_cons pe_str (pa_cons pe_int pa_nil)))) (pa_cons (pe_cn c_Float (hr.mono (by first | decide | omega)) pass0 (pa_cons (pe_un un_neg pe_int) (pa_cons pe_str (pa_cons pe_int pa_nil)))) (pa_cons (pe_cn c_Float (hr.mono (by first | decide | omega)) pass0 (pa_cons pe_int (pa_cons pe_str (pa_cons pe_int pa_nil)))) pa_nil)))) pa_nil))))) pss_nil)
  (pss_cons (ps_asg (pe_fn c_Lfinite (hr.mono (by first | decide | omega)) pass0 (pa_cons (pv 0) pa_nil)) (pg_tup rfl (pgs_cons (pg_name (i := 1) sc_Lfloat.nd rfl (Or.inl rfl)) (pgs_cons (pg_name (i := 2) sc_Lfloat.nd rfl (Or.inl rfl)) (pgs_cons (pg_name (i := 3) sc_Lfloat.nd rfl (Or.inl rfl)) pgs_nil)))))
  (pss_one (ps_ret (pe_cn c_Float (hr.mono (by first | decide | omega)) pass0 (pa_cons (pv 1) (pa_cons (pv 2) (pa_cons (pv 3) pa_nil)))))))), ?_⟩
    walk_at "go"
    refine ⟨a, _, rfl, by decide, by decide, hw, fun k H1 k0 k1 s1 hw1 => ?_⟩
    walk_at "go"
    refine g_ite (fun hk => ?_) fun hk => ?_
    · walk_at "go"
      refine mkF (mk_inf (.inl rfl)) fun H2 x2 n2 s2 h2 => ?_
      walk_at "go"
      refine mkF (mk_inf (.inr rfl)) fun H3 x3 n3 s3 h3 => ?_
      walk_at "go"
      refine mkF mk_nan fun H4 x4 n4 s4 h4 => ?_
      walk_at "go"
      refine g_new (sz rfl) fun l5 H5 n5 s5 h5 _ => ?_
      have S5 := ((s2.trans s3).trans s4).trans s5
      have hw4 := hw1.same ((s2.trans s3).trans s4)
      refine ⟨a, l5, _, rfl, hw4.same s5, h5, hw4.ne_none n5, by simp, by simp, fun v H6 hv s6 hw6 => ?_⟩
      have g : ∀ x (sg : Int) (tp : V) (p : Int), MkOk sg tp p → FlAt C H5 x sg (redV tp p).1 (redV tp p).2 → NumAt C H6 (.ref x) (.f sg (redV tp p).1 (redV tp p).2) := fun x sg tp p hm h => ⟨x, rfl, h.stp (hw4.same s5) s6, mk_flok hm⟩
      have T6 := (s1.trans (Stp.of S5)).trans s6
      simp only [List.mem_cons, List.not_mem_nil, or_false] at hv
      rcases hv with rfl | rfl | rfl
      · exact q _ _ _ _ _ T6 hw6 (g _ _ _ _ (mk_inf (.inl rfl)) (h2.same ((s3.trans s4).trans s5)))
      · exact q _ _ _ _ _ T6 hw6 (g _ _ _ _ (mk_inf (.inr rfl)) (h3.same (s4.trans s5)))
      · exact q _ _ _ _ _ T6 hw6 (g _ _ _ _ mk_nan (h4.same s5))
    · walk_at "go"
      refine ⟨a, rfl, hw1, fun b H2 sg t p n2 s2 hw2 h2 hd => ?_⟩
      walk_at "go"
      refine ⟨b, _, rfl, SqT.of h2, rfl, ?_⟩
      walk_at "go"
      refine mkF hd.mk fun H3 x3 n3 s3 h3 => ?_
      exact q _ _ _ _ _ ((s1.trans s2).trans (Stp.of s3)) (hw2.same s3) ⟨x3, rfl, h3, mk_flok hd.mk⟩
end
end Up

set_option Elab.async false
set_option linter.all false
set_option pp.maxSteps 600
set_option maxRecDepth 100000
set_option maxHeartbeats 4000000
set_option exponentiation.threshold 200000
namespace Up
open PySem PySem.Spec PyProof.Rows L2
local macro_rules | `(tactic| walk_at "u") => `(tactic| first
  | with_reducible refine g_seq ?_
  | with_reducible refine g_asg ?_
  | with_reducible refine g_op ?_
  | ((with_reducible show tVar _ _ _ _); apply g_var; exact rfl)
  | with_reducible refine g_c ?_
  | with_reducible refine g_name ?_
  | with_reducible refine g_ifs ?_
  | with_reducible refine g_tt ?_
  | with_reducible refine g_tB ?_
  | with_reducible refine g_bl ?_
  | with_reducible refine g_ret ?_
  | with_reducible refine g_cb ?_
  | with_reducible refine g_cons ?_
  | with_reducible refine g_nil ?_
  | with_reducible refine g_call ?_
  | with_reducible refine g_and ?_
  | with_reducible refine g_or ?_
  | with_reducible refine g_not ?_
  | with_reducible refine g_andV ?_
  | with_reducible refine g_orV ?_
  | with_reducible refine g_notV ?_
  | with_reducible refine g_if ?_
  | with_reducible refine g_un ?_
  | with_reducible refine g_neg ?_
  | with_reducible refine g_addI ?_
  | with_reducible refine g_subI ?_
  | with_reducible refine g_subB ?_
  | with_reducible refine g_I0 ?_
  | with_reducible refine g_cmpI ?_
  | with_reducible refine g_eqI ?_
  | with_reducible refine g_neI ?_
  | with_reducible refine g_eqS ?_
  | with_reducible refine g_neS ?_
  | with_reducible refine g_eqB ?_
  | with_reducible refine g_neB ?_
  | with_reducible refine g_bits ?_
  | with_reducible refine g_bitsI ?_
  | with_reducible refine g_fld ?_
  | with_reducible refine g_tup ?_
  | with_reducible refine g_lst ?_
  | with_reducible refine g_gtup ?_
  | with_reducible refine g_make ?_
  | with_reducible refine g_lc ?_
  | with_reducible refine g_yesT ?_
  | with_reducible refine g_intI ?_
  | with_reducible refine g_intB ?_
  | with_reducible refine g_max2 ?_
  | with_reducible refine g_abs1 ?_
  | with_reducible refine g_for ?_
  | with_reducible refine g_iList ?_
  | with_reducible refine g_iTup ?_
  | with_reducible refine g_iRng1 ?_
  | with_reducible refine g_iEnum ?_
  | with_reducible refine g_slice ?_
  | with_reducible refine g_po0 ?_
  | with_reducible refine g_po1 ?_
  | with_reducible refine g_gsub ?_
  | with_reducible refine g_par ?_
  | with_reducible refine g_par2 ?_
  | with_reducible refine g_rfl ?_
  | with_reducible refine g_meth ?_
  | with_reducible refine g_gcons ?_
  | with_reducible refine g_gnil ?_
  | with_reducible refine g_gfld ?_
  | with_reducible refine g_sfld ?_
  | with_reducible refine g_drop ?_
  | with_reducible refine g_next ?_
  | with_reducible refine iteT ?_
  | with_reducible refine iteF ?_)
local macro_rules | `(tactic| walk_at "go") => `(tactic| (repeat walk_at "u"))
local macro_rules | `(tactic| walk_at "f") => `(tactic| (repeat (first
  | walk_at "u"
  | with_reducible refine g_chain ?_
  | with_reducible refine g_par3 ?_
  | with_reducible refine g_par3' ?_
  | ((with_reducible refine show_ex ?_); first
    | refine fT (by assumption) (by assumption) ?_
    | refine fS (by assumption) (by assumption) ?_
    | refine fP (by assumption) (by assumption) ?_))))

section
variable {P : Program} {w : World} {K : PySem.W.Frag} {mg : Str → Option Value} {base : Heap} {C CT : Addr}
def oW : Option Int → V
  | some i => .int i
  | none => .non
/-! wrapped -/
abbrev s_wrapped : Stmt := top 20
theorem sc_wrapped : FnScope ["number"] ["number"] (defScope s_wrapped) := ⟨rfl, rfl, rfl, by decide +kernel, rfl, by decide +kernel, by decide +kernel⟩
def wrapI (n : Int) : Int := (n + 9223372036854775808).fmod 18446744073709551616 - 9223372036854775808
def sp_wrapped : Sp := fun vs H Q _ => ∃ n, vs = [.int n] ∧ Q (.int (wrapI n)) H
theorem ok_wrapped {f : Addr} {fd : FuncData} (F : FunD K "wrapped" "wrapped" (defArgs s_wrapped) (defBody s_wrapped) (defScope s_wrapped) [] [] f fd) : FnOk P w K mg base CX0 1 f fd ["number"] sp_wrapped := by
  refine F.ok sc_wrapped (fun vs H Q E h => ?_) (fun cdv A outer s H vs Q E hr h => ?_)
  · obtain ⟨_, rfl, _⟩ := h; rfl
  · obtain ⟨n, rfl, q⟩ := h
    refine ⟨_, PSs.nox (pss_one (ps_ret (pe_op op_oSub (pe_op op_oMod (pe_op op_oAdd (pv 0) (pe_op op_oPow pe_int pe_int)) (pe_op op_oPow pe_int pe_int)) (pe_op op_oPow pe_int pe_int)))), ?_⟩
    have e63 : (2 : Int) ^ Int.toNat 63 = 9223372036854775808 := by decide
    have e64 : (2 : Int) ^ Int.toNat 64 = 18446744073709551616 := by decide
    walk_at "f"
    refine g_II ⟨by decide, by decide, by decide⟩ ?_
    rw [e63]
    walk_at "f"
    refine g_II ⟨by decide, by decide, by decide⟩ ?_
    rw [e64]
    refine g_modI (by decide) ?_
    walk_at "f"
    refine g_II ⟨by decide, by decide, by decide⟩ ?_
    rw [e63]
    walk_at "f"
    exact q
/-! whole_of -/
def wholeF (s : Int) : V → Int → Option Int
  | .int m, p => if p < 0 ∨ 64 < ((Builtin.Int.intBits m : Nat) : Int) + p then none else if -9223372036854775808 ≤ s * (m * 2 ^ p.toNat) ∧ s * (m * 2 ^ p.toNat) ≤ 9223372036854775807 then some (s * (m * 2 ^ p.toNat)) else none
  | _, _ => none
def wholeN : Nm → Option Int
  | .i n => some n
  | .f s t p => wholeF s t p
abbrev s_wholeof : Stmt := top 22
theorem sc_wholeof : FnScope ["number", "whole"] ["number"] (defScope s_wholeof) := ⟨rfl, rfl, rfl, by decide +kernel, rfl, by decide +kernel, by decide +kernel⟩
def sp_wholeof (C : Addr) : Sp := fun vs H Q _ => ∃ v n, vs = [v] ∧ NumAt C H v n ∧ ∀ H', Same H H' → Q (oW (wholeN n)) H'
theorem ok_wholeof {f : Addr} {fd : FuncData} (F : FunD K "whole_of" "whole_of" (defArgs s_wholeof) (defBody s_wholeof) (defScope s_wholeof) [] [] f fd) (B : Blt mg) (T : FlC K mg C) (i_LEAST : ∃ t, mg "LEAST" = some (.int (-9223372036854775808) t)) (i_MOST : ∃ t, mg "MOST" = some (.int 9223372036854775807 t))
    (c_isfinite : Mt P w K mg base CX0 1 C "is_finite" ["self"] (sp_isfinite C)) (c_ratio : Mt P w K mg base CX0 1 C "ratio" ["self"] (sp_ratio C)) : FnOk P w K mg base CX0 2 f fd ["number"] (sp_wholeof C) := by
  have g_Float : mg "Float" = some (.ref C) := T.mg
  refine F.ok sc_wholeof (fun vs H Q E h => ?_) (fun cdv A outer s H vs Q E hr h => ?_)
  · obtain ⟨x, t, rfl, _⟩ := h; rfl
  · obtain ⟨v, n, rfl, hn, q⟩ := h
    obtain ⟨t, hk, _, _⟩ := hn.kf T
    refine ⟨_, PSs.nox (pss_cons (ps_if (pt_not (pt_val (pe_callB call_isi (by rfl) B.isinstance (by decide +kernel) (pa_cons (pv 0) (pa_cons (pe_gref g_Float) pa_nil))))) (pss_one (ps_ret (pv 0))) pss_nil)
  (pss_cons (ps_if (PW.pt (pw_or (pt_not (pt_val (pe_mt0 c_isfinite (hr.mono (by first | decide | omega)) pass0 (pv 0)))) (pw_or (pt_cmpR op_oLt (pe_fld (pv 0) rfl) pe_int (nomark _)) (pw_or1 (pt_cmpR op_oGt (pe_op op_oAdd (pe_bits (pe_fld (pv 0) rfl)) (pe_fld (pv 0) rfl)) pe_int (nomark _)))))) (pss_one (ps_ret pe_non)) pss_nil)
  (pss_cons (ps_set (i := 1) sc_wholeof.nd rfl (Or.inl rfl) (pe_ix ix_seq (pe_mt0 c_ratio (hr.mono (by first | decide | omega)) pass0 (pv 0)) pe_int (fun _ _ => rfl)))
  (pss_one (ps_ret (pe_ifExp (pt_chain op_oLe op_oLe (pe_gint i_LEAST) (pv 1) (pe_gint i_MOST)) (pv 1) pe_non)))))), ?_⟩
    walk_at "f"
    refine g_isiF hk ?_
    walk_at "f"
    cases n with
    | i k =>
      have hn : v = .int k := hn
      subst hn
      refine iteT ?_
      walk_at "f"
      exact q H (Same.refl _)
    | f sg tp p =>
      obtain ⟨a, rfl, hf, ho⟩ := hn
      obtain ⟨dx, hd⟩ := id hf
      refine iteF ?_
      walk_at "f"
      refine ⟨a, dx, _, rfl, hd, rfl, ?_⟩
      walk_at "f"
      refine ⟨a, sg, tp, p, rfl, hf, ho, ?_⟩
      walk_at "f"
      rcases id ho.2 with ⟨rfl, _, _⟩ | ⟨rfl, _⟩ | ⟨m, rfl, hfin⟩
      · refine iteT ?_
        refine iteT ?_
        walk_at "f"
        exact q H (Same.refl _)
      · refine iteT ?_
        refine iteT ?_
        walk_at "f"
        exact q H (Same.refl _)
      · refine iteF ?_
        walk_at "f"
        refine g_ite (fun h1 => ?_) fun h1 => ?_
        · refine iteT ?_
          walk_at "f"
          have e : wholeN (.f sg (.int m) p) = none := if_pos (.inl h1)
          rw [e] at q
          exact q H (Same.refl _)
        · walk_at "f"
          refine g_ite (fun h2 => ?_) fun h2 => ?_
          · have e : wholeN (.f sg (.int m) p) = none := if_pos (.inr h2)
            rw [e] at q
            walk_at "f"
            exact q H (Same.refl _)
          · walk_at "f"
            refine ⟨a, dx, _, rfl, hd, rfl, ?_⟩
            walk_at "f"
            refine ⟨a, sg, m, p, rfl, hf, ho, fun H1 b nb s1 hb => ?_⟩
            walk_at "f"
            refine g_ixT hb rfl ?_
            have er : ratN sg m p = sg * (m * 2 ^ p.toNat) := if_neg h1
            rw [er]
            have e : wholeN (.f sg (.int m) p) = if -9223372036854775808 ≤ sg * (m * 2 ^ p.toNat) ∧ sg * (m * 2 ^ p.toNat) ≤ 9223372036854775807 then some (sg * (m * 2 ^ p.toNat)) else none := if_neg (fun z => z.elim h1 h2)
            rw [e] at q
            generalize sg * (m * 2 ^ p.toNat) = y at q ⊢
            walk_at "f"
            refine g_ite (fun h3 => ?_) fun h3 => ?_
            · walk_at "f"
              refine g_ite (fun h4 => ?_) fun h4 => ?_
              · rw [if_pos ⟨h3, h4⟩] at q
                walk_at "f"
                exact q _ s1
              · rw [if_neg (fun z => h4 z.2)] at q
                walk_at "f"
                exact q _ s1
            · rw [if_neg (fun z => h3 z.1)] at q
              walk_at "f"
              exact q _ s1
/-! whole_or_thrown -/
abbrev s_wholeorthrown : Stmt := top 24
theorem sc_wholeorthrown : FnScope ["number", "whole"] ["number"] (defScope s_wholeorthrown) := ⟨rfl, rfl, rfl, by decide +kernel, rfl, by decide +kernel, by decide +kernel⟩
def noInt : Str := "number has no integer representation"
def WhR (CT : Addr) (o : Option Int) (H : Hp) (Q : VK) (E : XK) : Prop := match o with
  | some i => ∀ H', Same H H' → Q (.int i) H'
  | none => ∀ H', Same H H' → ThrR CT (.str noInt) H' E
def sp_wot (C CT : Addr) : Sp := fun vs H Q E => ∃ v n, vs = [v] ∧ NumAt C H v n ∧ WhR CT (wholeN n) H Q E
theorem ok_wot {f : Addr} {fd : FuncData} (F : FunD K "whole_or_thrown" "whole_or_thrown" (defArgs s_wholeorthrown) (defBody s_wholeorthrown) (defScope s_wholeorthrown) [] [] f fd) (c_Thrown : CThr P w K mg base CT) (c_wholeof : Fn P w K mg base CX0 2 "whole_of" ["number"] [] (sp_wholeof C)) :
    FnOk P w K mg base (L2.CX P w) 4 f fd ["number"] (sp_wot C CT) := by
  refine F.ok sc_wholeorthrown (fun vs H Q E h => ?_) (fun cdv A outer s H vs Q E hr h => ?_)
  · obtain ⟨_, _, rfl, _⟩ := h; rfl
  · obtain ⟨v, n, rfl, hn, q⟩ := h
    refine ⟨_, (pss_cons (ps_set (i := 1) sc_wholeorthrown.nd rfl (Or.inl rfl) (pe_fn c_wholeof (hr.mono (by first | decide | omega)) pass0 (pa_cons (pv 0) pa_nil)))
  (pss_cons (ps_if (pt_cmpR op_isN (pv 1) pe_non (nomark _)) (pss_one (ps_thr c_Thrown (hr.mono (by decide)) rfl (takes_of rfl rfl rfl rfl) pe_str)) pss_nil)
  (pss_one (ps_ret (pv 1))))), ?_⟩
    walk_at "f"
    refine ⟨v, n, rfl, hn, fun H1 s1 => ?_⟩
    cases e : wholeN n with
    | some i =>
      rw [e] at q
      walk_at "f"
      refine g_no (fun z => by cases z) ?_
      walk_at "f"
      exact q _ s1
    | none =>
      rw [e] at q
      walk_at "f"
      refine g_yes rfl ?_
      refine g_rai ?_
      refine g_mko ?_
      walk_at "f"
      exact g_thr (q _ s1)
/-! by_bits -/
def Wd5 (c : Str) : Prop := c = "band" ∨ c = "bor" ∨ c = "bxor" ∨ c = "shl" ∨ c = "shr"
def shlV (x m : Int) : Int := if m ≤ -64 ∨ 64 ≤ m then 0 else if m < 0 then wrapI (x.fmod 18446744073709551616 / 2 ^ (0 - m).toNat) else wrapI (x * 2 ^ m.toNat)
def bitsV (c : Str) (x y : Int) : Int := if c = "band" then Builtin.bitAnd x y else if c = "bor" then Builtin.bitOr x y else if c = "bxor" then Builtin.bitXor x y else shlV x (if c = "shl" then y else 0 - y)
theorem shlV_mid {x m : Int} (h1 : ¬ m ≤ -64) (h2 : ¬ 64 ≤ m) : shlV x m = if m < 0 then wrapI (x.fmod 18446744073709551616 / 2 ^ (0 - m).toNat) else wrapI (x * 2 ^ m.toNat) := by
  unfold shlV
  rw [if_neg (fun z => z.elim h1 h2)]
theorem shl_ok {x m : Int} (hx : r64 x) (h0 : 0 ≤ m) (h1 : m < 64) : CShl x m := shl_small h0 (by omega) (lt_pow_mono (a := 64) (by unfold r64 at hx; omega) (by decide))
abbrev s_bybits : Stmt := top 25
theorem sc_bybits : FnScope ["word", "one", "other", "many"] ["word", "one", "other"] (defScope s_bybits) := ⟨rfl, rfl, rfl, by decide +kernel, rfl, by decide +kernel, by decide +kernel⟩
def sp_bybits : Sp := fun vs H Q _ => ∃ (c : Str) (x y : Int), vs = [.str c, .int x, .int y] ∧ Wd5 c ∧ r64 x ∧ r64 y ∧ Q (.int (bitsV c x y)) H
theorem ok_bybits {f : Addr} {fd : FuncData} (F : FunD K "by_bits" "by_bits" (defArgs s_bybits) (defBody s_bybits) (defScope s_bybits) [] [] f fd) (c_wrapped : Fn P w K mg base CX0 1 "wrapped" ["number"] [] sp_wrapped) : FnOk P w K mg base CX0 2 f fd ["word", "one", "other"] sp_bybits := by
  refine F.ok sc_bybits (fun vs H Q E h => ?_) (fun cdv A outer s H vs Q E hr h => ?_)
  · obtain ⟨_, _, _, rfl, _⟩ := h; rfl
  · obtain ⟨c, x, y, rfl, hc, hx, hy, q⟩ := h
    refine ⟨_, PSs.nox (pss_cons (ps_if (pt_cmpR (op_oEq hr.units) (pv 0) pe_str (nomark _)) (pss_one (ps_ret (pe_op op_oAnd (pv 1) (pv 2)))) pss_nil)
  (pss_cons (ps_if (pt_cmpR (op_oEq hr.units) (pv 0) pe_str (nomark _)) (pss_one (ps_ret (pe_op op_oOr (pv 1) (pv 2)))) pss_nil)
  (pss_cons (ps_if (pt_cmpR (op_oEq hr.units) (pv 0) pe_str (nomark _)) (pss_one (ps_ret (pe_op op_oXor (pv 1) (pv 2)))) pss_nil)
  (pss_cons (ps_set (i := 3) sc_bybits.nd rfl (Or.inl rfl) (pe_ifExp (pt_cmpR (op_oEq hr.units) (pv 0) pe_str (nomark _)) (pv 2) (pe_op op_oSub pe_int (pv 2))))
  (pss_cons (ps_if (PW.pt (pw_or (pt_cmpR op_oLe (pv 3) (pe_un un_neg pe_int) (nomark _)) (pw_or1 (pt_cmpR op_oGe (pv 3) pe_int (nomark _))))) (pss_one (ps_ret pe_int)) pss_nil)
  (pss_cons (ps_if (pt_cmpR op_oLt (pv 3) pe_int (nomark _)) (pss_one (ps_ret (pe_fn c_wrapped (hr.mono (by first | decide | omega)) pass0 (pa_cons (pe_op op_oShr (pe_op op_oMod (pv 1) (pe_op op_oPow pe_int pe_int)) (pe_op op_oSub pe_int (pv 3))) pa_nil)))) pss_nil)
  (pss_one (ps_ret (pe_fn c_wrapped (hr.mono (by first | decide | omega)) pass0 (pa_cons (pe_op op_oShl (pv 1) (pv 3)) pa_nil)))))))))), ?_⟩
    walk_at "f"
    rcases hc with rfl | rfl | rfl | rfl | rfl
    · refine g_yes rfl ?_
      walk_at "f"
      exact q
    · refine g_no (by decide) ?_
      walk_at "f"
      refine g_yes rfl ?_
      walk_at "f"
      exact q
    · refine g_no (by decide) ?_
      walk_at "f"
      refine g_no (by decide) ?_
      walk_at "f"
      refine g_yes rfl ?_
      walk_at "f"
      exact q
    · refine g_no (by decide) ?_
      walk_at "f"
      refine g_no (by decide) ?_
      walk_at "f"
      refine g_no (by decide) ?_
      walk_at "f"
      refine g_yes rfl ?_
      walk_at "f"
      have q : Q (.int (shlV x y)) H := q
      generalize y = m at q hy ⊢
      refine g_ite (fun h1 => ?_) fun h1 => ?_
      · have e : shlV x m = 0 := if_pos (.inl h1)
        rw [e] at q
        walk_at "f"
        exact q
      · walk_at "f"
        refine g_ite (fun h2 => ?_) fun h2 => ?_
        · have e : shlV x m = 0 := if_pos (.inr h2)
          rw [e] at q
          walk_at "f"
          exact q
        · rw [shlV_mid h1 h2] at q
          walk_at "f"
          refine g_ite (fun h3 => ?_) fun h3 => ?_
          · rw [if_pos h3] at q
            walk_at "f"
            refine g_II ⟨by decide, by decide, by decide⟩ ?_
            rw [show (2 : Int) ^ Int.toNat 64 = 18446744073709551616 by decide]
            refine g_modI (by decide) ?_
            walk_at "f"
            refine g_II (by show (0 : Int) ≤ 0 - m; omega) ?_
            walk_at "f"
            exact ⟨_, rfl, q⟩
          · rw [if_neg h3] at q
            walk_at "f"
            refine g_II (shl_ok hx (by omega) (by omega)) ?_
            walk_at "f"
            exact ⟨_, rfl, q⟩
    · refine g_no (by decide) ?_
      walk_at "f"
      refine g_no (by decide) ?_
      walk_at "f"
      refine g_no (by decide) ?_
      walk_at "f"
      refine g_no (by decide) ?_
      walk_at "f"
      have q : Q (.int (shlV x (0 - y))) H := q
      generalize 0 - y = m at q ⊢
      refine g_ite (fun h1 => ?_) fun h1 => ?_
      · have e : shlV x m = 0 := if_pos (.inl h1)
        rw [e] at q
        walk_at "f"
        exact q
      · walk_at "f"
        refine g_ite (fun h2 => ?_) fun h2 => ?_
        · have e : shlV x m = 0 := if_pos (.inr h2)
          rw [e] at q
          walk_at "f"
          exact q
        · rw [shlV_mid h1 h2] at q
          walk_at "f"
          refine g_ite (fun h3 => ?_) fun h3 => ?_
          · rw [if_pos h3] at q
            walk_at "f"
            refine g_II ⟨by decide, by decide, by decide⟩ ?_
            rw [show (2 : Int) ^ Int.toNat 64 = 18446744073709551616 by decide]
            refine g_modI (by decide) ?_
            walk_at "f"
            refine g_II (by show (0 : Int) ≤ 0 - m; omega) ?_
            walk_at "f"
            exact ⟨_, rfl, q⟩
          · rw [if_neg h3] at q
            walk_at "f"
            refine g_II (shl_ok hx (by omega) (by omega)) ?_
            walk_at "f"
            exact ⟨_, rfl, q⟩
/-! arith, of the words for bits -/
abbrev s_arith : Stmt := top 23
theorem sc_arith : FnScope ["word", "one", "other"] ["word", "one", "other"] (defScope s_arith) := ⟨rfl, rfl, rfl, by decide +kernel, rfl, by decide +kernel, by decide +kernel⟩
def ArR (CT : Addr) (c : Str) (H : Hp) (Q : VK) (E : XK) : Option Int → Option Int → Prop
  | some i, some j => ∀ H', Same H H' → Q (.int (bitsV c i j)) H'
  | _, _ => ∀ H', Same H H' → ThrR CT (.str noInt) H' E
def sp_arB (C CT : Addr) : Sp := fun vs H Q E => ∃ (c : Str) (v u : V) (n m : Nm), vs = [.str c, v, u] ∧ Wd5 c ∧ NumAt C H v n ∧ NumAt C H u m ∧ (∀ i, wholeN n = some i → r64 i) ∧ (∀ i, wholeN m = some i → r64 i) ∧ ArR CT c H Q E (wholeN n) (wholeN m)
theorem ok_arB {f : Addr} {fd : FuncData} (F : FunD K "arith" "arith" (defArgs s_arith) (defBody s_arith) (defScope s_arith) [] [] f fd) (c_wholeorthrown : Fn P w K mg base (L2.CX P w) 4 "whole_or_thrown" ["number"] [] (sp_wot C CT)) (c_bybits : Fn P w K mg base CX0 2 "by_bits" ["word", "one", "other"] [] sp_bybits) :
    FnOk P w K mg base (L2.CX P w) 6 f fd ["word", "one", "other"] (sp_arB C CT) := by
  refine F.ok sc_arith (fun vs H Q E h => ?_) (fun cdv A outer s H vs Q E hr h => ?_)
  · obtain ⟨_, _, _, _, _, rfl, _⟩ := h; rfl
  · obtain ⟨c, v, u, n, m, rfl, hc, hv, hu, r1, r2, q⟩ := h
    refine ⟨_, (pss_cons (ps_if (pt_cmpR op_in_seq (pv 0) (pe_tupN (pa_cons pe_str (pa_cons pe_str (pa_cons pe_str (pa_cons pe_str (pa_cons pe_str pa_nil)))))) (by rfl)) (pss_one (ps_ret (pe_fn c_bybits (hr.mono (by first | decide | omega)) pass0 (pa_cons (pv 0) (pa_cons (pe_fn c_wholeorthrown (hr.mono (by first | decide | omega)) (passes_call (takes_of rfl rfl rfl rfl) (fun _ _ _ _ h => h)) (pa_cons (pv 1) pa_nil)) (pa_cons (pe_fn c_wholeorthrown (hr.mono (by first | decide | omega)) (passes_call (takes_of rfl rfl rfl rfl) (fun _ _ _ _ h => h)) (pa_cons (pv 2) pa_nil)) pa_nil)))))) pss_nil)
  pss_never), ?_⟩
    walk_at "f"
    refine g_new (sz rfl) fun p1 H1 n1 s1 h1 _ => ?_
    have ein : inV (.str c) [V.str "band", .str "bor", .str "bxor", .str "shl", .str "shr"] = true := by
      rcases hc with rfl | rfl | rfl | rfl | rfl <;> rfl
    refine ⟨p1, _, rfl, .inr (SqT.of h1), rfl, rfl, _, rfl, ?_⟩
    refine (if_pos (show (if false = true then !inV (.str c) _ else inV (.str c) _) = true from ein)).mpr ?_
    walk_at "f"
    refine ⟨v, n, rfl, hv.same s1, ?_⟩
    cases e1 : wholeN n with
    | none =>
      rw [e1] at q
      exact fun H2 s2 => q H2 (s1.trans s2)
    | some i =>
      rw [e1] at q
      refine fun H2 s2 => ?_
      walk_at "f"
      refine ⟨u, m, rfl, (hu.same s1).same s2, ?_⟩
      cases e2 : wholeN m with
      | none =>
        rw [e2] at q
        exact fun H3 s3 => q H3 (s1.trans (s2.trans s3))
      | some j =>
        rw [e2] at q
        refine fun H3 s3 => ?_
        walk_at "f"
        exact ⟨c, i, j, rfl, hc, r1 i e1, r2 j e2, q H3 (s1.trans (s2.trans s3))⟩
/-! bit_not -/
abbrev s_bitnot : Stmt := top 33
theorem sc_bitnot : FnScope ["number"] ["number"] (defScope s_bitnot) := ⟨rfl, rfl, rfl, by decide +kernel, rfl, by decide +kernel, by decide +kernel⟩
def sp_bitnot (C CT : Addr) : Sp := fun vs H Q E => ∃ (v : V) (n : Nm), vs = [v] ∧ NumAt C H v n ∧ (match wholeN n with
  | some i => ∀ H', Same H H' → Q (.int (-1 - i)) H'
  | none => ∀ H', Same H H' → ThrR CT (.str noInt) H' E)
theorem ok_bitnot {f : Addr} {fd : FuncData} (F : FunD K "bit_not" "bit_not" (defArgs s_bitnot) (defBody s_bitnot) (defScope s_bitnot) [] [] f fd) (c_wholeorthrown : Fn P w K mg base (L2.CX P w) 4 "whole_or_thrown" ["number"] [] (sp_wot C CT)) :
    FnOk P w K mg base (L2.CX P w) 6 f fd ["number"] (sp_bitnot C CT) := by
  refine F.ok sc_bitnot (fun vs H Q E h => ?_) (fun cdv A outer s H vs Q E hr h => ?_)
  · obtain ⟨_, _, rfl, _⟩ := h; rfl
  · obtain ⟨v, n, rfl, hv, q⟩ := h
    refine ⟨_, (pss_one (ps_ret (pe_op op_oSub (pe_op op_oSub pe_int pe_int) (pe_fn c_wholeorthrown (hr.mono (by first | decide | omega)) (passes_call (takes_of rfl rfl rfl rfl) (fun _ _ _ _ h => h)) (pa_cons (pv 0) pa_nil))))), ?_⟩
    walk_at "f"
    refine ⟨v, n, rfl, hv, ?_⟩
    cases e1 : wholeN n with
    | none =>
      rw [e1] at q
      exact q
    | some i =>
      rw [e1] at q
      refine fun H2 s2 => ?_
      walk_at "f"
      exact q H2 s2
end
end Up

set_option Elab.async false
set_option linter.all false
set_option pp.maxSteps 600
set_option maxRecDepth 100000
set_option maxHeartbeats 4000000
set_option exponentiation.threshold 200000
namespace Up
open PySem PySem.Spec PyProof.Rows L2
local macro_rules | `(tactic| walk_at "u") => `(tactic| first
  | with_reducible refine g_seq ?_
  | with_reducible refine g_asg ?_
  | with_reducible refine g_op ?_
  | ((with_reducible show tVar _ _ _ _); apply g_var; exact rfl)
  | with_reducible refine g_c ?_
  | with_reducible refine g_name ?_
  | with_reducible refine g_ifs ?_
  | with_reducible refine g_tt ?_
  | with_reducible refine g_tB ?_
  | with_reducible refine g_bl ?_
  | with_reducible refine g_ret ?_
  | with_reducible refine g_cb ?_
  | with_reducible refine g_cons ?_
  | with_reducible refine g_nil ?_
  | with_reducible refine g_call ?_
  | with_reducible refine g_and ?_
  | with_reducible refine g_or ?_
  | with_reducible refine g_not ?_
  | with_reducible refine g_andV ?_
  | with_reducible refine g_orV ?_
  | with_reducible refine g_notV ?_
  | with_reducible refine g_if ?_
  | with_reducible refine g_un ?_
  | with_reducible refine g_neg ?_
  | with_reducible refine g_addI ?_
  | with_reducible refine g_subI ?_
  | with_reducible refine g_subB ?_
  | with_reducible refine g_I0 ?_
  | with_reducible refine g_cmpI ?_
  | with_reducible refine g_eqI ?_
  | with_reducible refine g_neI ?_
  | with_reducible refine g_eqS ?_
  | with_reducible refine g_neS ?_
  | with_reducible refine g_eqB ?_
  | with_reducible refine g_neB ?_
  | with_reducible refine g_bits ?_
  | with_reducible refine g_bitsI ?_
  | with_reducible refine g_fld ?_
  | with_reducible refine g_tup ?_
  | with_reducible refine g_lst ?_
  | with_reducible refine g_gtup ?_
  | with_reducible refine g_make ?_
  | with_reducible refine g_lc ?_
  | with_reducible refine g_yesT ?_
  | with_reducible refine g_intI ?_
  | with_reducible refine g_intB ?_
  | with_reducible refine g_max2 ?_
  | with_reducible refine g_abs1 ?_
  | with_reducible refine g_for ?_
  | with_reducible refine g_iList ?_
  | with_reducible refine g_iTup ?_
  | with_reducible refine g_iRng1 ?_
  | with_reducible refine g_iEnum ?_
  | with_reducible refine g_slice ?_
  | with_reducible refine g_po0 ?_
  | with_reducible refine g_po1 ?_
  | with_reducible refine g_gsub ?_
  | with_reducible refine g_par ?_
  | with_reducible refine g_par2 ?_
  | with_reducible refine g_rfl ?_
  | with_reducible refine g_meth ?_
  | with_reducible refine g_gcons ?_
  | with_reducible refine g_gnil ?_
  | with_reducible refine g_gfld ?_
  | with_reducible refine g_sfld ?_
  | with_reducible refine g_drop ?_
  | with_reducible refine g_next ?_
  | with_reducible refine iteT ?_
  | with_reducible refine iteF ?_)
local macro_rules | `(tactic| walk_at "go") => `(tactic| (repeat walk_at "u"))

section
variable {P : Program} {w : World} {K : PySem.W.Frag} {mg : Str → Option Value} {base : Heap} {C CT : Addr}
abbrev CDraw (P : Program) (w : World) (K : PySem.W.Frag) (mg : Str → Option Value) (base : Heap) : Prop := Fn P w K mg base CX0 1 "_law_draw" ["_law_well_here", "_law_many"] [] sp_Ldraw
abbrev COne (P : Program) (w : World) (K : PySem.W.Frag) (mg : Str → Option Value) (base : Heap) : Prop := Fn P w K mg base CX0 2 "_law_one" ["_law_well_here", "_law_some"] [] sp_Lone
abbrev CGreat (P : Program) (w : World) (K : PySem.W.Frag) (mg : Str → Option Value) (base : Heap) : Prop := Fn P w K mg base CX0 2 "_law_great" ["_law_well_here", "_law_bits_here"] [] sp_Lgreat
theorem e63 : (1 : Int) * 2 ^ Int.toNat 63 = 9223372036854775808 := by decide
theorem e64 : (1 : Int) * 2 ^ Int.toNat 64 = 18446744073709551616 := by decide
theorem shl1 {j : Int} (h0 : 0 ≤ j) (h : j ≤ 100000) : CShl 1 j := shl_small h0 h (lt_pow_mono (a := 1) (by decide) (by decide))
/-! _law_int -/
abbrev s_Lint : Stmt := top 41
theorem sc_Lint : FnScope ["_law_well_here", "_law_some"] ["_law_well_here"] (defScope s_Lint) := ⟨rfl, rfl, rfl, by decide +kernel, rfl, by decide +kernel, by decide +kernel⟩
def sp_Lint : Sp := fun vs H Q _ => ∃ (a : Addr), vs = [.ref a] ∧ Well H a ∧ ∀ k H', -9223372036854775808 ≤ k → k < 9223372036854775808 → Stp a H H' → Well H' a → Q (.int k) H'
theorem ok_Lint {f : Addr} {fd : FuncData} (F : FunD K "_law_int" "_law_int" (defArgs s_Lint) (defBody s_Lint) (defScope s_Lint) [] [] f fd) (B : Blt mg) (c_Ldraw : CDraw P w K mg base) (c_Lone : COne P w K mg base) (c_Lgreat : CGreat P w K mg base) : FnOk P w K mg base CX0 3 f fd ["_law_well_here"] sp_Lint := by
  refine F.ok sc_Lint (fun vs H Q E h => ?_) (fun cdv A outer s H vs Q E hr h => ?_)
  · obtain ⟨a, rfl, _⟩ := h; rfl
  · obtain ⟨a, rfl, hw, q⟩ := h
    refine ⟨_, PSs.nox (pss_cons (ps_set (i := 1) sc_Lint.nd rfl (Or.inl rfl) (pe_lstN (pa_cons (pe_op op_oSub (pe_fn c_Ldraw (hr.mono (by first | decide | omega)) pass0 (pa_cons (pv 0) (pa_cons pe_int pa_nil))) pe_int) (pa_cons (pe_op op_oSub (pe_fn c_Lgreat (hr.mono (by first | decide | omega)) pass0 (pa_cons (pv 0) (pa_cons pe_int pa_nil))) (pe_op op_oShl pe_int pe_int)) (pa_cons (pe_un un_neg (pe_op op_oShl pe_int pe_int)) (pa_cons (pe_op op_oSub (pe_op op_oSub (pe_op op_oShl pe_int pe_int) pe_int) (pe_fn c_Ldraw (hr.mono (by first | decide | omega)) pass0 (pa_cons (pv 0) (pa_cons pe_int pa_nil)))) pa_nil))))))
  (pss_one (ps_ret (pe_fn c_Lone (hr.mono (by first | decide | omega)) pass0 (pa_cons (pv 0) (pa_cons (pe_op op_oAdd (pv 1) (pe_lstN (pa_cons (pe_op op_oSub (pe_fn c_Lgreat (hr.mono (by first | decide | omega)) pass0 (pa_cons (pv 0) (pa_cons pe_int pa_nil))) (pe_op op_oShl pe_int pe_int)) pa_nil))) pa_nil)))))), ?_⟩
    walk_at "go"
    refine ⟨a, _, rfl, by decide, by decide, hw, fun d1 H1 a1 b1 s1 hw1 => ?_⟩
    walk_at "go"
    refine ⟨a, _, rfl, by decide, by decide, hw1, fun d2 H2 a2 b2 s2 hw2 => ?_⟩
    walk_at "go"
    refine g_II (shl1 (by decide) (by decide)) ?_
    rw [e63]
    walk_at "go"
    refine g_II (shl1 (by decide) (by decide)) ?_
    rw [e63]
    walk_at "go"
    refine g_II (shl1 (by decide) (by decide)) ?_
    rw [e63]
    walk_at "go"
    refine ⟨a, _, rfl, by decide, by decide, hw2, fun d3 H3 a3 b3 s3 hw3 => ?_⟩
    walk_at "go"
    refine g_new (sz rfl) fun l4 H4 n4 s4 h4 _ => ?_
    have S4 := ((s1.trans s2).trans s3).trans (Stp.of s4)
    have hw4 := hw3.same s4
    have l4a := hw3.ne_none n4
    walk_at "go"
    refine ⟨a, _, rfl, by decide, by decide, hw4, fun d5 H5 a5 b5 s5 hw5 => ?_⟩
    have h4 := s5 _ _ l4a h4
    walk_at "go"
    refine g_II (shl1 (by decide) (by decide)) ?_
    walk_at "go"
    refine g_new (sz rfl) fun l6 H6 n6 s6 h6 _ => ?_
    refine .inl ⟨l4, l6, _, _, rfl, rfl, SqL.of (s6 _ _ h4), SqL.of h6, sz rfl, fun l7 H7 n7 s7 h7 _ => ?_⟩
    have S7 := ((S4.trans s5).trans (Stp.of s6)).trans (Stp.of s7)
    have hw6 := hw5.same s6
    have hw7 := hw6.same s7
    walk_at "go"
    refine ⟨a, l7, _, rfl, hw7, h7, hw6.ne_none n7, Nat.lt_of_lt_of_le (by decide : 0 < 5) (Nat.le_refl _), Nat.lt_of_le_of_lt (Nat.le_refl 5) (by decide), fun v H8 hv s8 hw8 => ?_⟩
    have e32 : (1 : Int) * 2 ^ Int.toNat 32 = 4294967296 := by decide
    rw [e32] at hv
    have g2 : d2 < 18446744073709551616 := b2
    have g5 : d5 < 8589934592 := b5
    obtain ⟨u, rfl, hu1, hu2⟩ : ∃ u, v = .int u ∧ -9223372036854775808 ≤ u ∧ u < 9223372036854775808 := by
      simp only [List.mem_append, List.mem_cons, List.not_mem_nil, or_false] at hv
      rcases hv with (rfl | rfl | rfl | rfl) | rfl <;> exact ⟨_, rfl, by omega, by omega⟩
    exact q _ _ hu1 hu2 (S7.trans s8) hw8
/-! _law_number -/
abbrev s_Lnumber : Stmt := top 42
theorem sc_Lnumber : FnScope ["_law_well_here", "_law_way", "_law_sign", "_law_top"] ["_law_well_here"] (defScope s_Lnumber) := ⟨rfl, rfl, rfl, by decide +kernel, rfl, by decide +kernel, by decide +kernel⟩
def N64 (n : Nm) : Prop := match n with
  | .i i => r64 i
  | .f _ _ _ => True
def sp_Lnumber (C : Addr) : Sp := fun vs H Q _ => ∃ (a : Addr), vs = [.ref a] ∧ Well H a ∧ ∀ v H' n, Stp a H H' → Well H' a → NumAt C H' v n → N64 n → Q v H'
theorem ok_Lnumber {f : Addr} {fd : FuncData} (F : FunD K "_law_number" "_law_number" (defArgs s_Lnumber) (defBody s_Lnumber) (defScope s_Lnumber) [] [] f fd) (B : Blt mg) (c_Float : CnF P w K mg base C) (c_Ldraw : CDraw P w K mg base) (c_Lone : COne P w K mg base) (c_Lint : Fn P w K mg base CX0 3 "_law_int" ["_law_well_here"] [] sp_Lint) (c_Lfloat : Fn P w K mg base CX0 4 "_law_float" ["_law_well_here"] [] (sp_Lfloat C)) :
    FnOk P w K mg base CX0 5 f fd ["_law_well_here"] (sp_Lnumber C) := by
  refine F.ok sc_Lnumber (fun vs H Q E h => ?_) (fun cdv A outer s H vs Q E hr h => ?_)
  · obtain ⟨a, rfl, _⟩ := h; rfl
  · obtain ⟨a, rfl, hw, q⟩ := h
    refine ⟨_, PSs.nox (pss_cons (ps_set (i := 1) sc_Lnumber.nd rfl (Or.inl rfl) (pe_fn c_Ldraw (hr.mono (by first | decide | omega)) pass0 (pa_cons (pv 0) (pa_cons pe_int pa_nil))))
  (pss_cons (ps_if (pt_cmpR op_oLt (pv 1) pe_int (nomark _)) (pss_one (ps_ret (pe_fn c_Lint (hr.mono (by first | decide | omega)) pass0 (pa_cons (pv 0) pa_nil)))) pss_nil)
  (pss_cons (ps_if (pt_cmpR (op_oEq hr.units) (pv 1) pe_int (nomark _)) (pss_one (ps_ret (pe_cn c_Float (hr.mono (by first | decide | omega)) pass0 (pa_cons (pe_fn c_Lone (hr.mono (by first | decide | omega)) pass0 (pa_cons (pv 0) (pa_cons (pe_lstN (pa_cons pe_int (pa_cons (pe_un un_neg pe_int) pa_nil))) pa_nil))) (pa_cons (pe_fn c_Ldraw (hr.mono (by first | decide | omega)) pass0 (pa_cons (pv 0) (pa_cons pe_int pa_nil))) (pa_cons (pe_fn c_Ldraw (hr.mono (by first | decide | omega)) pass0 (pa_cons (pv 0) (pa_cons pe_int pa_nil))) pa_nil)))))) pss_nil)
  (pss_cons (ps_if (pt_cmpR (op_oEq hr.units) (pv 1) pe_int (nomark _)) (pss_cons (ps_par (i := 2) (j := 3) rfl sc_Lnumber.nd rfl rfl (by decide) rfl rfl (pa_cons (pe_fn c_Lone (hr.mono (by first | decide | omega)) pass0 (pa_cons (pv 0) (pa_cons (pe_lstN (pa_cons pe_int (pa_cons (pe_un un_neg pe_int) pa_nil))) pa_nil))) (pa_cons (pe_fn c_Lone (hr.mono (by first | decide | omega)) pass0 (pa_cons (pv 0) (pa_cons (pe_lstN (pa_cons pe_int (pa_cons (pe_op op_oSub (pe_op op_oShl pe_int pe_int) pe_int) (pa_cons pe_int pa_nil)))) pa_nil))) pa_nil)) (by rfl))
  (pss_one (ps_ret (pe_cn c_Float (hr.mono (by first | decide | omega)) pass0 (pa_cons (pv 2) (pa_cons (pv 3) (pa_cons (pe_fn c_Lone (hr.mono (by first | decide | omega)) pass0 (pa_cons (pv 0) (pa_cons (pe_lstN (pa_cons pe_int (pa_cons pe_int (pa_cons pe_int (pa_cons pe_int (pa_cons pe_int pa_nil)))))) pa_nil))) pa_nil))))))) pss_nil)
  (pss_one (ps_ret (pe_ifExp (pt_cmpR (op_oEq hr.units) (pv 1) pe_int (nomark _)) (pe_fn c_Lfloat (hr.mono (by first | decide | omega)) pass0 (pa_cons (pv 0) pa_nil)) (pe_cn c_Float (hr.mono (by first | decide | omega)) pass0 (pa_cons pe_int (pa_cons (pe_op op_oAdd (pe_op op_oMul pe_int (pe_fn c_Ldraw (hr.mono (by first | decide | omega)) pass0 (pa_cons (pv 0) (pa_cons pe_int pa_nil)))) pe_int) (pa_cons (pe_un un_neg pe_int) pa_nil))))))))))), ?_⟩
    have mk : ∀ (H0 H1 : Hp) (sg t p : Int), Stp a H H1 → Well H1 a → FinD sg t p → MakeR C (sp_Finit C) ([.int sg, .int t, .int p] ++ []) H1 Q E0 := fun H0 H1 sg t p S hw1 hd =>
      mkF hd.mk fun H3 x3 n3 s3 h3 => q _ _ (.f sg (redV (.int t) p).1 (redV (.int t) p).2) (S.trans (Stp.of s3)) (hw1.same s3) ⟨x3, rfl, h3, mk_flok hd.mk⟩ trivial
    walk_at "go"
    refine ⟨a, _, rfl, by decide, by decide, hw, fun d1 H1 a1 b1 s1 hw1 => ?_⟩
    walk_at "go"
    refine g_ite (fun h1 => ?_) fun h1 => ?_
    · walk_at "go"
      exact ⟨a, rfl, hw1, fun k H2 k0 k1 s2 hw2 => q _ _ (.i k) (s1.trans s2) hw2 rfl ⟨k0, by omega⟩⟩
    · walk_at "go"
      refine g_ite (fun h2 => ?_) fun h2 => ?_
      · walk_at "go"
        refine g_new (sz rfl) fun l2 H2 n2 s2 h2 _ => ?_
        walk_at "go"
        refine ⟨a, l2, _, rfl, hw1.same s2, h2, hw1.ne_none n2, by simp, by simp, fun v H3 hv s3 hw3 => ?_⟩
        obtain ⟨sg, rfl, hsg⟩ : ∃ sg : Int, v = .int sg ∧ (sg = 1 ∨ sg = -1) := by
          simp only [List.mem_cons, List.not_mem_nil, or_false] at hv
          rcases hv with rfl | rfl
          · exact ⟨_, rfl, .inl rfl⟩
          · exact ⟨_, rfl, .inr rfl⟩
        walk_at "go"
        refine ⟨a, _, rfl, by decide, by decide, hw3, fun d4 H4 a4 b4 s4 hw4 => ?_⟩
        walk_at "go"
        refine ⟨a, _, rfl, by decide, by decide, hw4, fun d5 H5 a5 b5 s5 hw5 => ?_⟩
        walk_at "go"
        exact mk H H5 sg d4 d5 ((((s1.trans (Stp.of s2)).trans s3).trans s4).trans s5) hw5 ⟨hsg, a4, by omega, by omega, by omega⟩
      · walk_at "go"
        refine g_ite (fun h3 => ?_) fun h3 => ?_
        · walk_at "go"
          refine g_new (sz rfl) fun l2 H2 n2 s2 h2 _ => ?_
          walk_at "go"
          refine ⟨a, l2, _, rfl, hw1.same s2, h2, hw1.ne_none n2, by simp, by simp, fun v H3 hv s3 hw3 => ?_⟩
          obtain ⟨sg, rfl, hsg⟩ : ∃ sg : Int, v = .int sg ∧ (sg = 1 ∨ sg = -1) := by
            simp only [List.mem_cons, List.not_mem_nil, or_false] at hv
            rcases hv with rfl | rfl
            · exact ⟨_, rfl, .inl rfl⟩
            · exact ⟨_, rfl, .inr rfl⟩
          walk_at "go"
          refine g_II (shl1 (by decide) (by decide)) ?_
          rw [show (1 : Int) * 2 ^ Int.toNat 53 = 9007199254740992 by decide]
          walk_at "go"
          refine g_new (sz rfl) fun l4 H4 n4 s4 h4 _ => ?_
          walk_at "go"
          refine ⟨a, l4, _, rfl, hw3.same s4, h4, hw3.ne_none n4, by simp, by simp, fun v H5 hv s5 hw5 => ?_⟩
          obtain ⟨tp, rfl, t0, t1⟩ : ∃ t : Int, v = .int t ∧ 0 ≤ t ∧ t < 2 ^ 53 := by
            simp only [List.mem_cons, List.not_mem_nil, or_false] at hv
            rcases hv with rfl | rfl | rfl <;> exact ⟨_, rfl, by decide, by decide⟩
          walk_at "go"
          refine g_new (sz rfl) fun l6 H6 n6 s6 h6 _ => ?_
          walk_at "go"
          refine ⟨a, l6, _, rfl, hw5.same s6, h6, hw5.ne_none n6, by simp, by simp, fun v H7 hv s7 hw7 => ?_⟩
          obtain ⟨pw, rfl, p0, p1⟩ : ∃ t : Int, v = .int t ∧ -1074 ≤ t ∧ t ≤ 971 := by
            simp only [List.mem_cons, List.not_mem_nil, or_false] at hv
            rcases hv with rfl | rfl | rfl | rfl | rfl <;> exact ⟨_, rfl, by decide, by decide⟩
          walk_at "go"
          exact mk H H7 sg tp pw ((((((s1.trans (Stp.of s2)).trans s3).trans (Stp.of s4)).trans s5).trans (Stp.of s6)).trans s7) hw7 ⟨hsg, t0, t1, p0, p1⟩
        · walk_at "go"
          refine g_ite (fun h4 => ?_) fun h4 => ?_
          · walk_at "go"
            exact ⟨a, rfl, hw1, fun v H2 sg t p s2 hw2 hn => q _ _ (.f sg t p) (s1.trans s2) hw2 hn trivial⟩
          · walk_at "go"
            refine ⟨a, _, rfl, by decide, by decide, hw1, fun d4 H4 a4 b4 s4 hw4 => ?_⟩
            refine g_mulI (.of_left (by decide)) ?_
            walk_at "go"
            exact mk H H4 1 _ (-1) (s1.trans s4) hw4 ⟨.inl rfl, by omega, by omega, by omega, by omega⟩
end
end Up

set_option Elab.async false
set_option linter.all false
set_option pp.maxSteps 600
set_option maxRecDepth 100000
set_option maxHeartbeats 4000000
set_option exponentiation.threshold 200000
namespace Up
open PySem PySem.Spec PyProof.Rows L2
local macro_rules | `(tactic| walk_at "u") => `(tactic| first
  | with_reducible refine g_seq ?_
  | with_reducible refine g_asg ?_
  | with_reducible refine g_op ?_
  | ((with_reducible show tVar _ _ _ _); apply g_var; exact rfl)
  | with_reducible refine g_c ?_
  | with_reducible refine g_name ?_
  | with_reducible refine g_ifs ?_
  | with_reducible refine g_tt ?_
  | with_reducible refine g_tB ?_
  | with_reducible refine g_bl ?_
  | with_reducible refine g_ret ?_
  | with_reducible refine g_cb ?_
  | with_reducible refine g_cons ?_
  | with_reducible refine g_nil ?_
  | with_reducible refine g_call ?_
  | with_reducible refine g_and ?_
  | with_reducible refine g_or ?_
  | with_reducible refine g_not ?_
  | with_reducible refine g_andV ?_
  | with_reducible refine g_orV ?_
  | with_reducible refine g_notV ?_
  | with_reducible refine g_if ?_
  | with_reducible refine g_un ?_
  | with_reducible refine g_neg ?_
  | with_reducible refine g_addI ?_
  | with_reducible refine g_subI ?_
  | with_reducible refine g_subB ?_
  | with_reducible refine g_I0 ?_
  | with_reducible refine g_cmpI ?_
  | with_reducible refine g_eqI ?_
  | with_reducible refine g_neI ?_
  | with_reducible refine g_eqS ?_
  | with_reducible refine g_neS ?_
  | with_reducible refine g_eqB ?_
  | with_reducible refine g_neB ?_
  | with_reducible refine g_bits ?_
  | with_reducible refine g_bitsI ?_
  | with_reducible refine g_fld ?_
  | with_reducible refine g_tup ?_
  | with_reducible refine g_lst ?_
  | with_reducible refine g_gtup ?_
  | with_reducible refine g_make ?_
  | with_reducible refine g_lc ?_
  | with_reducible refine g_yesT ?_
  | with_reducible refine g_intI ?_
  | with_reducible refine g_intB ?_
  | with_reducible refine g_max2 ?_
  | with_reducible refine g_abs1 ?_
  | with_reducible refine g_for ?_
  | with_reducible refine g_iList ?_
  | with_reducible refine g_iTup ?_
  | with_reducible refine g_iRng1 ?_
  | with_reducible refine g_iEnum ?_
  | with_reducible refine g_slice ?_
  | with_reducible refine g_po0 ?_
  | with_reducible refine g_po1 ?_
  | with_reducible refine g_gsub ?_
  | with_reducible refine g_par ?_
  | with_reducible refine g_par2 ?_
  | with_reducible refine g_rfl ?_
  | with_reducible refine g_meth ?_
  | with_reducible refine g_gcons ?_
  | with_reducible refine g_gnil ?_
  | with_reducible refine g_gfld ?_
  | with_reducible refine g_sfld ?_
  | with_reducible refine g_drop ?_
  | with_reducible refine g_next ?_
  | with_reducible refine iteT ?_
  | with_reducible refine iteF ?_)
local macro_rules | `(tactic| walk_at "go") => `(tactic| (repeat walk_at "u"))
local macro_rules | `(tactic| walk_at "f") => `(tactic| (repeat (first
  | walk_at "u"
  | with_reducible refine g_chain ?_
  | with_reducible refine g_par3 ?_
  | with_reducible refine g_par3' ?_
  | ((with_reducible refine show_ex ?_); first
    | refine fT (by assumption) (by assumption) ?_
    | refine fS (by assumption) (by assumption) ?_
    | refine fP (by assumption) (by assumption) ?_))))

section
variable {P : Program} {w : World} {K : PySem.W.Frag} {mg : Str → Option Value} {base : Heap} {C CT : Addr}
/-! _law_number_of -/
def bitL (b : Nat → Int) (n : Nat) : List V := (List.range n).map fun i => .int (b i)
theorem bitL_at {b : Nat → Int} {n i : Nat} (h : i < n) : (bitL b n)[i]? = some (.int (b i)) := by
  unfold bitL
  rw [List.getElem?_map, List.getElem?_range h]; rfl
theorem bitL_len {b : Nat → Int} {n : Nat} : (bitL b n).length = n := by unfold bitL; simp
theorem bitL_succ {b : Nat → Int} {n : Nat} : bitL b (n + 1) = bitL b n ++ [.int (b n)] := by unfold bitL; rw [List.range_succ, List.map_append]; rfl
theorem shl_b {x m : Int} (hx : 0 ≤ x ∧ x ≤ 1) (h0 : 0 ≤ m) (h1 : m < 64) : CShl x m := shl_small h0 (by omega) (lt_pow_mono (a := 1) (by omega) (by decide))
theorem upd_sameW {H H4 : Hp} {p : Addr} {o : HO} (S : Same H H4) (h : H p = none) : Same H (upd H4 p o) := fun b u e => by rw [upd_ne (ne_of_none e h)]; exact S b u e
theorem fmod2 (x : Int) : x.fmod 2 = x % 2 := Int.fmod_eq_emod_of_nonneg _ (by decide)
theorem half2 (x : Int) (i : Nat) : (x / 2 ^ i - (x / 2 ^ i).fmod 2).fdiv 2 = x / 2 ^ (i + 1) := by
  rw [div_pow, fmod2, Int.fdiv_eq_ediv_of_nonneg _ (by decide)]
  omega
abbrev s_Lnumberof : Stmt := top 45
theorem sc_Lnumberof : FnScope ["_law_bits_here", "_law_whole_here", "_law_k"] ["_law_bits_here"] (defScope s_Lnumberof) := ⟨rfl, rfl, rfl, by decide +kernel, rfl, by decide +kernel, by decide +kernel⟩
def sp_Lnumof : Sp := fun vs H Q _ => ∃ (l : Addr) (b : Nat → Int), vs = [.ref l] ∧ H l = some (.lst (bitL b 64)) ∧ (∀ i, i < 64 → 0 ≤ b i ∧ b i ≤ 1) ∧ Q (.int (numN b)) H
theorem ok_Lnumof {f : Addr} {fd : FuncData} (F : FunD K "_law_number_of" "_law_number_of" (defArgs s_Lnumberof) (defBody s_Lnumberof) (defScope s_Lnumberof) [] [] f fd) (B : Blt mg) : FnOk P w K mg base CX0 1 f fd ["_law_bits_here"] sp_Lnumof := by
  refine F.ok sc_Lnumberof (fun vs H Q E h => ?_) (fun cdv A outer s H vs Q E hr h => ?_)
  · obtain ⟨_, _, rfl, _⟩ := h; rfl
  · obtain ⟨l, b, rfl, hl, hb, q⟩ := h
    refine ⟨_, PSs.nox (pss_cons (ps_set (i := 1) sc_Lnumberof.nd rfl (Or.inl rfl) (pe_op op_oSub pe_int (pe_op op_oShl (pe_ix ix_seq (pv 0) pe_int (fun _ _ => rfl)) pe_int)))
  (pss_cons (ps_for PassesOwn.never rfl (pi_range1 (by rfl) B.range (pa_cons pe_int pa_nil)) (pg_name (i := 2) sc_Lnumberof.nd rfl (Or.inl rfl))
    (pss_one (ps_set (i := 1) sc_Lnumberof.nd rfl (Or.inl rfl) (pe_op op_oAdd (pv 1) (pe_op op_oShl (pe_ix ix_seq (pv 0) (pv 2) (fun _ _ => rfl)) (pv 2))))))
  (pss_one (ps_ret (pv 1))))), ?_⟩
    walk_at "f"
    refine g_ixL hl (atI_of (by decide) (bitL_at (by decide))) ?_
    walk_at "f"
    refine g_II (shl_b (hb 63 (by decide)) (by decide) (by decide)) ?_
    walk_at "f"
    refine ⟨by decide, by decide, ?_⟩
    refine for_range (lo := 0) (n := 63) (fun i σ' H' => H' = H ∧ ∃ k, σ' = [some (.ref l), some (.int (0 - b 63 * 2 ^ Int.toNat 63 + sumB b i)), k]) ⟨rfl, _, by rw [show sumB b 0 = 0 from rfl, Int.add_zero]; rfl⟩ ?_ ?_
    · rintro i _ _ hi ⟨rfl, k, rfl⟩
      walk_at "f"
      refine g_ixL hl (atI_of (by omega) (by rw [show ((0 : Int) + (i : Nat)).toNat = i by omega]; exact bitL_at (by omega))) ?_
      walk_at "f"
      refine g_II (shl_b (hb i (by omega)) (by omega) (by omega)) ?_
      walk_at "f"
      refine ⟨rfl, _, congrArg (fun z => [some (V.ref l), some (V.int z), some (V.int (0 + ((i : Nat) : Int)))]) ?_⟩
      rw [show ((0 : Int) + (i : Nat)).toNat = i by omega]
      show 0 - b 63 * 2 ^ Int.toNat 63 + sumB b i + b i * 2 ^ i = 0 - b 63 * 2 ^ Int.toNat 63 + (sumB b i + b i * 2 ^ i)
      rw [Int.add_assoc]
    · rintro _ _ ⟨rfl, k, rfl⟩
      walk_at "f"
      have e : numN b = 0 - b 63 * 2 ^ Int.toNat 63 + sumB b 63 := by
        unfold numN
        rw [show (2 : Int) ^ Int.toNat 63 = 9223372036854775808 by decide]
        omega
      rw [e] at q
      exact q
/-! _law_bits -/
abbrev s_Lbits : Stmt := top 44
theorem sc_Lbits : FnScope ["_law_number_here", "_law_found", "_law_k"] ["_law_number_here"] (defScope s_Lbits) := ⟨rfl, rfl, rfl, by decide +kernel, rfl, by decide +kernel, by decide +kernel⟩
def sp_Lbits : Sp := fun vs H Q _ => ∃ x : Int, vs = [.int x] ∧ r64 x ∧ RetL H (bitL (bitI x) 64) Q
theorem ok_Lbits {f : Addr} {fd : FuncData} (F : FunD K "_law_bits" "_law_bits" (defArgs s_Lbits) (defBody s_Lbits) (defScope s_Lbits) [] [] f fd) (B : Blt mg) : FnOk P w K mg base CX0 1 f fd ["_law_number_here"] sp_Lbits := by
  refine F.ok sc_Lbits (fun vs H Q E h => ?_) (fun cdv A outer s H vs Q E hr h => ?_)
  · obtain ⟨_, rfl, _⟩ := h; rfl
  · obtain ⟨x, rfl, hx, q⟩ := h
    refine ⟨_, PSs.nox (pss_cons (ps_set (i := 1) sc_Lbits.nd rfl (Or.inl rfl) (pe_lstN pa_nil))
  (pss_cons (ps_for PassesOwn.never rfl (pi_range1 (by rfl) B.range (pa_cons pe_int pa_nil)) (pg_name (i := 2) sc_Lbits.nd rfl (Or.inl rfl))
    (pss_cons (ps_expr (pe_bm PySem.F.plainAttrs_list PySem.F.slot_list_append PySem.F.type_list_append mt_append (pv 1) (pa_cons (pe_op op_oMod (pe_callTy call_int1 (by rfl) B.int (by decide +kernel) (pa_cons (pv 0) pa_nil)) pe_int) pa_nil)))
  (pss_one (ps_set (i := 0) sc_Lbits.nd rfl (Or.inl rfl) (pe_op op_oDiv (pe_op op_oSub (pv 0) (pe_op op_oMod (pe_callTy call_int1 (by rfl) B.int (by decide +kernel) (pa_cons (pv 0) pa_nil)) pe_int)) pe_int)))))
  (pss_one (ps_ret (pv 1))))), ?_⟩
    walk_at "f"
    refine g_new (sz rfl) fun l H1 n1 s1 h1 _ => ?_
    walk_at "f"
    refine ⟨by decide, by decide, ?_⟩
    refine for_range (lo := 0) (n := 64) (fun i σ' H' => Same H H' ∧ H l = none ∧ H' l = some (.lst (bitL (bitI x) i)) ∧ ∃ k, σ' = [some (.int (x / 2 ^ i)), some (.ref l), k]) ⟨s1, n1, h1, _, by rw [Int.pow_zero, Int.ediv_one]; rfl⟩ ?_ ?_
    · rintro i _ H2 hi ⟨s2, _, h2, k, rfl⟩
      walk_at "f"
      refine g_bm ?_
      walk_at "f"
      refine ⟨.inl ⟨rfl, _, SqL.of h2⟩, ?_⟩
      walk_at "f"
      refine g_modI (by decide) ?_
      walk_at "f"
      refine ⟨l, _, _, rfl, rfl, h2, Nat.lt_of_le_of_lt (show (bitL (bitI x) i).length ≤ 100 by rw [bitL_len]; omega) (by decide), ?_⟩
      walk_at "f"
      refine g_modI (by decide) ?_
      walk_at "f"
      refine g_divI (by decide) (by decide) ?_
      walk_at "f"
      refine ⟨upd_sameW s2 n1, n1, ?_, _, congrArg (fun z => [some (V.int z), some (V.ref l), some (V.int (0 + ((i : Nat) : Int)))]) (half2 x i)⟩
      rw [upd_same, bitL_succ, fmod2]
      rfl
    · rintro _ H2 ⟨s2, _, h2, k, rfl⟩
      walk_at "f"
      exact q _ _ n1 s2 h2
/-! _law_whole -/
theorem wF_eq {sg m p : Int} (hs : sg = 1 ∨ sg = -1) (hf : FinOk m p) (h1 : ¬ p < 0) (h2 : ¬ p > 64) : wholeF sg (.int m) p = if -9223372036854775808 ≤ sg * (m * 2 ^ p.toNat) ∧ sg * (m * 2 ^ p.toNat) ≤ 9223372036854775807 then some (sg * (m * 2 ^ p.toNat)) else none := by
  show (if p < 0 ∨ 64 < ((Builtin.Int.intBits m : Nat) : Int) + p then none else _) = _
  by_cases h : 64 < ((Builtin.Int.intBits m : Nat) : Int) + p
  · rw [if_pos (.inr h), if_neg]
    intro hr
    obtain ⟨n, rfl⟩ : ∃ n : Nat, m = n := ⟨m.toNat, by have := hf.1; omega⟩
    rw [intBits_nat] at h
    have hn : n ≠ 0 := fun z => by subst z; rw [show bitsN 0 = 0 from rfl] at h; omega
    have g := bits_ge hn
    obtain ⟨k, rfl⟩ : ∃ k : Nat, p = k := ⟨p.toNat, by omega⟩
    rw [Int.toNat_natCast] at hr
    have b1 := bits_pos hn
    have g2 : 2 ^ 64 ≤ n * 2 ^ k := calc
      2 ^ 64 ≤ 2 ^ (bitsN n - 1 + k) := Nat.pow_le_pow_right (by decide) (by omega)
      _ = 2 ^ (bitsN n - 1) * 2 ^ k := Nat.pow_add ..
      _ ≤ n * 2 ^ k := Nat.mul_le_mul_right _ g
    have g3 : ((n : Int) * 2 ^ k) = ((n * 2 ^ k : Nat) : Int) := by push_cast; rfl
    rw [g3] at hr
    have g4 : (18446744073709551616 : Nat) ≤ n * 2 ^ k := g2
    generalize n * 2 ^ k = z at hr g4
    rcases hs with rfl | rfl <;> omega
  · rw [if_neg (fun z => z.elim h1 h)]

abbrev s_Lwhole : Stmt := top 43
theorem sc_Lwhole : FnScope ["_law_number_here", "_law_whole_here"] ["_law_number_here"] (defScope s_Lwhole) := ⟨rfl, rfl, rfl, by decide +kernel, rfl, by decide +kernel, by decide +kernel⟩
theorem ok_Lwhole {f : Addr} {fd : FuncData} (F : FunD K "_law_whole" "_law_whole" (defArgs s_Lwhole) (defBody s_Lwhole) (defScope s_Lwhole) [] [] f fd) (B : Blt mg) (T : FlC K mg C) : FnOk P w K mg base CX0 1 f fd ["_law_number_here"] (sp_wholeof C) := by
  refine F.ok sc_Lwhole (fun vs H Q E h => ?_) (fun cdv A outer s H vs Q E hr h => ?_)
  · obtain ⟨_, _, rfl, _⟩ := h; rfl
  · obtain ⟨v, n, rfl, hn, q⟩ := h
    obtain ⟨t, hk, _, _⟩ := hn.kf T
    refine ⟨_, PSs.nox (pss_cons (ps_if (pt_val (pe_callB call_isi (by rfl) B.isinstance (by decide +kernel) (pa_cons (pv 0) (pa_cons (pe_tyInt B) pa_nil)))) (pss_one (ps_ret (pv 0))) pss_nil)
  (pss_cons (ps_if (PW.pt (pw_or (pt_val (pe_callB call_isi (by rfl) B.isinstance (by decide +kernel) (pa_cons (pe_fld (pv 0) rfl) (pa_cons (pe_tyStr B) pa_nil)))) (pw_or (pt_cmpR op_oLt (pe_fld (pv 0) rfl) pe_int (nomark _)) (pw_or1 (pt_cmpR op_oGt (pe_fld (pv 0) rfl) pe_int (nomark _)))))) (pss_one (ps_ret pe_non)) pss_nil)
  (pss_cons (ps_set (i := 1) sc_Lwhole.nd rfl (Or.inl rfl) (pe_op op_oMul (pe_fld (pv 0) rfl) (pe_op op_oShl (pe_fld (pv 0) rfl) (pe_fld (pv 0) rfl))))
  (pss_one (ps_ret (pe_ifExp (pt_chain op_oLe op_oLe (pe_un un_neg (pe_op op_oShl pe_int pe_int)) (pv 1) (pe_op op_oSub (pe_op op_oShl pe_int pe_int) pe_int)) (pv 1) pe_non)))))), ?_⟩
    walk_at "f"
    refine g_isiInt hk.kn ?_
    walk_at "f"
    cases n with
    | i k =>
      have hn : v = .int k := hn
      subst hn
      refine iteT ?_
      walk_at "f"
      exact q H (Same.refl _)
    | f sg tp p =>
      obtain ⟨a, rfl, hf, ho⟩ := hn
      refine iteF ?_
      walk_at "f"
      rcases id ho.2 with ⟨rfl, _, _⟩ | ⟨rfl, _⟩ | ⟨m, rfl, hfin⟩
      · refine g_isiStr kn_str ?_
        walk_at "f"
        refine iteT ?_
        refine iteT ?_
        walk_at "f"
        exact q H (Same.refl _)
      · refine g_isiStr kn_str ?_
        walk_at "f"
        refine iteT ?_
        refine iteT ?_
        walk_at "f"
        exact q H (Same.refl _)
      · refine g_isiStr kn_int ?_
        walk_at "f"
        refine iteF ?_
        walk_at "f"
        refine g_ite (fun h1 => ?_) fun h1 => ?_
        · walk_at "f"
          have e : wholeN (.f sg (.int m) p) = none := if_pos (.inl h1)
          rw [e] at q
          exact q H (Same.refl _)
        · walk_at "f"
          refine g_ite (fun h2 => ?_) fun h2 => ?_
          · walk_at "f"
            have e : wholeN (.f sg (.int m) p) = none := if_pos (.inr (by omega))
            rw [e] at q
            exact q H (Same.refl _)
          · have e : wholeN (.f sg (.int m) p) = _ := wF_eq ho.1 hfin h1 h2
            rw [e] at q
            walk_at "f"
            refine g_II (shl_small (by omega) (by omega) (lt_pow_mono (a := 53) (by have := hfin.1; have := hfin.2.1; omega) (by decide))) ?_
            walk_at "f"
            have hm : IntMulOk sg (m * 2 ^ p.toNat) := by
              rcases ho.1 with rfl | rfl
              · exact .of_left (by decide)
              · exact .of_left (by decide)
            refine g_mulI hm ?_
            generalize sg * (m * 2 ^ p.toNat) = y at q ⊢
            walk_at "f"
            refine g_II (shl1 (by decide) (by decide)) ?_
            rw [e63]
            walk_at "f"
            refine g_ite (fun h3 => ?_) fun h3 => ?_
            · walk_at "f"
              refine g_II (shl1 (by decide) (by decide)) ?_
              rw [e63]
              walk_at "f"
              refine g_ite (fun h4 => ?_) fun h4 => ?_
              · rw [if_pos ⟨h3, by omega⟩] at q
                walk_at "f"
                exact q _ (Same.refl _)
              · rw [if_neg (fun z => h4 (by omega))] at q
                walk_at "f"
                exact q _ (Same.refl _)
            · rw [if_neg (fun z => h3 z.1)] at q
              walk_at "f"
              exact q _ (Same.refl _)
end
end Up

set_option Elab.async false
set_option linter.all false
set_option pp.maxSteps 600
set_option maxRecDepth 100000
set_option maxHeartbeats 4000000
set_option exponentiation.threshold 200000
namespace Up
open PySem PySem.Spec PyProof.Rows L2
local macro_rules | `(tactic| walk_at "u") => `(tactic| first
  | with_reducible refine g_seq ?_
  | with_reducible refine g_asg ?_
  | with_reducible refine g_op ?_
  | ((with_reducible show tVar _ _ _ _); apply g_var; exact rfl)
  | with_reducible refine g_c ?_
  | with_reducible refine g_name ?_
  | with_reducible refine g_ifs ?_
  | with_reducible refine g_tt ?_
  | with_reducible refine g_tB ?_
  | with_reducible refine g_bl ?_
  | with_reducible refine g_ret ?_
  | with_reducible refine g_cb ?_
  | with_reducible refine g_cons ?_
  | with_reducible refine g_nil ?_
  | with_reducible refine g_call ?_
  | with_reducible refine g_and ?_
  | with_reducible refine g_or ?_
  | with_reducible refine g_not ?_
  | with_reducible refine g_andV ?_
  | with_reducible refine g_orV ?_
  | with_reducible refine g_notV ?_
  | with_reducible refine g_if ?_
  | with_reducible refine g_un ?_
  | with_reducible refine g_neg ?_
  | with_reducible refine g_addI ?_
  | with_reducible refine g_subI ?_
  | with_reducible refine g_subB ?_
  | with_reducible refine g_I0 ?_
  | with_reducible refine g_cmpI ?_
  | with_reducible refine g_eqI ?_
  | with_reducible refine g_neI ?_
  | with_reducible refine g_eqS ?_
  | with_reducible refine g_neS ?_
  | with_reducible refine g_eqB ?_
  | with_reducible refine g_neB ?_
  | with_reducible refine g_bits ?_
  | with_reducible refine g_bitsI ?_
  | with_reducible refine g_fld ?_
  | with_reducible refine g_tup ?_
  | with_reducible refine g_lst ?_
  | with_reducible refine g_gtup ?_
  | with_reducible refine g_make ?_
  | with_reducible refine g_lc ?_
  | with_reducible refine g_yesT ?_
  | with_reducible refine g_intI ?_
  | with_reducible refine g_intB ?_
  | with_reducible refine g_max2 ?_
  | with_reducible refine g_abs1 ?_
  | with_reducible refine g_for ?_
  | with_reducible refine g_iList ?_
  | with_reducible refine g_iTup ?_
  | with_reducible refine g_iRng1 ?_
  | with_reducible refine g_iEnum ?_
  | with_reducible refine g_slice ?_
  | with_reducible refine g_po0 ?_
  | with_reducible refine g_po1 ?_
  | with_reducible refine g_gsub ?_
  | with_reducible refine g_par ?_
  | with_reducible refine g_par2 ?_
  | with_reducible refine g_rfl ?_
  | with_reducible refine g_meth ?_
  | with_reducible refine g_gcons ?_
  | with_reducible refine g_gnil ?_
  | with_reducible refine g_gfld ?_
  | with_reducible refine g_sfld ?_
  | with_reducible refine g_drop ?_
  | with_reducible refine g_next ?_
  | with_reducible refine iteT ?_
  | with_reducible refine iteF ?_)
local macro_rules | `(tactic| walk_at "go") => `(tactic| (repeat walk_at "u"))
local macro_rules | `(tactic| walk_at "f") => `(tactic| (repeat (first
  | walk_at "u"
  | with_reducible refine g_chain ?_
  | with_reducible refine g_par3 ?_
  | with_reducible refine g_par3' ?_
  | ((with_reducible refine show_ex ?_); first
    | refine fT (by assumption) (by assumption) ?_
    | refine fS (by assumption) (by assumption) ?_
    | refine fP (by assumption) (by assumption) ?_))))

section
variable {P : Program} {w : World} {K : PySem.W.Frag} {mg : Str → Option Value} {base : Heap} {C CT : Addr}
theorem g_lstZip {K : PySem.W.Frag} {ta : TA} {σ : L2.St} {H : Hp} {Q : VK} (h : ta σ H fun vs H1 => ∃ a b xs ys, vs = [.ref a, .ref b] ∧ SqL K H1 a xs ∧ SqL K H1 b ys ∧ xs.length = ys.length ∧
  ∀ H' q zs, H1 q = none → Same H1 H' → H' q = some (.lst zs) → zs.length = xs.length → (∀ (j : Nat) (z : V), zs[j]? = some z → ∃ T x y, z = .ref T ∧ H' T = some (.tup [x, y]) ∧ xs[j]? = some x ∧ ys[j]? = some y) → Q (.ref q) H') : tLstZip K ta σ H Q := h
/-! what the bits tell -/
theorem shl_bits {x m : Int} (b : Nat → Int) (hb : ∀ i : Nat, i < 64 → b i = if 0 ≤ (i : Int) - m ∧ (i : Int) - m < 64 then bitI x ((i : Int) - m).toNat else 0) : numN b = shlV x m := by
  unfold shlV
  by_cases h : m ≤ -64 ∨ 64 ≤ m
  · rw [if_pos h]
    have : numN b = numN fun _ => 0 := num_congr fun i hi => by
      rw [hb i hi, if_neg (by omega)]
    rw [this]
    have z : ∀ n, sumB (fun _ => 0) n = 0 := fun n => by
      induction n with
      | zero => rfl
      | succ n ih => show sumB (fun _ => 0) n + 0 * 2 ^ n = 0; rw [ih, Int.zero_mul]; rfl
    unfold numN
    rw [z]; rfl
  · rw [if_neg h]
    by_cases h0 : m < 0
    · rw [if_pos h0]
      show _ = wrB _
      rw [← num_bit]
      refine num_congr fun i hi => ?_
      rw [hb i hi, bit_shr, Int.fmod_eq_emod_of_nonneg _ (by decide), show (18446744073709551616 : Int) = 2 ^ 64 by decide, bit_mod]
      by_cases h1 : (i : Int) - m < 64
      · rw [if_pos ⟨by omega, h1⟩, if_pos (by omega)]
        congr 1
        omega
      · rw [if_neg (fun z => h1 z.2), if_neg (by omega)]
    · rw [if_neg h0]
      show _ = wrB _
      rw [← num_bit]
      refine num_congr fun i hi => ?_
      rw [hb i hi, bit_shl]
      by_cases h1 : m.toNat ≤ i
      · rw [if_pos ⟨by omega, by omega⟩, if_pos h1]
        congr 1
        omega
      · rw [if_neg (fun z => h1 (by omega)), if_neg h1]
theorem bits_wr {z : Int} (h : r64 z) (b : Nat → Int) (hb : ∀ i : Nat, i < 64 → b i = bitI z i) : numN b = z := by
  rw [num_congr hb, num_bit, wr_id h.1 h.2]
theorem if01 {p : Prop} [Decidable p] {a : Int} (h : 0 ≤ a ∧ a ≤ 1) : (0 : Int) ≤ (if p then a else 0) ∧ (if p then a else 0) ≤ (1 : Int) := by
  split
  · exact h
  · decide
abbrev s_Ldue : Stmt := top 46
theorem sc_Ldue : FnScope ["_law_word", "_law_one_here", "_law_other", "_law_first", "_law_second", "_law_far", "_law_found", "_law_k", "_law_pairs", "_law_a", "_law_b"] ["_law_word", "_law_one_here", "_law_other"] (defScope s_Ldue) := ⟨rfl, rfl, rfl, by decide +kernel, rfl, by decide +kernel, by decide +kernel⟩
def sp_Ldue : Sp := fun vs H Q _ => ∃ (c : Str) (x y : Int), vs = [.str c, .int x, .int y] ∧ Wd5 c ∧ r64 x ∧ r64 y ∧ ∀ H', Same H H' → Q (.int (bitsV c x y)) H'
theorem ok_Ldue {f : Addr} {fd : FuncData} (F : FunD K "_law_due" "_law_due" (defArgs s_Ldue) (defBody s_Ldue) (defScope s_Ldue) [] [] f fd) (B : Blt mg) (c_Lbits : Fn P w K mg base CX0 1 "_law_bits" ["_law_number_here"] [] sp_Lbits) (c_Lnumberof : Fn P w K mg base CX0 1 "_law_number_of" ["_law_bits_here"] [] sp_Lnumof) : FnOk P w K mg base CX0 3 f fd ["_law_word", "_law_one_here", "_law_other"] sp_Ldue := by
  refine F.ok sc_Ldue (fun vs H Q E h => ?_) (fun cdv A outer s H vs Q E hr h => ?_)
  · obtain ⟨_, _, _, rfl, _⟩ := h; rfl
  · obtain ⟨c, x, y, rfl, hc, hx, hy, q⟩ := h
    refine ⟨_, PSs.nox (pss_cons (ps_par (i := 3) (j := 4) rfl sc_Ldue.nd rfl rfl (by decide) rfl rfl (pa_cons (pe_fn c_Lbits (hr.mono (by first | decide | omega)) pass0 (pa_cons (pv 1) pa_nil)) (pa_cons (pe_fn c_Lbits (hr.mono (by first | decide | omega)) pass0 (pa_cons (pv 2) pa_nil)) pa_nil)) (by rfl))
  (pss_cons (ps_if (pt_cmpR op_in_seq (pv 0) (pe_tupN (pa_cons pe_str (pa_cons pe_str pa_nil))) (by rfl)) (pss_cons (ps_set (i := 5) sc_Ldue.nd rfl (Or.inl rfl) (pe_ifExp (pt_cmpR (op_oEq hr.units) (pv 0) pe_str (nomark _)) (pv 2) (pe_op op_oSub pe_int (pv 2))))
  (pss_cons (ps_set (i := 6) sc_Ldue.nd rfl (Or.inl rfl) (pe_lstN pa_nil))
  (pss_cons (ps_for PassesOwn.never rfl (pi_range1 (by rfl) B.range (pa_cons pe_int pa_nil)) (pg_name (i := 7) sc_Ldue.nd rfl (Or.inl rfl))
    (pss_one (ps_expr (pe_bm PySem.F.plainAttrs_list PySem.F.slot_list_append PySem.F.type_list_append mt_append (pv 6) (pa_cons (pe_ifExp (pt_chain op_oLe op_oLt pe_int (pe_op op_oSub (pv 7) (pv 5)) pe_int) (pe_ix ix_seq (pv 3) (pe_op op_oSub (pv 7) (pv 5)) (fun _ _ => rfl)) pe_int) pa_nil)))))
  (pss_one (ps_ret (pe_fn c_Lnumberof (hr.mono (by first | decide | omega)) pass0 (pa_cons (pv 6) pa_nil))))))) pss_nil)
  (pss_cons (ps_set (i := 8) sc_Ldue.nd rfl (Or.inl rfl) (pe_listZip rfl (by rfl) B.list (by rfl) B.zip (pa_cons (pv 3) (pa_cons (pv 4) pa_nil))))
  (pss_cons (ps_if (pt_cmpR (op_oEq hr.units) (pv 0) pe_str (nomark _)) (pss_one (ps_ret (pe_fn c_Lnumberof (hr.mono (by first | decide | omega)) pass0 (pa_cons (pe_lc (own := [("_law_a", 9), ("_law_b", 10)]) (g := gTup K 2 (gCons (gName 9) (gCons (gName 10) gNil))) rfl sc_Ldue.nd (pi_list (pv 8)) (blkOk_by (own := [("_law_a", 9), ("_law_b", 10)]) (N := ["_law_word", "_law_one_here", "_law_other", "_law_first", "_law_second", "_law_far", "_law_found", "_law_k", "_law_pairs", "_law_a", "_law_b"]) (sc := defScope s_Ldue) (by decide +kernel)) (fun _ _ _ _ _ => pg_tupE K rfl rfl (pgs_cons (pg_name (i := 9) sc_Ldue.nd rfl (Or.inl rfl)) (pgs_cons (pg_name (i := 10) sc_Ldue.nd rfl (Or.inl rfl)) pgs_nil))) (fun _ _ _ _ _ => pts_nil) (fun _ _ _ _ _ => (pe_op op_oMul (pv 9) (pv 10)))) pa_nil)))) pss_nil)
  (pss_cons (ps_if (pt_cmpR (op_oEq hr.units) (pv 0) pe_str (nomark _)) (pss_one (ps_ret (pe_fn c_Lnumberof (hr.mono (by first | decide | omega)) pass0 (pa_cons (pe_lc (own := [("_law_a", 9), ("_law_b", 10)]) (g := gTup K 2 (gCons (gName 9) (gCons (gName 10) gNil))) rfl sc_Ldue.nd (pi_list (pv 8)) (blkOk_by (own := [("_law_a", 9), ("_law_b", 10)]) (N := ["_law_word", "_law_one_here", "_law_other", "_law_first", "_law_second", "_law_far", "_law_found", "_law_k", "_law_pairs", "_law_a", "_law_b"]) (sc := defScope s_Ldue) (by decide +kernel)) (fun _ _ _ _ _ => pg_tupE K rfl rfl (pgs_cons (pg_name (i := 9) sc_Ldue.nd rfl (Or.inl rfl)) (pgs_cons (pg_name (i := 10) sc_Ldue.nd rfl (Or.inl rfl)) pgs_nil))) (fun _ _ _ _ _ => pts_nil) (fun _ _ _ _ _ => (pe_callB (call_max2 rfl) (by rfl) B.max (by decide +kernel) (pa_cons (pv 9) (pa_cons (pv 10) pa_nil))))) pa_nil)))) pss_nil)
  (pss_one (ps_ret (pe_fn c_Lnumberof (hr.mono (by first | decide | omega)) pass0 (pa_cons (pe_lc (own := [("_law_a", 9), ("_law_b", 10)]) (g := gTup K 2 (gCons (gName 9) (gCons (gName 10) gNil))) rfl sc_Ldue.nd (pi_list (pv 8)) (blkOk_by (own := [("_law_a", 9), ("_law_b", 10)]) (N := ["_law_word", "_law_one_here", "_law_other", "_law_first", "_law_second", "_law_far", "_law_found", "_law_k", "_law_pairs", "_law_a", "_law_b"]) (sc := defScope s_Ldue) (by decide +kernel)) (fun _ _ _ _ _ => pg_tupE K rfl rfl (pgs_cons (pg_name (i := 9) sc_Ldue.nd rfl (Or.inl rfl)) (pgs_cons (pg_name (i := 10) sc_Ldue.nd rfl (Or.inl rfl)) pgs_nil))) (fun _ _ _ _ _ => pts_nil) (fun _ _ _ _ _ => (pe_callTy call_int1 (by rfl) B.int (by decide +kernel) (pa_cons (pe_cmpR (op_oNeE K rfl hr.units) (pv 9) (pv 10) (nomark _)) pa_nil)))) pa_nil))))))))), ?_⟩
    walk_at "f"
    refine ⟨x, rfl, hx, fun H1 l1 n1 s1 h1 => ?_⟩
    walk_at "f"
    refine ⟨y, rfl, hy, fun H2 l2 n2 s2 h2 => ?_⟩
    have h1 := s2 _ _ h1
    walk_at "f"
    refine g_new (sz rfl) fun p3 H3 n3 s3 h3 _ => ?_
    refine ⟨p3, _, rfl, .inr (SqT.of h3), rfl, rfl, _, rfl, ?_⟩
    have h1 := s3 _ _ h1
    have h2 := s3 _ _ h2
    have S3 := s1.trans (s2.trans s3)
    refine g_iteb (fun e => ?_) fun e => ?_
    · have hsh : c = "shl" ∨ c = "shr" := by
        rcases hc with rfl | rfl | rfl | h | h
        · cases e
        · cases e
        · cases e
        · exact .inl h
        · exact .inr h
      walk_at "f"
      rcases hsh with rfl | rfl
      · refine g_yes rfl ?_
        have q : ∀ H', Same H H' → Q (.int (shlV x y)) H' := q
        walk_at "f"
        refine g_new (sz rfl) fun l4 H4 n4 s4 h4 _ => ?_
        walk_at "f"
        refine ⟨by decide, by decide, ?_⟩
        refine for_range (lo := 0) (n := 64) (fun i σ' H' => Same H3 H' ∧ H' l4 = some (.lst (bitL (fun i => if 0 ≤ (i : Int) - y ∧ (i : Int) - y < 64 then bitI x ((i : Int) - y).toNat else 0) i)) ∧ ∃ k, σ' = [some (V.str "shl"), some (.int x), some (.int y), some (.ref l1), some (.ref l2), some (.int y), some (.ref l4), k, none, none, none]) ⟨s4, h4, _, rfl⟩ ?_ ?_
        · rintro i _ H5 hi ⟨s5, h5, k, rfl⟩
          walk_at "f"
          refine g_bm ?_
          walk_at "f"
          refine ⟨.inl ⟨rfl, _, SqL.of h5⟩, ?_⟩
          walk_at "f"
          have app : ∀ v : Int, v = (if 0 ≤ (i : Int) - y ∧ (i : Int) - y < 64 then bitI x ((i : Int) - y).toNat else 0) → Same H3 (upd H5 l4 (.lst (bitL (fun i => if 0 ≤ (i : Int) - y ∧ (i : Int) - y < 64 then bitI x ((i : Int) - y).toNat else 0) i ++ [V.int v]))) ∧ (upd H5 l4 (.lst (bitL (fun i => if 0 ≤ (i : Int) - y ∧ (i : Int) - y < 64 then bitI x ((i : Int) - y).toNat else 0) i ++ [V.int v]))) l4 = some (.lst (bitL (fun i => if 0 ≤ (i : Int) - y ∧ (i : Int) - y < 64 then bitI x ((i : Int) - y).toNat else 0) (i + 1))) := fun v ev =>
            ⟨upd_sameW s5 n4, by rw [upd_same, bitL_succ, ev]⟩
          have lt : (bitL (fun i => if 0 ≤ (i : Int) - y ∧ (i : Int) - y < 64 then bitI x ((i : Int) - y).toNat else 0) i).length < sizeLine := Nat.lt_of_le_of_lt (show _ ≤ 100 by rw [bitL_len]; omega) (by decide)
          rw [Int.zero_add]
          refine g_ite (fun e1 => ?_) fun e1 => ?_
          · walk_at "f"
            refine g_ite (fun e2 => ?_) fun e2 => ?_
            · walk_at "f"
              refine g_ixL (s5 _ _ h1) (atI_of e1 (bitL_at (by omega))) ?_
              walk_at "f"
              refine ⟨l4, _, _, rfl, rfl, h5, lt, ?_⟩
              obtain ⟨a1, a2⟩ := app _ (if_pos ⟨e1, e2⟩).symm
              walk_at "f"
              exact ⟨a1, a2, _, rfl⟩
            · walk_at "f"
              refine ⟨l4, _, _, rfl, rfl, h5, lt, ?_⟩
              obtain ⟨a1, a2⟩ := app 0 (if_neg (fun z => e2 z.2)).symm
              walk_at "f"
              exact ⟨a1, a2, _, rfl⟩
          · walk_at "f"
            refine ⟨l4, _, _, rfl, rfl, h5, lt, ?_⟩
            obtain ⟨a1, a2⟩ := app 0 (if_neg (fun z => e1 z.1)).symm
            walk_at "f"
            exact ⟨a1, a2, _, rfl⟩
        · rintro _ H5 ⟨s5, h5, k, rfl⟩
          walk_at "f"
          refine ⟨l4, _, rfl, h5, fun i hi => ?_, ?_⟩
          · refine if01 ?_
            rcases bit01 x ((i : Int) - y).toNat with z | z <;> rw [z] <;> decide
          · rw [shl_bits (x := x) (m := y) _ fun i _ => rfl]
            exact q _ (S3.trans s5)
      · refine g_no (by decide) ?_
        have q : ∀ H', Same H H' → Q (.int (shlV x (0 - y))) H' := q
        walk_at "f"
        generalize 0 - y = m at q ⊢
        walk_at "f"
        refine g_new (sz rfl) fun l4 H4 n4 s4 h4 _ => ?_
        walk_at "f"
        refine ⟨by decide, by decide, ?_⟩
        refine for_range (lo := 0) (n := 64) (fun i σ' H' => Same H3 H' ∧ H' l4 = some (.lst (bitL (fun i => if 0 ≤ (i : Int) - m ∧ (i : Int) - m < 64 then bitI x ((i : Int) - m).toNat else 0) i)) ∧ ∃ k, σ' = [some (V.str "shr"), some (.int x), some (.int y), some (.ref l1), some (.ref l2), some (.int m), some (.ref l4), k, none, none, none]) ⟨s4, h4, _, rfl⟩ ?_ ?_
        · rintro i _ H5 hi ⟨s5, h5, k, rfl⟩
          walk_at "f"
          refine g_bm ?_
          walk_at "f"
          refine ⟨.inl ⟨rfl, _, SqL.of h5⟩, ?_⟩
          walk_at "f"
          have app : ∀ v : Int, v = (if 0 ≤ (i : Int) - m ∧ (i : Int) - m < 64 then bitI x ((i : Int) - m).toNat else 0) → Same H3 (upd H5 l4 (.lst (bitL (fun i => if 0 ≤ (i : Int) - m ∧ (i : Int) - m < 64 then bitI x ((i : Int) - m).toNat else 0) i ++ [V.int v]))) ∧ (upd H5 l4 (.lst (bitL (fun i => if 0 ≤ (i : Int) - m ∧ (i : Int) - m < 64 then bitI x ((i : Int) - m).toNat else 0) i ++ [V.int v]))) l4 = some (.lst (bitL (fun i => if 0 ≤ (i : Int) - m ∧ (i : Int) - m < 64 then bitI x ((i : Int) - m).toNat else 0) (i + 1))) := fun v ev =>
            ⟨upd_sameW s5 n4, by rw [upd_same, bitL_succ, ev]⟩
          have lt : (bitL (fun i => if 0 ≤ (i : Int) - m ∧ (i : Int) - m < 64 then bitI x ((i : Int) - m).toNat else 0) i).length < sizeLine := Nat.lt_of_le_of_lt (show _ ≤ 100 by rw [bitL_len]; omega) (by decide)
          rw [Int.zero_add]
          refine g_ite (fun e1 => ?_) fun e1 => ?_
          · walk_at "f"
            refine g_ite (fun e2 => ?_) fun e2 => ?_
            · walk_at "f"
              refine g_ixL (s5 _ _ h1) (atI_of e1 (bitL_at (by omega))) ?_
              walk_at "f"
              refine ⟨l4, _, _, rfl, rfl, h5, lt, ?_⟩
              obtain ⟨a1, a2⟩ := app _ (if_pos ⟨e1, e2⟩).symm
              walk_at "f"
              exact ⟨a1, a2, _, rfl⟩
            · walk_at "f"
              refine ⟨l4, _, _, rfl, rfl, h5, lt, ?_⟩
              obtain ⟨a1, a2⟩ := app 0 (if_neg (fun z => e2 z.2)).symm
              walk_at "f"
              exact ⟨a1, a2, _, rfl⟩
          · walk_at "f"
            refine ⟨l4, _, _, rfl, rfl, h5, lt, ?_⟩
            obtain ⟨a1, a2⟩ := app 0 (if_neg (fun z => e1 z.1)).symm
            walk_at "f"
            exact ⟨a1, a2, _, rfl⟩
        · rintro _ H5 ⟨s5, h5, k, rfl⟩
          walk_at "f"
          refine ⟨l4, _, rfl, h5, fun i hi => ?_, ?_⟩
          · refine if01 ?_
            rcases bit01 x ((i : Int) - m).toNat with z | z <;> rw [z] <;> decide
          · rw [shl_bits (x := x) (m := m) _ fun i _ => rfl]
            exact q _ (S3.trans s5)
    · walk_at "f"
      refine g_lstZip ?_
      walk_at "f"
      refine ⟨l1, l2, _, _, rfl, SqL.of h1, SqL.of h2, by rw [bitL_len, bitL_len], fun H4 pr zs n4 s4 h4 zl zi => ?_⟩
      have hw : c = "band" ∨ c = "bor" ∨ c = "bxor" := by
        rcases hc with h | h | h | rfl | rfl
        · exact .inl h
        · exact .inr (.inl h)
        · exact .inr (.inr h)
        · cases e
        · cases e
      walk_at "f"
      rcases hw with rfl | rfl | rfl
      · refine g_yes rfl ?_
        have q : ∀ H', Same H H' → Q (.int (Builtin.bitAnd x y)) H' := q
        walk_at "f"
        refine ⟨pr, rfl, ⟨_, SqL.of h4⟩, fun D5 n5 => lc_it (walk_list (xs := zs)) (fun i H' => Same H4 H' ∧ H' D5 = some (.lst (bitL (fun i => bitI x i * bitI y i) i))) ⟨upd_sameW (Same.refl _) n5, upd_same⟩ (fun i H' _ p => SqL.of (p.1 _ _ h4)) (fun i z H6 H6' hi p ez => ?_) fun H6 p => ?_⟩
        · obtain ⟨s6, h6⟩ := p
          obtain ⟨rfl, ez⟩ := ez
          obtain ⟨T, u, v, rfl, hT, hu, hv⟩ := zi i z ez
          have hi : i < 64 := by
            have hi : i < zs.length := hi
            rw [zl, bitL_len] at hi; exact hi
          rw [bitL_at hi] at hu hv
          cases hu; cases hv
          have lt : (bitL (fun i => bitI x i * bitI y i) i).length < sizeLine := Nat.lt_of_le_of_lt (show _ ≤ 100 by rw [bitL_len]; omega) (by decide)
          have app : ∀ w : Int, w = (fun i : Nat => bitI x i * bitI y i) i → Same H4 (upd H6' D5 (.lst (bitL (fun i => bitI x i * bitI y i) i ++ [V.int w]))) ∧ (upd H6' D5 (.lst (bitL (fun i => bitI x i * bitI y i) i ++ [V.int w]))) D5 = some (.lst (bitL (fun i => bitI x i * bitI y i) (i + 1))) := fun w ew =>
            ⟨upd_sameW s6 n5, by rw [upd_same, bitL_succ, ew]⟩
          walk_at "f"
          refine ⟨T, _, rfl, SqT.of (s6 _ _ hT), rfl, ?_⟩
          walk_at "f"
          refine ⟨rfl, ?_⟩
          walk_at "f"
          refine g_mulI (.of_left (by rcases bit01 x i with z | z <;> rw [z] <;> decide)) ?_
          walk_at "f"
          obtain ⟨a1, a2⟩ := app _ rfl
          exact ⟨_, h6, lt, a1, a2⟩
        · obtain ⟨s6, h6⟩ := p
          rw [zl, bitL_len] at h6
          walk_at "f"
          refine ⟨D5, _, rfl, h6, fun i hi => ?_, ?_⟩
          · rcases bit01 x i with z | z <;> rcases bit01 y i with z2 | z2 <;> simp only [z, z2] <;> decide
          · rw [bits_wr (r64_and hx hy) _ fun i _ => (bit_and x y i).symm]
            exact q _ (S3.trans (s4.trans s6))

      · refine g_no (by decide) ?_
        walk_at "f"
        refine g_yes rfl ?_
        have q : ∀ H', Same H H' → Q (.int (Builtin.bitOr x y)) H' := q
        walk_at "f"
        refine ⟨pr, rfl, ⟨_, SqL.of h4⟩, fun D5 n5 => lc_it (walk_list (xs := zs)) (fun i H' => Same H4 H' ∧ H' D5 = some (.lst (bitL (fun i => if bitI y i > bitI x i then bitI y i else bitI x i) i))) ⟨upd_sameW (Same.refl _) n5, upd_same⟩ (fun i H' _ p => SqL.of (p.1 _ _ h4)) (fun i z H6 H6' hi p ez => ?_) fun H6 p => ?_⟩
        · obtain ⟨s6, h6⟩ := p
          obtain ⟨rfl, ez⟩ := ez
          obtain ⟨T, u, v, rfl, hT, hu, hv⟩ := zi i z ez
          have hi : i < 64 := by
            have hi : i < zs.length := hi
            rw [zl, bitL_len] at hi; exact hi
          rw [bitL_at hi] at hu hv
          cases hu; cases hv
          have lt : (bitL (fun i => if bitI y i > bitI x i then bitI y i else bitI x i) i).length < sizeLine := Nat.lt_of_le_of_lt (show _ ≤ 100 by rw [bitL_len]; omega) (by decide)
          have app : ∀ w : Int, w = (fun i : Nat => if bitI y i > bitI x i then bitI y i else bitI x i) i → Same H4 (upd H6' D5 (.lst (bitL (fun i => if bitI y i > bitI x i then bitI y i else bitI x i) i ++ [V.int w]))) ∧ (upd H6' D5 (.lst (bitL (fun i => if bitI y i > bitI x i then bitI y i else bitI x i) i ++ [V.int w]))) D5 = some (.lst (bitL (fun i => if bitI y i > bitI x i then bitI y i else bitI x i) (i + 1))) := fun w ew =>
            ⟨upd_sameW s6 n5, by rw [upd_same, bitL_succ, ew]⟩
          walk_at "f"
          refine ⟨T, _, rfl, SqT.of (s6 _ _ hT), rfl, ?_⟩
          walk_at "f"
          refine ⟨rfl, ?_⟩
          walk_at "f"
          obtain ⟨a1, a2⟩ := app _ rfl
          exact ⟨_, h6, lt, a1, a2⟩
        · obtain ⟨s6, h6⟩ := p
          rw [zl, bitL_len] at h6
          walk_at "f"
          refine ⟨D5, _, rfl, h6, fun i hi => ?_, ?_⟩
          · rcases bit01 x i with z | z <;> rcases bit01 y i with z2 | z2 <;> simp only [z, z2] <;> decide
          · rw [bits_wr (r64_or hx hy) _ fun i _ => (bit_or x y i).symm]
            exact q _ (S3.trans (s4.trans s6))

      · refine g_no (by decide) ?_
        walk_at "f"
        refine g_no (by decide) ?_
        have q : ∀ H', Same H H' → Q (.int (Builtin.bitXor x y)) H' := q
        walk_at "f"
        refine ⟨pr, rfl, ⟨_, SqL.of h4⟩, fun D5 n5 => lc_it (walk_list (xs := zs)) (fun i H' => Same H4 H' ∧ H' D5 = some (.lst (bitL (fun i => if bitI x i = bitI y i then 0 else 1) i))) ⟨upd_sameW (Same.refl _) n5, upd_same⟩ (fun i H' _ p => SqL.of (p.1 _ _ h4)) (fun i z H6 H6' hi p ez => ?_) fun H6 p => ?_⟩
        · obtain ⟨s6, h6⟩ := p
          obtain ⟨rfl, ez⟩ := ez
          obtain ⟨T, u, v, rfl, hT, hu, hv⟩ := zi i z ez
          have hi : i < 64 := by
            have hi : i < zs.length := hi
            rw [zl, bitL_len] at hi; exact hi
          rw [bitL_at hi] at hu hv
          cases hu; cases hv
          have lt : (bitL (fun i => if bitI x i = bitI y i then 0 else 1) i).length < sizeLine := Nat.lt_of_le_of_lt (show _ ≤ 100 by rw [bitL_len]; omega) (by decide)
          have app : ∀ w : Int, w = (fun i : Nat => if bitI x i = bitI y i then 0 else 1) i → Same H4 (upd H6' D5 (.lst (bitL (fun i => if bitI x i = bitI y i then 0 else 1) i ++ [V.int w]))) ∧ (upd H6' D5 (.lst (bitL (fun i => if bitI x i = bitI y i then 0 else 1) i ++ [V.int w]))) D5 = some (.lst (bitL (fun i => if bitI x i = bitI y i then 0 else 1) (i + 1))) := fun w ew =>
            ⟨upd_sameW s6 n5, by rw [upd_same, bitL_succ, ew]⟩
          walk_at "f"
          refine ⟨T, _, rfl, SqT.of (s6 _ _ hT), rfl, ?_⟩
          walk_at "f"
          refine ⟨rfl, ?_⟩
          walk_at "f"
          obtain ⟨a1, a2⟩ := app (if (!decide (bitI x i = bitI y i)) = true then 1 else 0) (by by_cases h : bitI x i = bitI y i <;> simp [h])
          exact ⟨_, h6, lt, a1, a2⟩
        · obtain ⟨s6, h6⟩ := p
          rw [zl, bitL_len] at h6
          walk_at "f"
          refine ⟨D5, _, rfl, h6, fun i hi => ?_, ?_⟩
          · rcases bit01 x i with z | z <;> rcases bit01 y i with z2 | z2 <;> simp only [z, z2] <;> decide
          · rw [bits_wr (r64_xor hx hy) _ fun i _ => (bit_xor x y i).symm]
            exact q _ (S3.trans (s4.trans s6))

end
end Up

set_option Elab.async false
set_option linter.all false
set_option pp.maxSteps 600
set_option maxRecDepth 100000
set_option maxHeartbeats 4000000
set_option exponentiation.threshold 200000
namespace Up
open PySem PySem.Spec PyProof.Rows L2 LamX
local macro_rules | `(tactic| walk_at "u") => `(tactic| first
  | with_reducible refine g_seq ?_
  | with_reducible refine g_asg ?_
  | with_reducible refine g_op ?_
  | ((with_reducible show tVar _ _ _ _); apply g_var; exact rfl)
  | with_reducible refine g_c ?_
  | with_reducible refine g_name ?_
  | with_reducible refine g_ifs ?_
  | with_reducible refine g_tt ?_
  | with_reducible refine g_tB ?_
  | with_reducible refine g_bl ?_
  | with_reducible refine g_ret ?_
  | with_reducible refine g_cb ?_
  | with_reducible refine g_cons ?_
  | with_reducible refine g_nil ?_
  | with_reducible refine g_call ?_
  | with_reducible refine g_and ?_
  | with_reducible refine g_or ?_
  | with_reducible refine g_not ?_
  | with_reducible refine g_andV ?_
  | with_reducible refine g_orV ?_
  | with_reducible refine g_notV ?_
  | with_reducible refine g_if ?_
  | with_reducible refine g_un ?_
  | with_reducible refine g_neg ?_
  | with_reducible refine g_addI ?_
  | with_reducible refine g_subI ?_
  | with_reducible refine g_subB ?_
  | with_reducible refine g_I0 ?_
  | with_reducible refine g_cmpI ?_
  | with_reducible refine g_eqI ?_
  | with_reducible refine g_neI ?_
  | with_reducible refine g_eqS ?_
  | with_reducible refine g_neS ?_
  | with_reducible refine g_eqB ?_
  | with_reducible refine g_neB ?_
  | with_reducible refine g_bits ?_
  | with_reducible refine g_bitsI ?_
  | with_reducible refine g_fld ?_
  | with_reducible refine g_tup ?_
  | with_reducible refine g_lst ?_
  | with_reducible refine g_gtup ?_
  | with_reducible refine g_make ?_
  | with_reducible refine g_lc ?_
  | with_reducible refine g_yesT ?_
  | with_reducible refine g_intI ?_
  | with_reducible refine g_intB ?_
  | with_reducible refine g_max2 ?_
  | with_reducible refine g_abs1 ?_
  | with_reducible refine g_for ?_
  | with_reducible refine g_iList ?_
  | with_reducible refine g_iTup ?_
  | with_reducible refine g_iRng1 ?_
  | with_reducible refine g_iEnum ?_
  | with_reducible refine g_slice ?_
  | with_reducible refine g_po0 ?_
  | with_reducible refine g_po1 ?_
  | with_reducible refine g_gsub ?_
  | with_reducible refine g_par ?_
  | with_reducible refine g_par2 ?_
  | with_reducible refine g_rfl ?_
  | with_reducible refine g_meth ?_
  | with_reducible refine g_gcons ?_
  | with_reducible refine g_gnil ?_
  | with_reducible refine g_gfld ?_
  | with_reducible refine g_sfld ?_
  | with_reducible refine g_drop ?_
  | with_reducible refine g_next ?_
  | with_reducible refine iteT ?_
  | with_reducible refine iteF ?_)
local macro_rules | `(tactic| walk_at "go") => `(tactic| (repeat walk_at "u"))
local macro_rules | `(tactic| walk_at "f") => `(tactic| (repeat (first
  | walk_at "u"
  | with_reducible refine g_chain ?_
  | with_reducible refine g_par3 ?_
  | with_reducible refine g_par3' ?_
  | ((with_reducible refine show_ex ?_); first
    | refine fT (by assumption) (by assumption) ?_
    | refine fS (by assumption) (by assumption) ?_
    | refine fP (by assumption) (by assumption) ?_))))

section
variable {P : Program} {w : World} {K : PySem.W.Frag} {mg : Str → Option Value} {base : Heap} {C CT : Addr}
/-! negated -/
abbrev s_negated : Stmt := top 32
theorem sc_negated : FnScope ["number"] ["number"] (defScope s_negated) := ⟨rfl, rfl, rfl, by decide +kernel, rfl, by decide +kernel, by decide +kernel⟩
def negN : Nm → Nm
  | .i i => .i (wrapI (0 - i))
  | .f s t p => if t = .str "nan" then .f s t p else .f (0 - s) t p
def sp_neg (C : Addr) : Sp := fun vs H Q _ => ∃ v n, vs = [v] ∧ NumAt C H v n ∧ ∀ H' v', Same H H' → NumAt C H' v' (negN n) → Q v' H'
theorem ok_neg {f : Addr} {fd : FuncData} (F : FunD K "negated" "negated" (defArgs s_negated) (defBody s_negated) (defScope s_negated) [] [] f fd) (B : Blt mg) (T : FlC K mg C) (c_Float : CnF P w K mg base C) (c_wrapped : Fn P w K mg base CX0 1 "wrapped" ["number"] [] sp_wrapped) : FnOk P w K mg base CX0 4 f fd ["number"] (sp_neg C) := by
  have g_Float : mg "Float" = some (.ref C) := T.mg
  refine F.ok sc_negated (fun vs H Q E h => ?_) (fun cdv A outer s H vs Q E hr h => ?_)
  · obtain ⟨_, _, rfl, _⟩ := h; rfl
  · obtain ⟨v, n, rfl, hn, q⟩ := h
    obtain ⟨t, hk, _, _⟩ := hn.kf T
    refine ⟨_, PSs.nox (pss_cons (ps_if (pt_not (pt_val (pe_callB call_isi (by rfl) B.isinstance (by decide +kernel) (pa_cons (pv 0) (pa_cons (pe_gref g_Float) pa_nil))))) (pss_one (ps_ret (pe_fn c_wrapped (hr.mono (by first | decide | omega)) pass0 (pa_cons (pe_op op_oSub pe_int (pv 0)) pa_nil)))) pss_nil)
  (pss_cons (ps_if (pt_cmpR (op_oEq hr.units) (pe_fld (pv 0) rfl) pe_str (nomark _)) (pss_one (ps_ret (pv 0))) pss_nil)
  (pss_one (ps_ret (pe_cn c_Float (hr.mono (by first | decide | omega)) pass0 (pa_cons (pe_op op_oSub pe_int (pe_fld (pv 0) rfl)) (pa_cons (pe_fld (pv 0) rfl) (pa_cons (pe_fld (pv 0) rfl) pa_nil)))))))), ?_⟩
    walk_at "f"
    refine g_isiF hk ?_
    walk_at "f"
    cases n with
    | i k =>
      have hn : v = .int k := hn
      subst hn
      refine iteT ?_
      walk_at "f"
      exact ⟨_, rfl, q H _ (Same.refl _) rfl⟩
    | f sg tp p =>
      obtain ⟨a, rfl, ha, ok⟩ := hn
      refine iteF ?_
      walk_at "f"
      refine g_eqV ((show (⟨sg, tp, p⟩ : FL).ok from ok).is.scal (.str _)) ?_
      walk_at "f"
      refine g_ite (fun h1 => ?_) fun h1 => ?_
      · have e : negN (.f sg tp p) = .f sg tp p := if_pos h1
        rw [e] at q
        walk_at "f"
        exact q _ _ (Same.refl _) ⟨a, rfl, ha, ok⟩
      · have e : negN (.f sg tp p) = .f (0 - sg) tp p := if_neg h1
        rw [e] at q
        walk_at "f"
        obtain ⟨k1, k2⟩ := neg_mk (x := ⟨sg, tp, p⟩) ok h1
        refine mkF k1 fun H3 x3 n3 s3 h3 => ?_
        have k2 : (⟨0 - sg, (redV tp p).1, (redV tp p).2⟩ : FL) = ⟨0 - sg, tp, p⟩ := k2
        injection k2 with _ e1 e2
        rw [e1, e2] at h3
        have fo := mk_flok k1
        rw [e1, e2] at fo
        exact q _ _ s3 ⟨x3, rfl, h3, fo⟩
/-! _law_said -/
abbrev s_Lsaid : Stmt := top 47
theorem sc_Lsaid : FnScope ["_law_ask", "e"] ["_law_ask"] (defScope s_Lsaid) := ⟨rfl, rfl, rfl, by decide +kernel, rfl, by decide +kernel, by decide +kernel⟩
def TSaid (CT : Addr) : (XK → Hp → VK → Prop) → Hp → VK → Prop := fun tl H Q =>
  tl (fun cls d H' => ∃ dd v, cls = .ref CT ∧ d = some dd ∧ H' dd = some (.xd (thrF v (.int 1))) ∧ [v].length ≤ sizeLine ∧ NewAt H' (.lst [v]) Q) H (fun v H' => Q v H')
def tAct (f c' : Addr) (q : Str) (n : Nat) (tl : XK → Hp → VK → Prop) (W : WX) : TE := fun σ H Q => ∃ Ech : XK, (∀ cls d σ' H', Ech cls d H' → σ'.length = n → W cls d σ' H') ∧ σ[0]? = some (some (.ref f)) ∧ H c' = some (CodeO c' q) ∧ tl Ech H Q
theorem said_gives {X : Cx} {g : Addr} {cdg : Value} {q : Str} (TH : ThK X.K X.mg CT) : GivesTo X ["_law_ask", "e"] "_law_said" (defScope s_Lsaid) g cdg (defBody s_Lsaid) "_law_ask" q (TSaid CT) := by
  intro f c' s H Q tl act hc h
  have pa : ∀ (W : WX) (pn : List (Addr × Obj)) (xe : Value → Shared → Prop) (p1 p2 : Pos), Takes ((cxOf C8.CX0 X.prog X.w X.K X.mg X.base ["_law_ask", "e"] "_law_said" (defScope s_Lsaid) g cdg X.A X.stack s H C8.E0).tr pn xe) W →
      PE ((cxOf C8.CX0 X.prog X.w X.K X.mg X.base ["_law_ask", "e"] "_law_said" (defScope s_Lsaid) g cdg X.A X.stack s H C8.E0).tr pn xe) (.Call (.Name "_law_ask" p1) [] [] p2) (tAct f c' q 2 tl W) := fun W pn xe p1 p2 tk =>
    ⟨fun pins s σ H Q I ⟨Ech, hW, h1, h2, h3⟩ => (act _ pn xe Ech p1 p2 (Takes.len tk) hW).run pins s σ H Q I ⟨h1, h2, h3⟩⟩
  refine ⟨_, pss_one (ps_try_as (X := (cxOf C8.CX0 X.prog X.w X.K X.mg X.base ["_law_ask", "e"] "_law_said" (defScope s_Lsaid) g cdg X.A X.stack s H C8.E0).nox) (i := 1)
    (tb := fun W => tRet (tAct f c' q 2 tl W))
    (ts := fun a cls d => tRet (tLstN (tCons (tXf a cls d CT "value" (tVar 1)) tNil))) (Wout := fun _ _ _ _ => False) rfl rfl sc_Lsaid.nd rfl rfl ⟨rfl, by decide, Or.inl TH.mg⟩ L2.takes0
    (fun W pn xe tk _ => pss_one (ps_ret (by exact (pa W pn xe _ _ tk)))) (fun a oe cls d pn hz hf => pss_one (ps_ret (by exact (pe_lstN (pa_cons (pe_xf TH.xf TH.nV hz hf (pv 1)) pa_nil)))))), ?_⟩
  refine ⟨_, fun cls d σ' H' z hl => ?_, rfl, hc, h⟩
  obtain ⟨dd, v, rfl, rfl, hd, q⟩ := z
  refine ⟨true, TH.te, fun _ b nb => ?_, fun z => by cases z⟩
  show tRet (tLstN (tCons (tXf b (Value.ref CT) (some dd) CT "value" (tVar 1)) tNil)) _ _ _
  refine ⟨_, List.getElem?_set_self (by omega), rfl, rfl, dd, _, _, rfl, hd, thr_value _ _, ?_⟩
  exact q
theorem extI {H H' : Hp} (e : ExtN H H') {b c dx : Addr} {fs : List (Str × V)} (h : H b = some (.ins c dx fs)) : H' b = some (.ins c dx fs) := e _ _ h fun ps z => nomatch z
theorem extL {H H' : Hp} (e : ExtN H H') {b : Addr} {xs : List V} (h : H b = some (.lst xs)) : H' b = some (.lst xs) := e _ _ h fun ps z => nomatch z
theorem NumAt.ext {H H' : Hp} (x : ExtN H H') {v : V} : ∀ {n : Nm}, NumAt C H v n → NumAt C H' v n
  | .i _, h => h
  | .f _ _ _, ⟨b, e, ⟨dx, h⟩, o⟩ => ⟨b, e, ⟨dx, extI x h⟩, o⟩
theorem whole64 {n : Nm} (h : N64 n) {i : Int} (e : wholeN n = some i) : r64 i := by
  cases n with
  | i k => cases e; exact h
  | f s t p =>
    have e : wholeF s t p = some i := e
    unfold wholeF at e
    split at e
    · split at e
      · cases e
      · split at e
        · rename_i h2; cases e; exact h2
        · cases e
    · cases e
theorem scalW (o : Option Int) : scal (oW o) (oW o) = true := by cases o <;> rfl
theorem kfW (T : FlC K mg C) {H : Hp} (o : Option Int) : ∃ t, KnF K C H (oW o) t false := by
  cases o with
  | none => exact ⟨_, kf_non T⟩
  | some i => exact ⟨_, kf_int T⟩
theorem g_neLs {H : Hp} {p p' : Addr} {vs : List V} {Q : VK} (h1 : H p = some (.lst vs)) (h2 : H p' = some (.lst vs)) (hv : ∀ v ∈ vs, okV v) (q : Q (.bl false) H) : oNeG K (.ref p) (.ref p') H Q :=
  .inr ⟨0, by decide, .lst (SqL.of h1) (SqL.of h2) rfl fun i x y e1 e2 => by
    rw [e1] at e2; cases e2
    exact .same (hv _ (List.mem_of_getElem? e1)), q⟩
theorem okN1 {x : Str} : ∀ v ∈ [V.str x], okV v := fun v hv => by
  rw [List.mem_singleton] at hv
  subst hv; trivial
theorem g_saidV {tl : XK → Hp → VK → Prop} {H : Hp} {Q : VK} (h : tl (fun cls d H' => ∃ dd v, cls = .ref CT ∧ d = some dd ∧ H' dd = some (.xd (thrF v (.int 1))) ∧ [v].length ≤ sizeLine ∧ NewAt H' (.lst [v]) Q) H (fun v H' => Q v H')) : TSaid CT tl H Q := h
theorem thr_saidL {H : Hp} {v : V} {Q : VK} (q : ∀ H' p, Same H H' → H' p = some (.lst [v]) → Q (.ref p) H') : ThrR CT v H (fun cls d H' => ∃ dd v, cls = .ref CT ∧ d = some dd ∧ H' dd = some (.xd (thrF v (.int 1))) ∧ [v].length ≤ sizeLine ∧ NewAt H' (.lst [v]) Q) :=
  fun d H' s hd => ⟨d, v, rfl, rfl, hd, sz rfl, fun p H2 n2 s2 h2 _ => q H2 p (s.trans s2) h2⟩
theorem iteT' {p : Prop} [Decidable p] {A B : Prop} (hp : p) (h : A) : if p then A else B := by rw [if_pos hp]; exact h
theorem iteF' {p : Prop} [Decidable p] {A B : Prop} (hp : ¬ p) (h : B) : if p then A else B := by rw [if_neg hp]; exact h
structure LmG (P : Program) (w : World) (K : PySem.W.Frag) (mg : Str → Option Value) (base : Heap) (CT : Addr) (T : List (Addr × Str)) (c Pt : Addr) (q : Str) : Prop where
  fd : ∃ g fdg, FunD K "_law_said" "_law_said" (defArgs s_Lsaid) (defBody s_Lsaid) (defScope s_Lsaid) [] [] g fdg ∧ mg "_law_said" = some (.ref g) ∧ Binds K fdg ["_law_ask"] []
  th : ThK K mg CT
  tb : TabB base mg c Pt
  mem : (Pt, q) ∈ T
  un : ∀ p ∈ T, p.1 = Pt → p.2 = q
abbrev s_Lpairright : Stmt := top 48
theorem sc_Lpairright : FnScope ["_law_one_here", "_law_other", "_law_first", "_law_second", "_law_none", "_law_word", "_law_due_here", "_law_bit"] ["_law_one_here", "_law_other"] (defScope s_Lpairright) := ⟨rfl, rfl, rfl, by decide +kernel, rfl, by decide +kernel, by decide +kernel⟩
def sp_Lpair (C : Addr) (T : List (Addr × Str)) : Sp := fun vs H Q _ => ∃ (v u : V) (n m : Nm), vs = [v, u] ∧ NumAt C H v n ∧ NumAt C H u m ∧ N64 n ∧ N64 m ∧ Tabs T H ∧ ∀ H', ExtN H H' → Tabs T H' → Q (.bl true) H'
theorem ok_Lpair {f : Addr} {fd : FuncData} {T : List (Addr × Str)} {c Pt : Addr} (F : FunD K "_law_pair_right" "_law_pair_right" (defArgs s_Lpairright) (defBody s_Lpairright) (defScope s_Lpairright) [] [] f fd) (hc : fd.code = .ref c) (LG : LmG P w K mg base CT T c Pt ("_law_pair_right.<locals>.<lambda>" : Str)) (B : Blt mg) (TF : FlC K mg C)
    (c_arith : Fn P w K mg base (L2.CX P w) 6 "arith" ["word", "one", "other"] [] (sp_arB C CT)) (c_bitnot : Fn P w K mg base (L2.CX P w) 6 "bit_not" ["number"] [] (sp_bitnot C CT)) (c_wholeof : Fn P w K mg base CX0 2 "whole_of" ["number"] [] (sp_wholeof C)) (c_Lwhole : Fn P w K mg base CX0 1 "_law_whole" ["_law_number_here"] [] (sp_wholeof C))
    (c_Ldue : Fn P w K mg base CX0 3 "_law_due" ["_law_word", "_law_one_here", "_law_other"] [] sp_Ldue) (c_Lbits : Fn P w K mg base CX0 1 "_law_bits" ["_law_number_here"] [] sp_Lbits) (c_Lnumberof : Fn P w K mg base CX0 1 "_law_number_of" ["_law_bits_here"] [] sp_Lnumof)
    (c_negated : Fn P w K mg base CX0 4 "negated" ["number"] [] (sp_neg C)) (c_Float : CnF P w K mg base C) (c_Feq : EqC P w K mg base 1 C (sp_Feq C)) :
    FnOk P w K mg base CX0 16 f fd ["_law_one_here", "_law_other"] (sp_Lpair C T) := by
  obtain ⟨⟨g, fdg, Fg, hmg, hbg⟩, TH, TB, hmT, hu⟩ := LG
  have g_Float : mg "Float" = some (.ref C) := TF.mg
  refine FunD_okC F hc sc_Lpairright (fun vs H Q E h => ?_) (fun A outer s H vs Q E hr h => ?_)
  · obtain ⟨_, _, _, _, rfl, _⟩ := h; rfl
  · obtain ⟨v, u, n, m, rfl, hv, hu', n1, n2, htb, q⟩ := h
    refine ⟨_, PSs.nox (pss_cons (ps_par (i := 2) (j := 3) rfl sc_Lpairright.nd rfl rfl (by decide) rfl rfl (pa_cons (pe_fn c_Lwhole (hr.mono (by first | decide | omega)) pass0 (pa_cons (pv 0) pa_nil)) (pa_cons (pe_fn c_Lwhole (hr.mono (by first | decide | omega)) pass0 (pa_cons (pv 1) pa_nil)) pa_nil)) (by rfl))
  (pss_cons (ps_set (i := 4) sc_Lpairright.nd rfl (Or.inl rfl) (pe_lstN (pa_cons pe_str pa_nil)))
  (pss_cons (ps_if (PW.pt (pw_or (pt_cmpR (op_oNe hr.units) (pe_fn c_wholeof (hr.mono (by first | decide | omega)) pass0 (pa_cons (pv 0) pa_nil)) (pv 2) (nomark _)) (pw_or1 (pt_val (pe_callB call_isi (by rfl) B.isinstance (by decide +kernel) (pa_cons (pe_fn c_wholeof (hr.mono (by first | decide | omega)) pass0 (pa_cons (pv 0) pa_nil)) (pa_cons (pe_gref g_Float) pa_nil))))))) (pss_one (ps_ret pe_bl)) pss_nil)
  (pss_cons (ps_for PassesOwn.never rfl (pi_list (pe_lstN (pa_cons pe_str (pa_cons pe_str (pa_cons pe_str (pa_cons pe_str (pa_cons pe_str pa_nil))))))) (pg_name (i := 5) sc_Lpairright.nd rfl (Or.inr rfl))
    (pss_cons (ps_set (i := 6) sc_Lpairright.nd rfl (Or.inl rfl) (pv 4))
  (pss_cons (ps_if (PW.pt (pw_and (pt_cmpR op_notN (pv 2) pe_non (nomark _)) (pw_and1 (pt_cmpR op_notN (pv 3) pe_non (nomark _))))) (pss_one (ps_set (i := 6) sc_Lpairright.nd rfl (Or.inl rfl) (pe_fn c_Ldue (hr.mono (by first | decide | omega)) pass0 (pa_cons (pv 5) (pa_cons (pv 2) (pa_cons (pv 3) pa_nil)))))) pss_nil)
  (pss_one (ps_if (pt_cmpR (op_oNeG hr.units) (pe_lam (T := T) (TT := TSaid CT) (k := 10) Fg hmg hbg sc_Lsaid rfl (.inl rfl) (fun cdg => said_gives TH) TB rfl hmT hu (hr.mono (by decide)) (lamS_by (sc := defScope s_Lpairright) (by decide +kernel)) (fun A outer s H E f c' hrl => by exact (pe_fn c_arith (hrl.mono (by decide)) lam_pass (pa_cons (pv 5) (pa_cons (pv 0) (pa_cons (pv 1) pa_nil)))))) (pv 6) (nomark _)) (pss_one (ps_ret pe_bl)) pss_nil)))))
  (pss_cons (ps_set (i := 6) sc_Lpairright.nd rfl (Or.inl rfl) (pv 4))
  (pss_cons (ps_if (pt_cmpR op_notN (pv 2) pe_non (nomark _)) (pss_one (ps_set (i := 6) sc_Lpairright.nd rfl (Or.inl rfl) (pe_fn c_Lnumberof (hr.mono (by first | decide | omega)) pass0 (pa_cons (pe_lc (own := [("_law_bit", 7)]) (g := gName 7) rfl sc_Lpairright.nd (pi_list (pe_fn c_Lbits (hr.mono (by first | decide | omega)) pass0 (pa_cons (pv 2) pa_nil))) (blkOk_by (own := [("_law_bit", 7)]) (N := ["_law_one_here", "_law_other", "_law_first", "_law_second", "_law_none", "_law_word", "_law_due_here", "_law_bit"]) (sc := defScope s_Lpairright) (by decide +kernel)) (fun _ _ _ _ _ => pg_name (i := 7) sc_Lpairright.nd rfl (Or.inl rfl)) (fun _ _ _ _ _ => pts_nil) (fun _ _ _ _ _ => (pe_op op_oSub pe_int (pv 7)))) pa_nil)))) pss_nil)
  (pss_cons (ps_if (pt_cmpR (op_oNeG hr.units) (pe_lam (T := T) (TT := TSaid CT) (k := 10) Fg hmg hbg sc_Lsaid rfl (.inl rfl) (fun cdg => said_gives TH) TB rfl hmT hu (hr.mono (by decide)) (lamS_by (sc := defScope s_Lpairright) (by decide +kernel)) (fun A outer s H E f c' hrl => by exact (pe_fn c_bitnot (hrl.mono (by decide)) lam_pass (pa_cons (pv 0) pa_nil)))) (pv 6) (nomark _)) (pss_one (ps_ret pe_bl)) pss_nil)
  (pss_cons (ps_if (pt_val (pe_callB call_isi (by rfl) B.isinstance (by decide +kernel) (pa_cons (pv 0) (pa_cons (pe_tyInt B) pa_nil)))) (pss_one (ps_ret (pe_cmpR (op_oEq hr.units) (pe_fn c_negated (hr.mono (by first | decide | omega)) pass0 (pa_cons (pv 0) pa_nil)) (pe_ifExp (pt_cmpR (op_oEq hr.units) (pv 0) (pe_un un_neg (pe_op op_oShl pe_int pe_int)) (nomark _)) (pv 0) (pe_op op_oSub pe_int (pv 0))) (nomark _)))) pss_nil)
  (pss_one (ps_ret (pe_cmpR (op_eqO c_Feq (hr.mono (by decide))) (pe_fn c_negated (hr.mono (by first | decide | omega)) pass0 (pa_cons (pv 0) pa_nil)) (pe_ifExp (pt_cmpR (op_oEq hr.units) (pe_fld (pv 0) rfl) pe_str (nomark _)) (pv 0) (pe_cn c_Float (hr.mono (by first | decide | omega)) pass0 (pa_cons (pe_op op_oSub pe_int (pe_fld (pv 0) rfl)) (pa_cons (pe_fld (pv 0) rfl) (pa_cons (pe_fld (pv 0) rfl) pa_nil))))) (nomark _)))))))))))), ?_⟩
    walk_at "f"
    refine ⟨v, n, rfl, hv, fun H1 s1 => ?_⟩
    walk_at "f"
    refine ⟨u, m, rfl, hu'.same s1, fun H2 s2 => ?_⟩
    walk_at "f"
    refine g_new (sz rfl) fun l3 H3 m3 s3 h3 _ => ?_
    walk_at "f"
    refine ⟨v, n, rfl, hv.same (s1.trans (s2.trans s3)), fun H4 s4 => ?_⟩
    walk_at "f"
    refine g_neV (scalW _) ?_
    walk_at "f"
    refine g_iten (fun z => absurd rfl z) fun _ => ?_
    walk_at "f"
    refine ⟨v, n, rfl, hv.same (s1.trans (s2.trans (s3.trans s4))), fun H5 s5 => ?_⟩
    walk_at "f"
    obtain ⟨tw, kw⟩ := kfW (H := H5) TF (wholeN n)
    refine g_isiF kw ?_
    walk_at "f"
    refine g_new (sz rfl) fun l6 H6 m6 s6 h6 _ => ?_
    have S36 := s4.trans (s5.trans s6)
    have S6 := s1.trans (s2.trans (s3.trans S36))
    refine ⟨l6, rfl, ⟨_, SqL.of h6⟩, for_it (walk_list (xs := [V.str "band", .str "bor", .str "bxor", .str "shl", .str "shr"])) (fun i σ H' => (∃ z5 z6, σ = [some v, some u, some (oW (wholeN n)), some (oW (wholeN m)), some (.ref l3), z5, z6, none]) ∧ ExtN H H' ∧ Tabs T H' ∧ H' l3 = some (.lst [V.str noInt]) ∧ H' l6 = some (.lst [V.str "band", .str "bor", .str "bxor", .str "shl", .str "shr"]))
      ⟨⟨none, none, rfl⟩, .of S6, htb.ext S6, S36 _ _ h3, h6⟩ (fun i σ H' _ p => SqL.of p.2.2.2.2) (fun i x σ H7 H7' hi p y => ?_) fun σ H7 p => ?_⟩
    · obtain ⟨⟨z5, z6, rfl⟩, x7, tb7, h37, h67⟩ := p
      obtain ⟨rfl, y⟩ := y
      obtain ⟨c', rfl, hc'⟩ : ∃ c', x = .str c' ∧ Wd5 c' := by
        have := List.mem_of_getElem? y
        simp only [List.mem_cons, List.not_mem_nil, or_false] at this
        rcases this with rfl | rfl | rfl | rfl | rfl
        · exact ⟨_, rfl, .inl rfl⟩
        · exact ⟨_, rfl, .inr (.inl rfl)⟩
        · exact ⟨_, rfl, .inr (.inr (.inl rfl))⟩
        · exact ⟨_, rfl, .inr (.inr (.inr (.inl rfl)))⟩
        · exact ⟨_, rfl, .inr (.inr (.inr (.inr rfl)))⟩
      walk_at "f"
      cases en : wholeN n with
      | none =>
        refine iteF' (by simp [oW]) ?_
        walk_at "f"
        refine g_lam tb7 fun H8 x8 t8 => g_saidV ?_
        walk_at "f"
        refine ⟨c', v, u, n, m, rfl, hc', (hv.ext (x7.trans x8)), (hu'.ext (x7.trans x8)), fun i e => whole64 n1 e, fun i e => whole64 n2 e, ?_⟩
        rw [en]
        refine fun H9 s9 => thr_saidL fun H10 p10 s10 h10 => ?_
        have e810 := x8.trans (ExtN.of (s9.trans s10))
        walk_at "f"
        refine g_neLs h10 (extL e810 h37) okN1 ⟨_, rfl, ?_⟩
        walk_at "f"
        exact ⟨⟨_, _, rfl⟩, x7.trans e810, (t8.ext s9).ext s10, extL e810 h37, extL e810 h67⟩
      | some a =>
        refine iteT' (by simp [oW]) ?_
        walk_at "f"
        cases em : wholeN m with
        | none =>
          refine iteF' (by simp [oW]) ?_
          walk_at "f"
          refine g_lam tb7 fun H8 x8 t8 => g_saidV ?_
          walk_at "f"
          refine ⟨c', v, u, n, m, rfl, hc', (hv.ext (x7.trans x8)), (hu'.ext (x7.trans x8)), fun i e => whole64 n1 e, fun i e => whole64 n2 e, ?_⟩
          rw [en, em]
          refine fun H9 s9 => thr_saidL fun H10 p10 s10 h10 => ?_
          have e810 := x8.trans (ExtN.of (s9.trans s10))
          walk_at "f"
          refine g_neLs h10 (extL e810 h37) okN1 ⟨_, rfl, ?_⟩
          walk_at "f"
          exact ⟨⟨_, _, rfl⟩, x7.trans e810, (t8.ext s9).ext s10, extL e810 h37, extL e810 h67⟩
        | some b =>
          refine iteT' (by simp [oW]) ?_
          walk_at "f"
          refine ⟨c', a, b, rfl, hc', whole64 n1 en, whole64 n2 em, fun H8 s8 => ?_⟩
          walk_at "f"
          refine g_lam (tb7.ext s8) fun H9 x9 t9 => g_saidV ?_
          have e89 := (ExtN.of s8).trans x9
          walk_at "f"
          refine ⟨c', v, u, n, m, rfl, hc', (hv.ext (x7.trans e89)), (hu'.ext (x7.trans e89)), fun i e => whole64 n1 e, fun i e => whole64 n2 e, ?_⟩
          rw [en, em]
          refine fun H10 s10 => ?_
          have e810 := e89.trans (ExtN.of s10)
          walk_at "f"
          refine .inl (g_neI ⟨_, rfl, ?_⟩)
          refine g_iten (fun z => absurd rfl z) fun _ => ?_
          walk_at "f"
          rw [← en, ← em]
          exact ⟨⟨_, _, rfl⟩, x7.trans e810, t9.ext s10, extL e810 h37, extL e810 h67⟩
    · obtain ⟨⟨z5, z6, rfl⟩, x7, tb7, h37, h67⟩ := p
      walk_at "f"
      cases en : wholeN n with
      | none =>
        refine iteF' (by simp [oW]) ?_
        walk_at "f"
        refine g_lam tb7 fun H8 x8 t8 => g_saidV ?_
        walk_at "f"
        refine ⟨v, n, rfl, hv.ext (x7.trans x8), ?_⟩
        rw [en]
        refine fun H9 s9 => thr_saidL fun H10 p10 s10 h10 => ?_
        have e810 := x8.trans (ExtN.of (s9.trans s10))
        walk_at "f"
        refine g_neLs h10 (extL e810 h37) okN1 ⟨_, rfl, ?_⟩
        have x10 := x7.trans e810
        have t10 := (t8.ext s9).ext s10
        walk_at "f"
        obtain ⟨tt, hkk, _, _⟩ := (hv.ext x10).kf TF
        refine g_isiInt hkk.kn ?_
        walk_at "f"
        cases n with
        | i k =>
          have hv' : v = .int k := hv
          subst hv'
          have n1 : r64 k := n1
          refine iteT' rfl ?_
          walk_at "f"
          refine ⟨.int k, .i k, rfl, rfl, fun H12 v' s12 hn' => ?_⟩
          have hn' : v' = .int (wrapI (0 - k)) := hn'
          subst hn'
          walk_at "f"
          refine g_II (shl1 (by decide) (by decide)) ?_
          rw [e63]
          walk_at "f"
          have fin := q _ (x10.trans (ExtN.of s12)) (t10.ext s12)
          refine g_ite (fun e1 => ?_) fun e1 => ?_
          · walk_at "f"
            have e2 : wrapI (0 - k) = k := by
              subst e1; decide
            rw [e2, decide_eq_true rfl]
            exact fin
          · walk_at "f"
            have e2 : wrapI (0 - k) = 0 - k := wr_id (by unfold r64 at n1; omega) (by unfold r64 at n1; omega)
            rw [e2, decide_eq_true rfl]
            exact fin
        | f sg tp p =>
          obtain ⟨a1, rfl, ha1, ok1⟩ := hv.ext x10
          refine iteF' (by simp [isI, isB]) ?_
          walk_at "f"
          refine ⟨.ref a1, .f sg tp p, rfl, ⟨a1, rfl, ha1, ok1⟩, fun H12 v' s12 hn' => ?_⟩
          have ha2 := ha1.same s12
          have fin := q _ (x10.trans (ExtN.of s12)) (t10.ext s12)
          walk_at "f"
          refine g_eqV ((show (⟨sg, tp, p⟩ : FL).ok from ok1).is.scal (.str _)) ?_
          walk_at "f"
          refine g_ite (fun e1 => ?_) fun e1 => ?_
          · have en' : negN (.f sg tp p) = .f sg tp p := if_pos e1
            rw [en'] at hn'
            obtain ⟨a2, rfl, hb2, ok2⟩ := hn'
            obtain ⟨dx1, o1⟩ := id ha2
            obtain ⟨dx2, o2⟩ := id hb2
            walk_at "f"
            refine ⟨a2, a1, dx2, dx1, _, _, rfl, rfl, o2, o1, ?_⟩
            refine ⟨.ref a2, .ref a1, ⟨sg, tp, p⟩, ⟨sg, tp, p⟩, rfl, ⟨a2, rfl, hb2⟩, ⟨a1, rfl, ha2⟩, ok1, ok1, fun H13 s13 => ⟨_, rfl, ?_⟩⟩
            rw [eqL_refl]
            exact q _ ((x10.trans (ExtN.of s12)).trans (ExtN.of s13)) ((t10.ext s12).ext s13)
          · have en' : negN (.f sg tp p) = .f (0 - sg) tp p := if_neg e1
            rw [en'] at hn'
            obtain ⟨a2, rfl, hb2, ok2⟩ := hn'
            obtain ⟨k1, k2⟩ := neg_mk (x := ⟨sg, tp, p⟩) ok1 e1
            walk_at "f"
            refine mkF k1 fun H13 x3 n3 s3 h3 => ?_
            have k2 : (⟨0 - sg, (redV tp p).1, (redV tp p).2⟩ : FL) = ⟨0 - sg, tp, p⟩ := k2
            injection k2 with _ g1 g2
            rw [g1, g2] at h3
            have hb3 := hb2.same s3
            obtain ⟨dx1, o1⟩ := id h3
            obtain ⟨dx2, o2⟩ := id hb3
            refine ⟨a2, x3, dx2, dx1, _, _, rfl, rfl, o2, o1, ?_⟩
            refine ⟨.ref a2, .ref x3, ⟨0 - sg, tp, p⟩, ⟨0 - sg, tp, p⟩, rfl, ⟨a2, rfl, hb3⟩, ⟨x3, rfl, h3⟩, ok2, ok2, fun H14 s14 => ⟨_, rfl, ?_⟩⟩
            rw [eqL_refl]
            exact q _ (((x10.trans (ExtN.of s12)).trans (ExtN.of s3)).trans (ExtN.of s14)) (((t10.ext s12).ext s3).ext s14)
      | some a =>
        refine iteT' (by simp [oW]) ?_
        walk_at "f"
        refine ⟨a, rfl, whole64 n1 en, fun H8 l8 m8 s8 h8 => ?_⟩
        walk_at "f"
        refine ⟨l8, rfl, ⟨_, SqL.of h8⟩, fun D9 m9 => lc_it (walk_list (xs := bitL (bitI a) 64)) (fun i H' => Same H8 H' ∧ H' D9 = some (.lst (bitL (fun i => 1 - bitI a i) i))) ⟨upd_sameW (Same.refl _) m9, upd_same⟩ (fun i H' _ p => SqL.of (p.1 _ _ h8)) (fun i z H9 H9' hi p ez => ?_) fun H9 p => ?_⟩
        · obtain ⟨s9, h9⟩ := p
          obtain ⟨rfl, ez⟩ := ez
          have hi : i < 64 := by have hi : i < (bitL (bitI a) 64).length := hi; rw [bitL_len] at hi; exact hi
          rw [bitL_at hi] at ez
          cases ez
          walk_at "f"
          refine ⟨rfl, ?_⟩
          walk_at "f"
          refine ⟨_, h9, Nat.lt_of_le_of_lt (show (bitL (fun i => 1 - bitI a i) i).length ≤ 100 by rw [bitL_len]; omega) (by decide), upd_sameW s9 m9, by rw [upd_same, bitL_succ]⟩
        · obtain ⟨s9, h9⟩ := p
          rw [bitL_len] at h9
          walk_at "f"
          refine ⟨D9, _, rfl, h9, fun i hi => by rcases bit01 a i with z | z <;> simp only [z] <;> decide, ?_⟩
          rw [bits_wr (z := -1 - a) (by have := whole64 n1 en; unfold r64 at *; omega) _ fun i _ => (bit_not' a i).symm]
          have s79 := s8.trans s9
          walk_at "f"
          refine g_lam (tb7.ext s79) fun H10 x10 t10 => g_saidV ?_
          have e710 := (ExtN.of s79).trans x10
          walk_at "f"
          refine ⟨v, n, rfl, hv.ext (x7.trans e710), ?_⟩
          rw [en]
          refine fun H11 s11 => ?_
          walk_at "f"
          refine .inl (g_neI ⟨_, rfl, ?_⟩)
          refine g_iten (fun z => absurd rfl z) fun _ => ?_
          have x10 := (x7.trans e710).trans (ExtN.of s11)
          have t10 := t10.ext s11
          walk_at "f"
          obtain ⟨tt, hkk, _, _⟩ := (hv.ext x10).kf TF
          refine g_isiInt hkk.kn ?_
          walk_at "f"
          cases n with
          | i k =>
            have hv' : v = .int k := hv
            subst hv'
            have n1 : r64 k := n1
            refine iteT' rfl ?_
            walk_at "f"
            refine ⟨.int k, .i k, rfl, rfl, fun H12 v' s12 hn' => ?_⟩
            have hn' : v' = .int (wrapI (0 - k)) := hn'
            subst hn'
            walk_at "f"
            refine g_II (shl1 (by decide) (by decide)) ?_
            rw [e63]
            walk_at "f"
            have fin := q _ (x10.trans (ExtN.of s12)) (t10.ext s12)
            refine g_ite (fun e1 => ?_) fun e1 => ?_
            · walk_at "f"
              have e2 : wrapI (0 - k) = k := by
                subst e1; decide
              rw [e2, decide_eq_true rfl]
              exact fin
            · walk_at "f"
              have e2 : wrapI (0 - k) = 0 - k := wr_id (by unfold r64 at n1; omega) (by unfold r64 at n1; omega)
              rw [e2, decide_eq_true rfl]
              exact fin
          | f sg tp p =>
            obtain ⟨a1, rfl, ha1, ok1⟩ := hv.ext x10
            refine iteF' (by simp [isI, isB]) ?_
            walk_at "f"
            refine ⟨.ref a1, .f sg tp p, rfl, ⟨a1, rfl, ha1, ok1⟩, fun H12 v' s12 hn' => ?_⟩
            have ha2 := ha1.same s12
            have fin := q _ (x10.trans (ExtN.of s12)) (t10.ext s12)
            walk_at "f"
            refine g_eqV ((show (⟨sg, tp, p⟩ : FL).ok from ok1).is.scal (.str _)) ?_
            walk_at "f"
            refine g_ite (fun e1 => ?_) fun e1 => ?_
            · have en' : negN (.f sg tp p) = .f sg tp p := if_pos e1
              rw [en'] at hn'
              obtain ⟨a2, rfl, hb2, ok2⟩ := hn'
              obtain ⟨dx1, o1⟩ := id ha2
              obtain ⟨dx2, o2⟩ := id hb2
              walk_at "f"
              refine ⟨a2, a1, dx2, dx1, _, _, rfl, rfl, o2, o1, ?_⟩
              refine ⟨.ref a2, .ref a1, ⟨sg, tp, p⟩, ⟨sg, tp, p⟩, rfl, ⟨a2, rfl, hb2⟩, ⟨a1, rfl, ha2⟩, ok1, ok1, fun H13 s13 => ⟨_, rfl, ?_⟩⟩
              rw [eqL_refl]
              exact q _ ((x10.trans (ExtN.of s12)).trans (ExtN.of s13)) ((t10.ext s12).ext s13)
            · have en' : negN (.f sg tp p) = .f (0 - sg) tp p := if_neg e1
              rw [en'] at hn'
              obtain ⟨a2, rfl, hb2, ok2⟩ := hn'
              obtain ⟨k1, k2⟩ := neg_mk (x := ⟨sg, tp, p⟩) ok1 e1
              walk_at "f"
              refine mkF k1 fun H13 x3 n3 s3 h3 => ?_
              have k2 : (⟨0 - sg, (redV tp p).1, (redV tp p).2⟩ : FL) = ⟨0 - sg, tp, p⟩ := k2
              injection k2 with _ g1 g2
              rw [g1, g2] at h3
              have hb3 := hb2.same s3
              obtain ⟨dx1, o1⟩ := id h3
              obtain ⟨dx2, o2⟩ := id hb3
              refine ⟨a2, x3, dx2, dx1, _, _, rfl, rfl, o2, o1, ?_⟩
              refine ⟨.ref a2, .ref x3, ⟨0 - sg, tp, p⟩, ⟨0 - sg, tp, p⟩, rfl, ⟨a2, rfl, hb3⟩, ⟨x3, rfl, h3⟩, ok2, ok2, fun H14 s14 => ⟨_, rfl, ?_⟩⟩
              rw [eqL_refl]
              exact q _ (((x10.trans (ExtN.of s12)).trans (ExtN.of s3)).trans (ExtN.of s14)) (((t10.ext s12).ext s3).ext s14)
end
end Up

set_option Elab.async false
set_option linter.all false
set_option pp.maxSteps 600
set_option maxRecDepth 100000
set_option maxHeartbeats 4000000
set_option exponentiation.threshold 200000
namespace Up
open PySem PySem.Spec PyProof.Rows L2 LamX
local macro_rules | `(tactic| walk_at "u") => `(tactic| first
  | with_reducible refine g_seq ?_
  | with_reducible refine g_asg ?_
  | with_reducible refine g_op ?_
  | ((with_reducible show tVar _ _ _ _); apply g_var; exact rfl)
  | with_reducible refine g_c ?_
  | with_reducible refine g_name ?_
  | with_reducible refine g_ifs ?_
  | with_reducible refine g_tt ?_
  | with_reducible refine g_tB ?_
  | with_reducible refine g_bl ?_
  | with_reducible refine g_ret ?_
  | with_reducible refine g_cb ?_
  | with_reducible refine g_cons ?_
  | with_reducible refine g_nil ?_
  | with_reducible refine g_call ?_
  | with_reducible refine g_and ?_
  | with_reducible refine g_or ?_
  | with_reducible refine g_not ?_
  | with_reducible refine g_andV ?_
  | with_reducible refine g_orV ?_
  | with_reducible refine g_notV ?_
  | with_reducible refine g_if ?_
  | with_reducible refine g_un ?_
  | with_reducible refine g_neg ?_
  | with_reducible refine g_addI ?_
  | with_reducible refine g_subI ?_
  | with_reducible refine g_subB ?_
  | with_reducible refine g_I0 ?_
  | with_reducible refine g_cmpI ?_
  | with_reducible refine g_eqI ?_
  | with_reducible refine g_neI ?_
  | with_reducible refine g_eqS ?_
  | with_reducible refine g_neS ?_
  | with_reducible refine g_eqB ?_
  | with_reducible refine g_neB ?_
  | with_reducible refine g_bits ?_
  | with_reducible refine g_bitsI ?_
  | with_reducible refine g_fld ?_
  | with_reducible refine g_tup ?_
  | with_reducible refine g_lst ?_
  | with_reducible refine g_gtup ?_
  | with_reducible refine g_make ?_
  | with_reducible refine g_lc ?_
  | with_reducible refine g_yesT ?_
  | with_reducible refine g_intI ?_
  | with_reducible refine g_intB ?_
  | with_reducible refine g_max2 ?_
  | with_reducible refine g_abs1 ?_
  | with_reducible refine g_for ?_
  | with_reducible refine g_iList ?_
  | with_reducible refine g_iTup ?_
  | with_reducible refine g_iRng1 ?_
  | with_reducible refine g_iEnum ?_
  | with_reducible refine g_slice ?_
  | with_reducible refine g_po0 ?_
  | with_reducible refine g_po1 ?_
  | with_reducible refine g_gsub ?_
  | with_reducible refine g_par ?_
  | with_reducible refine g_par2 ?_
  | with_reducible refine g_rfl ?_
  | with_reducible refine g_meth ?_
  | with_reducible refine g_gcons ?_
  | with_reducible refine g_gnil ?_
  | with_reducible refine g_gfld ?_
  | with_reducible refine g_sfld ?_
  | with_reducible refine g_drop ?_
  | with_reducible refine g_next ?_
  | with_reducible refine iteT ?_
  | with_reducible refine iteF ?_)
local macro_rules | `(tactic| walk_at "go") => `(tactic| (repeat walk_at "u"))
local macro_rules | `(tactic| walk_at "f") => `(tactic| (repeat (first
  | walk_at "u"
  | with_reducible refine g_chain ?_
  | with_reducible refine g_par3 ?_
  | with_reducible refine g_par3' ?_
  | ((with_reducible refine show_ex ?_); first
    | refine fT (by assumption) (by assumption) ?_
    | refine fS (by assumption) (by assumption) ?_
    | refine fP (by assumption) (by assumption) ?_))))

section
variable {P : Program} {w : World} {K : PySem.W.Frag} {mg : Str → Option Value} {base : Heap} {C CT : Addr} {T : List (Addr × Str)}
theorem tabs_stp {H H1 : Hp} {wl : Addr} (hw : Well H wl) (s : Stp wl H H1) (tb : Tabs T H) : Tabs T H1 := fun p hp => by
  obtain ⟨ps, h1, h2, h3⟩ := tb p hp
  have ne : ∀ b o, H b = some o → (∀ xs, o ≠ .lst xs) → b ≠ wl := fun b o e n z => by
    obtain ⟨x, y, q, h, _⟩ := hw
    rw [z, h] at e; cases e; exact n _ rfl
  refine ⟨ps, s _ _ (ne _ _ h1 fun _ z => nomatch z) h1, h2, fun pos cv e => ?_⟩
  obtain ⟨c, e1, e2⟩ := h3 pos cv e
  exact ⟨c, e1, s _ _ (ne _ _ e2 fun _ z => nomatch z) e2⟩
/-- all but the well and the tables of code -/
def EW (wl : Addr) (H H' : Hp) : Prop := ∀ b o, b ≠ wl → H b = some o → (∀ ps, o ≠ .tbl ps) → H' b = some o
theorem EW.stp {wl : Addr} {H H1 H2 : Hp} (e : EW wl H H1) (s : Stp wl H1 H2) : EW wl H H2 := fun b o n h z => s _ _ n (e b o n h z)
theorem EW.ext {wl : Addr} {H H1 H2 : Hp} (e : EW wl H H1) (s : ExtN H1 H2) : EW wl H H2 := fun b o n h z => s _ _ (e b o n h z) z
theorem Well.ext {H H1 : Hp} {wl : Addr} (h : Well H wl) (x : ExtN H H1) : Well H1 wl := by
  obtain ⟨p, q, r, h, a⟩ := h
  exact ⟨p, q, r, extL x h, a⟩
abbrev s_law : Stmt := top 49
theorem sc_law : FnScope ["_law_script", "_law_cell", "_law_well_here", "_law_turn", "_law_one_here", "_law_other", "_law_ends", "_law_far"] ["_law_script"] (defScope s_law) := ⟨rfl, rfl, rfl, by decide +kernel, rfl, by decide +kernel, by decide +kernel⟩
def spLaw (K : PySem.W.Frag) (T : List (Addr × Str)) : Sp := fun vs H Q _ => ∃ (a : Addr) (ns : List Int), vs = [.ref a] ∧ SqL K H a (ns.map V.int) ∧ ns.length ≤ 63 ∧ Tabs T H ∧ ∀ H', Q (.bl true) H'
theorem cells_int {ns : List Int} {lo hi : Option Int} : ∀ v ∈ cutV (ns.map V.int ++ [V.int 0]) lo hi, ∃ n, v = .int n := fun v hv => by
  have h := List.mem_of_mem_drop (List.mem_of_mem_take hv)
  rcases List.mem_append.mp h with h | h
  · obtain ⟨n, _, rfl⟩ := List.mem_map.mp h
    exact ⟨n, rfl⟩
  · simp only [List.mem_cons, List.not_mem_nil, or_false] at h
    exact ⟨0, h⟩
theorem ok_law {f : Addr} {fd : FuncData} (F : FunD K "law" "law" (defArgs s_law) (defBody s_law) (defScope s_law) [] [] f fd) (B : Blt mg) (c_Float : CnF P w K mg base C) (c_Lwell : Fn P w K mg base CX0 1 "_law_well" ["_law_cell"] [] sp_Lwell) (c_Ldraw : CDraw P w K mg base) (c_Lone : COne P w K mg base)
    (c_Lnumber : Fn P w K mg base CX0 5 "_law_number" ["_law_well_here"] [] (sp_Lnumber C)) (c_Lpairright : Fn P w K mg base CX0 16 "_law_pair_right" ["_law_one_here", "_law_other"] [] (sp_Lpair C T)) : FnOk P w K mg base CX0 18 f fd ["_law_script"] (spLaw K T) := by
  refine F.ok sc_law (fun vs H Q E h => ?_) (fun cdv A outer s H vs Q E hr h => ?_)
  · obtain ⟨a, ns, rfl, _⟩ := h; rfl
  · obtain ⟨a, ns, rfl, hS, hlen, htb, q⟩ := h
    refine ⟨_, PSs.nox (pss_cons (ps_for PassesOwn.never rfl (pi_list (pe_slice sl_lstN (pe_op op_oAdd (pv 0) (pe_lstN (pa_cons pe_int pa_nil))) po_none (po_some pe_int))) (pg_name (i := 1) sc_law.nd rfl (Or.inl rfl))
    (pss_cons (ps_set (i := 2) sc_law.nd rfl (Or.inl rfl) (pe_fn c_Lwell (hr.mono (by first | decide | omega)) pass0 (pa_cons (pv 1) pa_nil)))
  (pss_one (ps_for PassesOwn.never rfl (pi_range1 (by rfl) B.range (pa_cons pe_int pa_nil)) (pg_name (i := 3) sc_law.nd rfl (Or.inl rfl))
    (pss_cons (ps_par (i := 4) (j := 5) rfl sc_law.nd rfl rfl (by decide) rfl rfl (pa_cons (pe_fn c_Lnumber (hr.mono (by first | decide | omega)) pass0 (pa_cons (pv 2) pa_nil)) (pa_cons (pe_fn c_Lnumber (hr.mono (by first | decide | omega)) pass0 (pa_cons (pv 2) pa_nil)) pa_nil)) (by rfl))
  (pss_cons (ps_set (i := 6) sc_law.nd rfl (Or.inl rfl) (pe_lstN (pa_cons (pe_un un_neg (pe_op op_oShl pe_int pe_int)) (pa_cons (pe_op op_oSub (pe_op op_oShl pe_int pe_int) pe_int) pa_nil))))
  (pss_cons (ps_set (i := 7) sc_law.nd rfl (Or.inl rfl) (pe_fn c_Lone (hr.mono (by first | decide | omega)) pass0 (pa_cons (pv 2) (pa_cons (pe_op op_oAdd (pv 6) (pe_lstN (pa_cons (pe_op op_oSub (pe_fn c_Ldraw (hr.mono (by first | decide | omega)) pass0 (pa_cons (pv 2) (pa_cons pe_int pa_nil))) pe_int) (pa_cons (pe_cn c_Float (hr.mono (by first | decide | omega)) pass0 (pa_cons pe_int (pa_cons (pe_fn c_Ldraw (hr.mono (by first | decide | omega)) pass0 (pa_cons (pv 2) (pa_cons pe_int pa_nil))) (pa_cons pe_int pa_nil)))) pa_nil)))) pa_nil))))
  (pss_one (ps_if (PW.pt (pw_or (pt_not (pt_val (pe_fn c_Lpairright (hr.mono (by first | decide | omega)) pass0 (pa_cons (pv 4) (pa_cons (pv 5) pa_nil))))) (pw_or1 (pt_not (pt_val (pe_fn c_Lpairright (hr.mono (by first | decide | omega)) pass0 (pa_cons (pv 4) (pa_cons (pv 7) pa_nil)))))))) (pss_one (ps_ret pe_bl)) pss_nil)))))))))
  (pss_one (ps_ret pe_bl))), ?_⟩
    walk_at "f"
    refine g_new (sz rfl) fun l1 H1 n1 s1 h1 _ => ?_
    refine .inl ⟨a, l1, _, _, rfl, rfl, s1.seq hS, SqL.of h1, ?_, fun l2 H2 n2 s2 h2 _ => ?_⟩
    · rw [List.length_map]
      exact Nat.le_trans (Nat.add_le_add hlen (Nat.le_refl 1)) (by decide)
    walk_at "f"
    refine ⟨l2, _, rfl, SqL.of h2, fun l3 H3 n3 s3 h3 _ => ?_⟩
    refine ⟨l3, rfl, ⟨_, SqL.of h3⟩, ?_⟩
    refine for_list (K := K) (a := l3) (xs := cutV (ns.map V.int ++ [V.int 0]) none (some 8)) (fun i σ' H' => ∃ e1 e2 e3 e4 e5 e6 e7, σ' = [some (.ref a), e1, e2, e3, e4, e5, e6, e7] ∧ ExtN H3 H' ∧ Tabs T H') ⟨_, _, _, _, _, _, _, rfl, .refl _, htb.ext (s1.trans (s2.trans s3))⟩ ?_ ?_ ?_
    · rintro i _ H' _ ⟨_, _, _, _, _, _, _, _, xH, _⟩
      exact SqL.of (extL xH h3)
    · rintro i z _ H4 hz ⟨e1, e2, e3, e4, e5, e6, e7, rfl, x4, tb4⟩
      obtain ⟨c, rfl⟩ := cells_int z (List.mem_of_getElem? hz)
      walk_at "f"
      refine ⟨c, rfl, fun wl H5 n5 s5 hw5 => ?_⟩
      walk_at "f"
      refine ⟨by decide, by decide, ?_⟩
      refine for_range (fun i σ' H' => ∃ e3 e4 e5 e6 e7, σ' = [some (.ref a), some (.int c), some (.ref wl), e3, e4, e5, e6, e7] ∧ EW wl H5 H' ∧ Tabs T H' ∧ Well H' wl) ⟨_, _, _, _, _, rfl, fun _ _ _ h _ => h, tb4.ext s5, hw5⟩ ?_ ?_
      · rintro i _ H6 hi ⟨e3, e4, e5, e6, e7, rfl, x6, tb6, hw6⟩
        walk_at "f"
        refine ⟨wl, rfl, hw6, fun v1 H7 m1 s7 hw7 hv1 hn1 => ?_⟩
        walk_at "f"
        refine ⟨wl, rfl, hw7, fun v2 H8 m2 s8 hw8 hv2 hn2 => ?_⟩
        have hv1 := hv1.stp hw7 s8
        have x8 := (x6.stp s7).stp s8
        have tb8 := tabs_stp hw7 s8 (tabs_stp hw6 s7 tb6)
        walk_at "f"
        refine g_II (shl1 (by decide) (by decide)) ?_
        rw [e63]
        walk_at "f"
        refine g_II (shl1 (by decide) (by decide)) ?_
        rw [e63]
        walk_at "f"
        refine g_new (sz rfl) fun l9 H9 n9 s9 h9 _ => ?_
        walk_at "f"
        refine ⟨wl, _, rfl, by decide, by decide, hw8.same s9, fun d10 H10 a10 b10 s10 hw10 => ?_⟩
        have h9 := s10 _ _ (hw8.ne_none n9) h9
        walk_at "f"
        refine ⟨wl, _, rfl, by decide, by decide, hw10, fun d11 H11 a11 b11 s11 hw11 => ?_⟩
        have h9 := s11 _ _ (hw8.ne_none n9) h9
        have fd : FinD 1 d11 0 := ⟨.inl rfl, a11, by omega, by decide, by decide⟩
        walk_at "f"
        refine mkF fd.mk fun H12 x12 n12 s12 h12 => ?_
        walk_at "f"
        refine g_new (sz rfl) fun l13 H13 n13 s13 h13 _ => ?_
        refine .inl ⟨l9, l13, _, _, rfl, rfl, SqL.of ((s12.trans s13) _ _ h9), SqL.of h13, sz rfl, fun l14 H14 n14 s14 h14 _ => ?_⟩
        have S914 := s12.trans (s13.trans s14)
        have hw14 := hw11.same S914
        walk_at "f"
        refine ⟨wl, l14, _, rfl, hw14, h14, (hw11.same (s12.trans s13)).ne_none n14, by simp, by simp, fun v15 H15 hv s15 hw15 => ?_⟩
        obtain ⟨m15, hv15, hn15⟩ : ∃ m, NumAt C H15 v15 m ∧ N64 m := by
          simp only [List.cons_append, List.nil_append, List.mem_cons, List.not_mem_nil, or_false] at hv
          rcases hv with rfl | rfl | rfl | rfl
          · exact ⟨.i (-9223372036854775808), rfl, by show r64 _; unfold r64; omega⟩
          · exact ⟨.i (9223372036854775808 - 1), rfl, by show r64 _; unfold r64; omega⟩
          · exact ⟨.i (d10 - 70), rfl, by show r64 _; unfold r64; omega⟩
          · exact ⟨.f 1 (redV (.int d11) 0).1 (redV (.int d11) 0).2, NumAt.stp (n := .f 1 (redV (.int d11) 0).1 (redV (.int d11) 0).2) hw14 s15 ⟨x12, rfl, h12.same (s13.trans s14), mk_flok fd.mk⟩, trivial⟩
        have St : Stp wl H8 H15 := ((((Stp.of s9).trans s10).trans s11).trans (Stp.of S914)).trans s15
        have hv1 := hv1.stp hw8 St
        have hv2 := hv2.stp hw8 St
        have x15 := x8.stp St
        have tb15 := tabs_stp hw8 St tb8
        walk_at "f"
        refine ⟨v1, v2, m1, m2, rfl, hv1, hv2, hn1, hn2, tb15, fun H16 y16 tb16 => ?_⟩
        walk_at "f"
        refine iteF' (by decide) ?_
        walk_at "f"
        refine ⟨v1, v15, m1, m15, rfl, hv1.ext y16, hv15.ext y16, hn1, hn15, tb16, fun H17 y17 tb17 => ?_⟩
        walk_at "f"
        refine iteF' (by decide) ?_
        walk_at "f"
        exact ⟨_, _, _, _, _, rfl, (x15.ext y16).ext y17, tb17, (hw15.ext y16).ext y17⟩
      · rintro _ H6 ⟨e3, e4, e5, e6, e7, rfl, x6, tb6, hw6⟩
        walk_at "f"
        exact ⟨_, _, _, _, _, _, _, rfl, fun b o h z => x6 _ _ (fun y => by have := x4 _ _ h z; rw [y, n5] at this; cases this) (s5 _ _ (x4 _ _ h z)) z, tb6⟩
    · rintro _ H4 ⟨e1, e2, e3, e4, e5, e6, e7, rfl, x4, tb4⟩
      walk_at "f"
      exact q _
end
end Up

set_option Elab.async false
set_option linter.all false
set_option maxRecDepth 100000
set_option maxHeartbeats 0
set_option pp.maxSteps 300
namespace Up
open PySem PySem.Spec PyProof.Rows L2
def d_isplain : He.DefD := ⟨("is_plain", none), "is_plain", "is_plain", defArgs s_isplain, defBody s_isplain, defScope s_isplain, [], []⟩
def d_reduced : He.DefD := ⟨("reduced", none), "reduced", "reduced", defArgs s_reduced, defBody s_reduced, defScope s_reduced, [], []⟩
def d_fits : He.DefD := ⟨("fits", none), "fits", "fits", defArgs s_fits, defBody s_fits, defScope s_fits, [], []⟩
def d_Float_init : He.DefD := ⟨("Float", some "__init__"), "__init__", "Float.__init__", defArgs s_Float_init, defBody s_Float_init, defScope s_Float_init, [], []⟩
def d_Float_ratio : He.DefD := ⟨("Float", some "ratio"), "ratio", "Float.ratio", defArgs s_Float_ratio, defBody s_Float_ratio, defScope s_Float_ratio, [], []⟩
def d_Float_isfinite : He.DefD := ⟨("Float", some "is_finite"), "is_finite", "Float.is_finite", defArgs s_Float_isfinite, defBody s_Float_isfinite, defScope s_Float_isfinite, [], []⟩
def d_Float_eq : He.DefD := ⟨("Float", some "__eq__"), "__eq__", "Float.__eq__", defArgs s_Float_eq, defBody s_Float_eq, defScope s_Float_eq, [], []⟩
def d_Thrown_init : He.DefD := ⟨("Thrown", some "__init__"), "__init__", "Thrown.__init__", defArgs s_Thrown_init, defBody s_Thrown_init, defScope s_Thrown_init, [.int 1], []⟩
def d_wrapped : He.DefD := ⟨("wrapped", none), "wrapped", "wrapped", defArgs s_wrapped, defBody s_wrapped, defScope s_wrapped, [], []⟩
def d_wholeof : He.DefD := ⟨("whole_of", none), "whole_of", "whole_of", defArgs s_wholeof, defBody s_wholeof, defScope s_wholeof, [], []⟩
def d_wholeorthrown : He.DefD := ⟨("whole_or_thrown", none), "whole_or_thrown", "whole_or_thrown", defArgs s_wholeorthrown, defBody s_wholeorthrown, defScope s_wholeorthrown, [], []⟩
def d_bybits : He.DefD := ⟨("by_bits", none), "by_bits", "by_bits", defArgs s_bybits, defBody s_bybits, defScope s_bybits, [], []⟩
def d_arith : He.DefD := ⟨("arith", none), "arith", "arith", defArgs s_arith, defBody s_arith, defScope s_arith, [], []⟩
def d_bitnot : He.DefD := ⟨("bit_not", none), "bit_not", "bit_not", defArgs s_bitnot, defBody s_bitnot, defScope s_bitnot, [], []⟩
def d_negated : He.DefD := ⟨("negated", none), "negated", "negated", defArgs s_negated, defBody s_negated, defScope s_negated, [], []⟩
def d_Lwell : He.DefD := ⟨("_law_well", none), "_law_well", "_law_well", defArgs s_Lwell, defBody s_Lwell, defScope s_Lwell, [], []⟩
def d_Ldraw : He.DefD := ⟨("_law_draw", none), "_law_draw", "_law_draw", defArgs s_Ldraw, defBody s_Ldraw, defScope s_Ldraw, [], []⟩
def d_Lone : He.DefD := ⟨("_law_one", none), "_law_one", "_law_one", defArgs s_Lone, defBody s_Lone, defScope s_Lone, [], []⟩
def d_Lgreat : He.DefD := ⟨("_law_great", none), "_law_great", "_law_great", defArgs s_Lgreat, defBody s_Lgreat, defScope s_Lgreat, [], []⟩
def d_Lfinite : He.DefD := ⟨("_law_finite", none), "_law_finite", "_law_finite", defArgs s_Lfinite, defBody s_Lfinite, defScope s_Lfinite, [], []⟩
def d_Lfloat : He.DefD := ⟨("_law_float", none), "_law_float", "_law_float", defArgs s_Lfloat, defBody s_Lfloat, defScope s_Lfloat, [], []⟩
def d_Lint : He.DefD := ⟨("_law_int", none), "_law_int", "_law_int", defArgs s_Lint, defBody s_Lint, defScope s_Lint, [], []⟩
def d_Lnumber : He.DefD := ⟨("_law_number", none), "_law_number", "_law_number", defArgs s_Lnumber, defBody s_Lnumber, defScope s_Lnumber, [], []⟩
def d_Lwhole : He.DefD := ⟨("_law_whole", none), "_law_whole", "_law_whole", defArgs s_Lwhole, defBody s_Lwhole, defScope s_Lwhole, [], []⟩
def d_Lbits : He.DefD := ⟨("_law_bits", none), "_law_bits", "_law_bits", defArgs s_Lbits, defBody s_Lbits, defScope s_Lbits, [], []⟩
def d_Lnumberof : He.DefD := ⟨("_law_number_of", none), "_law_number_of", "_law_number_of", defArgs s_Lnumberof, defBody s_Lnumberof, defScope s_Lnumberof, [], []⟩
def d_Ldue : He.DefD := ⟨("_law_due", none), "_law_due", "_law_due", defArgs s_Ldue, defBody s_Ldue, defScope s_Ldue, [], []⟩
def d_Lsaid : He.DefD := ⟨("_law_said", none), "_law_said", "_law_said", defArgs s_Lsaid, defBody s_Lsaid, defScope s_Lsaid, [], []⟩
def d_Lpairright : He.DefD := ⟨("_law_pair_right", none), "_law_pair_right", "_law_pair_right", defArgs s_Lpairright, defBody s_Lpairright, defScope s_Lpairright, [], []⟩
def d_law : He.DefD := ⟨("law", none), "law", "law", defArgs s_law, defBody s_law, defScope s_law, [], []⟩
def hfn : List He.DefD := [d_isplain, d_reduced, d_fits, d_Float_init, d_Float_ratio, d_Float_isfinite, d_Float_eq, d_Thrown_init, d_wrapped, d_wholeof, d_wholeorthrown, d_bybits,
  d_arith, d_bitnot, d_negated, d_Lwell, d_Ldraw, d_Lone, d_Lgreat, d_Lfinite, d_Lfloat, d_Lint, d_Lnumber, d_Lwhole,
  d_Lbits, d_Lnumberof, d_Ldue, d_Lsaid, d_Lpairright, d_law]
def hglo : List Str := (["is_plain", "reduced", "fits", "wrapped", "whole_of", "whole_or_thrown", "by_bits", "arith", "bit_not", "negated", "_law_well", "_law_draw"] : List Str) ++
  (["_law_one", "_law_great", "_law_finite", "_law_float", "_law_int", "_law_number", "_law_whole", "_law_bits", "_law_number_of", "_law_due", "_law_said", "_law_pair_right"] : List Str) ++
  (["law", "Float", "Thrown"] : List Str)
def hfa : List He.Fa := hglo.map He.Fa.glo ++ (bltNames.map He.Fa.free ++ [.int "ROOM" (9007199254740992), .int "LOWEST" (-1074), .int "TOO_GREAT" (1024), .int "LEAST" (-9223372036854775808), .int "MOST" (9223372036854775807), .free "ArithmeticError", .mkr "Float", .meth "Float" "ratio", .meth "Float" "is_finite", .meth "Float" "__eq__", .meth "Thrown" "__init__"])
def thB (K : PySem.W.Frag) (C : Addr) (f : Addr) : Bool := PySem.W.excInitIn K C aeT "ArithmeticError.__new__" && (PySem.W.excOver K C aeT && (PySem.W.hasDictIn K C && (decide (PySem.W.findIn K (.ref C) "__setattr__" = some (some (.builtin "object.__setattr__"))) &&
  (decide (PySem.W.subIn K (.ref C) (.type "BaseException") = some true) && (decide (PySem.W.typeIn K (.ref C) = some (.type "type")) && (PySem.W.keepIn K (.ref C) && (noB K C ["value", "level"] && (xfB K C && (decide (PySem.W.exmOne K (.ref C) (.ref C) = some true) &&
  ((match PySem.W.findCls K (.type "ArithmeticError") (.type "type") "__init__" with | some (.val (.builtin n)) => n == "ArithmeticError.__init__" | _ => false) && decide (PySem.W.typeIn K (.ref f) = some (.type "function"))))))))))))
def hex (K : PySem.W.Frag) : Bool := ownB K (He.ga K "Float") && (noB K (He.ga K "Float") ["sign", "top", "power"] && (kitB' K (He.ga K "Float") true [.ref (He.ga K "Float")] &&
  (kitB' K (He.ga K "Float") false [.type "int", .type "bool", .type "str", .type "NoneType", .type "list", .type "tuple", .type "dict"] && (decide (PySem.W.findIn K (.ref (He.ga K "Float")) "__ne__" = some (some (.builtin "object.__ne__"))) && thB K (He.ga K "Thrown") (He.ma K (He.ga K "Thrown") "__init__")))))
def htf : List He.Defn := [("_law_pair_right", none)]
def hT (K : PySem.W.Frag) : List (Addr × Str) := [((He.cT K ("_law_pair_right", none)).2, "_law_pair_right.<locals>.<lambda>")]
abbrev hR : PySem.W.OpenRow := PySem.W.OpenLaw.row PySem.Challenge.rw_upvalues_k04_bits_of_numbers
abbrev hk : PySem.W.Hook := He.hookX 5 hfa hfn [] htf hex
def hob (s : PySem.W.SharedT) : He.AlX := He.obsX 5 hfa hfn [] htf hex (HandSHeadRun.getT s)
theorem hob_eq (s : PySem.W.SharedT) : hob s = hk.obs s.abs := He.obsX_eq (HandSHeadRun.getT_eq s)
def hloose : List PySem.Str := (["_wall", "LuaError", "InvalidArgument", "Thrown", "LEAST", "MOST", "ROOM", "LOWEST", "TOO_GREAT", "Float", "is_plain", "reduced", "fits", "sign_of", "nan", "infinity", "nearest", "wrapped", "to_float", "whole_of", "arith", "whole_or_thrown", "by_bits", "by_floats", "added", "multiplied", "divided", "floored", "remainder", "negated"] : List PySem.Str) ++ (["bit_not", "_law_well", "_law_draw", "_law_one", "_law_great", "_law_finite", "_law_float", "_law_int", "_law_number", "_law_whole", "_law_bits", "_law_number_of", "_law_due", "_law_said", "_law_pair_right"] : List PySem.Str)
theorem hrun (w : World) : HandSHeadRun.RunEq hR (PySem.W.view hR.prog [49]) hk hob 6000 hloose w := by
  intro os
  kernel_rfl
end Up

set_option Elab.async false
set_option linter.all false
set_option maxRecDepth 100000
set_option maxHeartbeats 0
set_option pp.maxSteps 300
namespace Up
open PySem PySem.Spec PyProof.Rows L2
theorem facts {P : Program} {w : World} {K : PySem.W.Frag} {h : Heap} {mg : Str → Option Value} {f : Addr} (X : K.In h) (G : h.Ns mainGlobals mg) (hfa' : mg ("law" : Str) = some (.ref f)) (cs : He.SaysX hfa hfn [] htf hex w h K) :
    ∃ fd : FuncData, (∀ (s : Shared) (v : Value), BindsTo s fd ⟨[v], []⟩ [("_law_script", v)]) ∧ ∀ base : Heap, K.In base → base.Ns mainGlobals mg → (∀ p ∈ htf, LamX.TabB base mg (He.cT K p).1 (He.cT K p).2) → FnOk P w K mg base CX0 18 f fd ["_law_script"] (spLaw K (hT K)) := by
  have c := cs.t.d
  have glo : ∀ x ∈ hglo, mg x = some (.ref (He.ga K x)) := fun x hx => He.glo_ok X G (c.facts (f := .glo x) (List.mem_append_left _ (List.mem_map_of_mem hx)))
  have B : Blt mg := blt_of fun x hx => He.free_ok X G (c.facts (f := .free x) (List.mem_append_right _ (List.mem_append_left _ (List.mem_map_of_mem hx))))
  have i_ROOM : ∃ t, mg "ROOM" = some (.int (9007199254740992) t) := He.int_ok X G (c.facts (f := .int "ROOM" (9007199254740992)) (List.mem_append_right _ (List.mem_append_right _ (by simp))))
  have i_LOWEST : ∃ t, mg "LOWEST" = some (.int (-1074) t) := He.int_ok X G (c.facts (f := .int "LOWEST" (-1074)) (List.mem_append_right _ (List.mem_append_right _ (by simp))))
  have i_TOO_GREAT : ∃ t, mg "TOO_GREAT" = some (.int (1024) t) := He.int_ok X G (c.facts (f := .int "TOO_GREAT" (1024)) (List.mem_append_right _ (List.mem_append_right _ (by simp))))
  have i_LEAST : ∃ t, mg "LEAST" = some (.int (-9223372036854775808) t) := He.int_ok X G (c.facts (f := .int "LEAST" (-9223372036854775808)) (List.mem_append_right _ (List.mem_append_right _ (by simp))))
  have i_MOST : ∃ t, mg "MOST" = some (.int (9223372036854775807) t) := He.int_ok X G (c.facts (f := .int "MOST" (9223372036854775807)) (List.mem_append_right _ (List.mem_append_right _ (by simp))))
  have mk_Float := He.mkr_ok (c.facts (f := .mkr "Float") (List.mem_append_right _ (List.mem_append_right _ (by simp))))
  have mt_Float_ratio := He.meth_ok (c.facts (f := .meth "Float" "ratio") (List.mem_append_right _ (List.mem_append_right _ (by simp))))
  have mt_Float_isfinite := He.meth_ok (c.facts (f := .meth "Float" "is_finite") (List.mem_append_right _ (List.mem_append_right _ (by simp))))
  have mt_Float_eq := He.meth_ok (c.facts (f := .meth "Float" "__eq__") (List.mem_append_right _ (List.mem_append_right _ (by simp))))
  have mt_Thrown_init := He.meth_ok (c.facts (f := .meth "Thrown" "__init__") (List.mem_append_right _ (List.mem_append_right _ (by simp))))
  have ex := cs.more
  unfold hex at ex
  simp only [Bool.and_eq_true] at ex
  obtain ⟨x1, x2, x3, x4, x5, x6⟩ := ex
  have x5 := of_decide_eq_true x5
  have T : FlC K mg (He.ga K "Float") := {
    own := ownB_ok x1, nS := noB_ok x2 (by simp), nT := noB_ok x2 (by simp), nP := noB_ok x2 (by simp), mg := glo "Float" (by simp [hglo]), yes := kitB'_ok x3 (by simp)
    fi := kitB'_ok x4 (by simp), fb := kitB'_ok x4 (by simp), fs := kitB'_ok x4 (by simp), fn := kitB'_ok x4 (by simp), fl := kitB'_ok x4 (by simp), ft := kitB'_ok x4 (by simp), fd := kitB'_ok x4 (by simp) }
  unfold thB at x6
  simp only [Bool.and_eq_true, decide_eq_true_eq] at x6
  obtain ⟨y1, y2, y3, y4, y5, y6, y7, y8, y9, y10, y11, y12⟩ := x6
  have y11 : PySem.W.findCls K (.type "ArithmeticError") (.type "type") "__init__" = some (.val (.builtin "ArithmeticError.__init__")) := by
    split at y11
    · rename_i n e
      rw [e, eq_of_beq y11]
    · cases y11
  have TH : ThK K mg (He.ga K "Thrown") := {
    ax := ⟨y1, y2, y3, y4, y5, y6, y7⟩, nV := noB_ok y8 (by simp), nL := noB_ok y8 (by simp), xf := xfB_ok y9, te := y10, ae := He.free_ok X G (c.facts (f := .free "ArithmeticError") (List.mem_append_right _ (List.mem_append_right _ (by simp)))), vV := y11, mg := glo "Thrown" (by simp [hglo]) }
  obtain ⟨f_isplain, F_isplain⟩ := c.defs (d := d_isplain) (by simp [hfn])
  obtain ⟨f_reduced, F_reduced⟩ := c.defs (d := d_reduced) (by simp [hfn])
  obtain ⟨f_fits, F_fits⟩ := c.defs (d := d_fits) (by simp [hfn])
  obtain ⟨f_Float_init, F_Float_init⟩ := c.defs (d := d_Float_init) (by simp [hfn])
  obtain ⟨f_Float_ratio, F_Float_ratio⟩ := c.defs (d := d_Float_ratio) (by simp [hfn])
  obtain ⟨f_Float_isfinite, F_Float_isfinite⟩ := c.defs (d := d_Float_isfinite) (by simp [hfn])
  obtain ⟨f_Float_eq, F_Float_eq⟩ := c.defs (d := d_Float_eq) (by simp [hfn])
  obtain ⟨f_Thrown_init, F_Thrown_init⟩ := c.defs (d := d_Thrown_init) (by simp [hfn])
  obtain ⟨f_wrapped, F_wrapped⟩ := c.defs (d := d_wrapped) (by simp [hfn])
  obtain ⟨f_wholeof, F_wholeof⟩ := c.defs (d := d_wholeof) (by simp [hfn])
  obtain ⟨f_wholeorthrown, F_wholeorthrown⟩ := c.defs (d := d_wholeorthrown) (by simp [hfn])
  obtain ⟨f_bybits, F_bybits⟩ := c.defs (d := d_bybits) (by simp [hfn])
  obtain ⟨f_arith, F_arith⟩ := c.defs (d := d_arith) (by simp [hfn])
  obtain ⟨f_bitnot, F_bitnot⟩ := c.defs (d := d_bitnot) (by simp [hfn])
  obtain ⟨f_negated, F_negated⟩ := c.defs (d := d_negated) (by simp [hfn])
  obtain ⟨f_Lwell, F_Lwell⟩ := c.defs (d := d_Lwell) (by simp [hfn])
  obtain ⟨f_Ldraw, F_Ldraw⟩ := c.defs (d := d_Ldraw) (by simp [hfn])
  obtain ⟨f_Lone, F_Lone⟩ := c.defs (d := d_Lone) (by simp [hfn])
  obtain ⟨f_Lgreat, F_Lgreat⟩ := c.defs (d := d_Lgreat) (by simp [hfn])
  obtain ⟨f_Lfinite, F_Lfinite⟩ := c.defs (d := d_Lfinite) (by simp [hfn])
  obtain ⟨f_Lfloat, F_Lfloat⟩ := c.defs (d := d_Lfloat) (by simp [hfn])
  obtain ⟨f_Lint, F_Lint⟩ := c.defs (d := d_Lint) (by simp [hfn])
  obtain ⟨f_Lnumber, F_Lnumber⟩ := c.defs (d := d_Lnumber) (by simp [hfn])
  obtain ⟨f_Lwhole, F_Lwhole⟩ := c.defs (d := d_Lwhole) (by simp [hfn])
  obtain ⟨f_Lbits, F_Lbits⟩ := c.defs (d := d_Lbits) (by simp [hfn])
  obtain ⟨f_Lnumberof, F_Lnumberof⟩ := c.defs (d := d_Lnumberof) (by simp [hfn])
  obtain ⟨f_Ldue, F_Ldue⟩ := c.defs (d := d_Ldue) (by simp [hfn])
  obtain ⟨f_Lsaid, F_Lsaid⟩ := c.defs (d := d_Lsaid) (by simp [hfn])
  obtain ⟨f_Lpairright, F_Lpairright⟩ := c.defs (d := d_Lpairright) (by simp [hfn])
  obtain ⟨f_law, F_law⟩ := c.defs (d := d_law) (by simp [hfn])
  have e := hfa'.symm.trans (glo "law" (by simp [hglo]))
  cases e
  have b := FunD.bindsA (ps := ["_law_script"]) F_law fun _ _ _ _ _ _ us hl => match us, hl with | [_], _ => rfl
  refine ⟨f_law, fun s v => b s [v] rfl, fun base _ _ htb => ?_⟩
  have c_isplain : Fn P w K mg base CX0 1 "is_plain" _ [] _ := fn_mk F_isplain (glo "is_plain" (by simp [hglo])) (ok_isplain F_isplain B) (fun _ _ _ _ _ _ us hl => match us, hl with | [_], _ => rfl)
  have c_reduced : Fn P w K mg base CX0 1 "reduced" _ [] _ := fn_mk F_reduced (glo "reduced" (by simp [hglo])) (ok_reduced F_reduced B) (fun _ _ _ _ _ _ us hl => match us, hl with | [_, _], _ => rfl)
  have c_fits : Fn P w K mg base CX0 1 "fits" _ [] _ := fn_mk F_fits (glo "fits" (by simp [hglo])) (ok_fits F_fits B i_ROOM i_LOWEST i_TOO_GREAT) (fun _ _ _ _ _ _ us hl => match us, hl with | [_, _], _ => rfl)
  have c_Float : Cn P w K mg base CX0 2 "Float" (He.ga K "Float") _ [] _ := cn_mk F_Float_init mk_Float T.mg (ok_Finit F_Float_init B T c_isplain c_reduced c_fits) (fun _ _ _ _ _ _ us hl => match us, hl with | [_, _, _, _], _ => rfl)
  have c_Float_ratio : Mt P w K mg base CX0 1 (He.ga K "Float") "ratio" _ _ := mt_mk F_Float_ratio mt_Float_ratio T.own.cl (ok_ratio F_Float_ratio B T) (fun _ _ _ _ _ _ us hl => match us, hl with | [_], _ => rfl)
  have c_Float_isfinite : Mt P w K mg base CX0 1 (He.ga K "Float") "is_finite" _ _ := mt_mk F_Float_isfinite mt_Float_isfinite T.own.cl (ok_isfinite F_Float_isfinite B T) (fun _ _ _ _ _ _ us hl => match us, hl with | [_], _ => rfl)
  have c_Float_eq : EqC P w K mg base 1 (He.ga K "Float") _ := ⟨_, f_Float_eq, ok_Feq F_Float_eq B T, mt_Float_eq.at_, mt_Float_eq.fn, FunD.bindsN F_Float_eq (fun _ _ _ _ _ _ us hl => match us, hl with | [_, _], _ => rfl), x5, T.own.hm⟩
  have c_Thrown : CThr P w K mg base (He.ga K "Thrown") := by
    obtain ⟨ds, hd, hb⟩ := FunD.binds1 (ps := ["self", "value", "level"]) F_Thrown_init 2 0 (by show [V.int 1] ≠ []; simp) rfl (fun _ _ _ _ _ _ _ us its hu hi => match us, its, hu, hi with | [_, _], [_], _, _ => ⟨_, rfl, rfl⟩)
    exact ⟨TH, _, _, ds, mt_Thrown_init.at_, y12, ok_ThrInit F_Thrown_init TH, hb, hd⟩
  have c_wrapped : Fn P w K mg base CX0 1 "wrapped" _ [] _ := fn_mk F_wrapped (glo "wrapped" (by simp [hglo])) (ok_wrapped F_wrapped) (fun _ _ _ _ _ _ us hl => match us, hl with | [_], _ => rfl)
  have c_wholeof : Fn P w K mg base CX0 2 "whole_of" _ [] _ := fn_mk F_wholeof (glo "whole_of" (by simp [hglo])) (ok_wholeof F_wholeof B T i_LEAST i_MOST c_Float_isfinite c_Float_ratio) (fun _ _ _ _ _ _ us hl => match us, hl with | [_], _ => rfl)
  have c_wholeorthrown : Fn P w K mg base (L2.CX P w) 4 "whole_or_thrown" _ [] _ := fn_mk F_wholeorthrown (glo "whole_or_thrown" (by simp [hglo])) (ok_wot F_wholeorthrown c_Thrown c_wholeof) (fun _ _ _ _ _ _ us hl => match us, hl with | [_], _ => rfl)
  have c_bybits : Fn P w K mg base CX0 2 "by_bits" _ [] _ := fn_mk F_bybits (glo "by_bits" (by simp [hglo])) (ok_bybits F_bybits c_wrapped) (fun _ _ _ _ _ _ us hl => match us, hl with | [_, _, _], _ => rfl)
  have c_arith : Fn P w K mg base (L2.CX P w) 6 "arith" _ [] _ := fn_mk F_arith (glo "arith" (by simp [hglo])) (ok_arB F_arith c_wholeorthrown c_bybits) (fun _ _ _ _ _ _ us hl => match us, hl with | [_, _, _], _ => rfl)
  have c_bitnot : Fn P w K mg base (L2.CX P w) 6 "bit_not" _ [] _ := fn_mk F_bitnot (glo "bit_not" (by simp [hglo])) (ok_bitnot F_bitnot c_wholeorthrown) (fun _ _ _ _ _ _ us hl => match us, hl with | [_], _ => rfl)
  have c_negated : Fn P w K mg base CX0 4 "negated" _ [] _ := fn_mk F_negated (glo "negated" (by simp [hglo])) (ok_neg F_negated B T c_Float c_wrapped) (fun _ _ _ _ _ _ us hl => match us, hl with | [_], _ => rfl)
  have c_Lwell : Fn P w K mg base CX0 1 "_law_well" _ [] _ := fn_mk F_Lwell (glo "_law_well" (by simp [hglo])) (ok_Lwell F_Lwell B) (fun _ _ _ _ _ _ us hl => match us, hl with | [_], _ => rfl)
  have c_Ldraw : Fn P w K mg base CX0 1 "_law_draw" _ [] _ := fn_mk F_Ldraw (glo "_law_draw" (by simp [hglo])) (ok_Ldraw F_Ldraw B) (fun _ _ _ _ _ _ us hl => match us, hl with | [_, _], _ => rfl)
  have c_Lone : Fn P w K mg base CX0 2 "_law_one" _ [] _ := fn_mk F_Lone (glo "_law_one" (by simp [hglo])) (ok_Lone F_Lone B c_Ldraw) (fun _ _ _ _ _ _ us hl => match us, hl with | [_, _], _ => rfl)
  have c_Lgreat : Fn P w K mg base CX0 2 "_law_great" _ [] _ := fn_mk F_Lgreat (glo "_law_great" (by simp [hglo])) (ok_Lgreat F_Lgreat B c_Ldraw) (fun _ _ _ _ _ _ us hl => match us, hl with | [_, _], _ => rfl)
  have c_Lfinite : Fn P w K mg base CX0 3 "_law_finite" _ [] _ := fn_mk F_Lfinite (glo "_law_finite" (by simp [hglo])) (ok_Lfinite F_Lfinite B c_Ldraw c_Lone c_Lgreat) (fun _ _ _ _ _ _ us hl => match us, hl with | [_], _ => rfl)
  have c_Lfloat : Fn P w K mg base CX0 4 "_law_float" _ [] _ := fn_mk F_Lfloat (glo "_law_float" (by simp [hglo])) (ok_Lfloat F_Lfloat B c_Float c_Ldraw c_Lone c_Lfinite) (fun _ _ _ _ _ _ us hl => match us, hl with | [_], _ => rfl)
  have c_Lint : Fn P w K mg base CX0 3 "_law_int" _ [] _ := fn_mk F_Lint (glo "_law_int" (by simp [hglo])) (ok_Lint F_Lint B c_Ldraw c_Lone c_Lgreat) (fun _ _ _ _ _ _ us hl => match us, hl with | [_], _ => rfl)
  have c_Lnumber : Fn P w K mg base CX0 5 "_law_number" _ [] _ := fn_mk F_Lnumber (glo "_law_number" (by simp [hglo])) (ok_Lnumber F_Lnumber B c_Float c_Ldraw c_Lone c_Lint c_Lfloat) (fun _ _ _ _ _ _ us hl => match us, hl with | [_], _ => rfl)
  have c_Lwhole : Fn P w K mg base CX0 1 "_law_whole" _ [] _ := fn_mk F_Lwhole (glo "_law_whole" (by simp [hglo])) (ok_Lwhole F_Lwhole B T) (fun _ _ _ _ _ _ us hl => match us, hl with | [_], _ => rfl)
  have c_Lbits : Fn P w K mg base CX0 1 "_law_bits" _ [] _ := fn_mk F_Lbits (glo "_law_bits" (by simp [hglo])) (ok_Lbits F_Lbits B) (fun _ _ _ _ _ _ us hl => match us, hl with | [_], _ => rfl)
  have c_Lnumberof : Fn P w K mg base CX0 1 "_law_number_of" _ [] _ := fn_mk F_Lnumberof (glo "_law_number_of" (by simp [hglo])) (ok_Lnumof F_Lnumberof B) (fun _ _ _ _ _ _ us hl => match us, hl with | [_], _ => rfl)
  have c_Ldue : Fn P w K mg base CX0 3 "_law_due" _ [] _ := fn_mk F_Ldue (glo "_law_due" (by simp [hglo])) (ok_Ldue F_Ldue B c_Lbits c_Lnumberof) (fun _ _ _ _ _ _ us hl => match us, hl with | [_, _, _], _ => rfl)
  have lm_p : LmG P w K mg base (He.ga K "Thrown") (hT K) (He.cT K ("_law_pair_right", none)).1 (He.cT K ("_law_pair_right", none)).2 "_law_pair_right.<locals>.<lambda>" := ⟨⟨_, _, F_Lsaid, glo "_law_said" (by simp [hglo]), FunD.bindsN F_Lsaid (fun _ _ _ _ _ _ us hl => match us, hl with | [_], _ => rfl)⟩, TH, htb ("_law_pair_right", none) (by simp [htf]), by simp [hT], fun p hp e => by
    simp only [hT, List.mem_cons, List.not_mem_nil, or_false] at hp
    rw [hp]⟩
  have c_Lpairright : Fn P w K mg base CX0 16 "_law_pair_right" _ [] _ := fn_mk F_Lpairright (glo "_law_pair_right" (by simp [hglo])) (ok_Lpair F_Lpairright (code_of F_Lpairright) lm_p B T c_arith c_bitnot c_wholeof c_Lwhole c_Ldue c_Lbits c_Lnumberof c_negated c_Float c_Float_eq) (fun _ _ _ _ _ _ us hl => match us, hl with | [_, _], _ => rfl)
  exact ok_law F_law B c_Float c_Lwell c_Ldraw c_Lone c_Lnumber c_Lpairright
end Up
open PySem PySem.W PySem.Calls PyProof.Rows
theorem PySem.Challenge.cw_upvalues_k04_bits_of_numbers_holds : PySem.Challenge.rw_upvalues_k04_bits_of_numbers.Holds := by
  w_on; o_law
  refine HandSHeadRun.head_any (r := OpenLaw.row PySem.Challenge.rw_upvalues_k04_bits_of_numbers) (q := view (OpenLaw.row PySem.Challenge.rw_upvalues_k04_bits_of_numbers).prog [49]) (H := Up.hk) (ob := Up.hob) (M := 6000) (loose := Up.hloose) (d := HandSHeadRun.topDef (OpenLaw.row PySem.Challenge.rw_upvalues_k04_bits_of_numbers).prog 49) (kwd := []) Up.hob_eq
    (by kernel_rfl) (fun s => by kernel_rfl) Up.hrun (by kernel_rfl) (by kernel_rfl) (by kernel_rfl) (by rfl) (by first | assumption | decide +kernel) (by decide +kernel) ⟨rfl, rfl, rfl, rfl, rfl, by decide +kernel⟩ ?hw ?hc
  case hw => w_witness2
  case hc =>
    refine LamX.walk_ofTsE (l := PySem.Challenge.rw_upvalues_k04_bits_of_numbers) (n := 63) (k := 18) (x := "_law_script") (CX := fun _ => L2.CX0) rfl (by decide) (by kernel_rfl) ⟨rfl, by decide, by decide⟩ ?F (fun _ _ _ _ _ z => z)
    intro w mg fa h Y G hmg0
    obtain ⟨K, KX, c⟩ := Y
    have hmg : mg ("law" : PySem.Str) = some (.ref fa) := by
      have e : (HandSHeadRun.topDef (OpenLaw.row PySem.Challenge.rw_upvalues_k04_bits_of_numbers).prog 49).name = ("law" : PySem.Str) := by kernel_rfl
      rw [← e]
      exact hmg0
    obtain ⟨fd, hb, hF⟩ := Up.facts (P := (PySem.Challenge.rw_upvalues_k04_bits_of_numbers).prog) (w := w) KX G hmg c
    have mm : ∀ p ∈ Up.htf.map (He.cT K), ∃ q ∈ Up.htf, He.cT K q = p := fun p hp => List.mem_map.mp hp
    refine ⟨K, KX, fd, Up.htf.map (He.cT K), Up.spLaw K (Up.hT K), fun p hp => ?_, fun p hp => ?_, fun p hp => ?_, hb, fun H a ns hl _ ht hS => ⟨a, ns, rfl, hS, hl, fun p hp => ?_, fun _ => rfl⟩, fun base kb bn tb => hF base kb bn fun p hp => tb _ (List.mem_map_of_mem hp)⟩
    · obtain ⟨q, hq, rfl⟩ := mm p hp
      exact c.empty q hq
    · obtain ⟨q, hq, rfl⟩ := mm p hp
      exact c.out q hq
    · obtain ⟨q, hq, rfl⟩ := mm p hp
      exact PySem.W.codeHd_of_K KX (c.hd q hq)
    · have key : ∀ q ∈ Up.htf, ∀ z : PySem.Str, LamX.TabS H (He.cT K q).2 z := fun q hq z => LamX.TabS.nil (ht _ (List.mem_map_of_mem hq))
      simp only [Up.hT, List.mem_cons, List.not_mem_nil, or_false] at hp
      rcases hp with rfl
      · exact key _ (by simp [Up.htf]) _
#print axioms PySem.Challenge.cw_upvalues_k04_bits_of_numbers_holds
