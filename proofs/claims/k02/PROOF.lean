import PyProof.Rows.All
import Wide.All
import OpenK.AllK
import Wide.FinOn
import PyProof.EqAt
import PyProof.EqKinds
import PyProof.TupleCall
import HandS.ForMost
import HandS.Exc
import HandS.WordsExc
import HandS.IsInst
import HandS.EndBits
import HandS.Evl
import HandS.Walk
import HandS.ExcInit
import HandS.ExcIs
import KE.KExcIs
import KE.KxText
import HandS.Defaults
import HandS.Replace
import KE.IntTextLaws
import HandS.MakeKwOnly
import PySem.Challenge.RW_caughtnames_k02_numbers_and_words_of_tex
set_option Elab.async false
set_option linter.all false
set_option maxRecDepth 100000
set_option maxHeartbeats 4000000
/-! The words of our own: readings of the operators by the values' kinds, and steps of readings. -/
namespace CN
open PySem PySem.Spec PyProof.Rows L2 Evl

/-! ### new objects: the heap behind is told by what it keeps -/
def nwL (xs : List V) (H : Hp) (Q : VK) : Prop := ∀ p H', H p = none → Ex H H' → H' p = some (.lst xs) → Q (.ref p) H'
def nwT (xs : List V) (H : Hp) (Q : VK) : Prop := ∀ p H', H p = none → Ex H H' → H' p = some (.tup xs) → Q (.ref p) H'
theorem nwL.up {xs : List V} {H : Hp} {Q : VK} (h : nwL xs H Q) {p : Addr} (hp : H p = none) : Q (.ref p) (upd H p (.lst xs)) := h p _ hp (Ex.new hp) upd_same
theorem nwT.up {xs : List V} {H : Hp} {Q : VK} (h : nwT xs H Q) {p : Addr} (hp : H p = none) : Q (.ref p) (upd H p (.tup xs)) := h p _ hp (Ex.new hp) upd_same
def tLstG (t : TA) : TE := fun σ H Q => t σ H fun xs H1 => xs.length ≤ sizeLine ∧ nwL xs H1 Q
def tTupG (t : TA) : TE := fun σ H Q => t σ H fun xs H1 => xs.length ≤ sizeLine ∧ nwT xs H1 Q
section
variable {X : Cx} {es : List Expr} {t : TA} {pos : Pos}
theorem pe_lstG (h : PA X es t) : PE X (.List es pos) (tLstG t) := by
  constructor
  intro pins s σ H Q I hq
  refine wpAny_List_spliced (thn (h.run pos pins s σ H _ I hq) fun us s1 q1 => ?_)
  obtain ⟨xs, H1, I1, r, z, q⟩ := q1
  have hf : H1 s1.heap.objs.size = none := I1.hok.fresh (Nat.le_refl _)
  have hz : us.length ≤ sizeLine := r.length ▸ z
  have J := I1.laid (t' := s1.toks) (a := s1.heap.objs.size) (o := .lst xs) (h' := s1.heap.push { cls := .type "list", data := .seq us.toArray 0 }) (fun b u e => Heap.get?_push_of_some _ e) (Nat.le_refl _) ⟨z, us, 0, r, Heap.get?_push_size _ rfl⟩
  exact ⟨hz, .ref s1.heap.objs.size, _, J, rfl, q.up hf⟩
theorem pe_tupG {x1} (h : PA X es t) : PE X (.Tuple es x1 pos) (tTupG t) := by
  constructor
  intro pins s σ H Q I hq
  refine wpAny_Tuple_spliced (thn (h.run pos pins s σ H _ I hq) fun us s1 q1 => ?_)
  obtain ⟨xs, H1, I1, r, z, q⟩ := q1
  have hf : H1 s1.heap.objs.size = none := I1.hok.fresh (Nat.le_refl _)
  have hz : us.length ≤ sizeLine := r.length ▸ z
  refine ⟨hz, .ref s1.heap.objs.size, upd H1 s1.heap.objs.size (.tup xs), ?_, rfl, q.up hf⟩
  refine I1.laid (t' := s1.toks) (fun b u e => Heap.get?_push_of_some _ e) (Nat.le_refl _) ?_
  exact ⟨z, us, r, _, Heap.get?_push_size _ rfl, rfl, _, rfl⟩
end
/-! ### operators -/
def rCatG : R2 := fun x y H Q => ∃ l b xs zs, x = .ref l ∧ y = .ref b ∧ H l = some (.lst xs) ∧ H b = some (.lst zs) ∧ xs.length + zs.length ≤ sizeLine ∧ nwL (xs ++ zs) H Q
def rCatTG (K : PySem.W.Frag) : R2 := fun x y H Q => ∃ a b xs ys, x = .ref a ∧ y = .ref b ∧ SqT K H a xs ∧ SqT K H b ys ∧ xs ≠ [] ∧ xs.length + ys.length ≤ sizeLine ∧ (ys = [] → Q (.ref a) H) ∧ (ys ≠ [] → nwT (xs ++ ys) H Q)
def rRepG : R2 := fun x y H Q => ∃ l k xs, x = .ref l ∧ y = .int k ∧ H l = some (.lst xs) ∧ -(2 ^ 63) ≤ k ∧ k < 2 ^ 63 ∧ xs.length * k.toNat ≤ sizeLine ∧ nwL (List.replicate k.toNat xs).flatten H Q
def rSlLG (K : PySem.W.Frag) : V → Option Int → Option Int → Hp → VK → Prop := fun x lo hi H Q => ∃ a xs, x = .ref a ∧ SqL K H a xs ∧ nwL (cutV xs lo hi) H Q
def rSlTG (K : PySem.W.Frag) : V → Option Int → Option Int → Hp → VK → Prop := fun x lo hi H Q => ∃ a xs, x = .ref a ∧ SqT K H a xs ∧
  ¬ (HT.sIx xs.length 0 lo = 0 ∧ HT.sIx xs.length xs.length hi = xs.length) ∧ nwT (cutV xs lo hi) H Q
def rAddU (K : PySem.W.Frag) : R2 := fun x y H Q => match x, y with
  | .int i, .int j => Q (.int (i + j)) H
  | .str a, .str b => a.length + b.length ≤ sizeLine ∧ Q (.str (a ++ b)) H
  | .ref _, .ref _ => rCatG x y H Q ∨ rCatTG K x y H Q
  | _, _ => False
def rMulU : R2 := fun x y H Q => match x, y with
  | .int i, .int j => CMul i j ∧ Q (.int (i * j)) H
  | .ref _, .int _ => rRepG x y H Q
  | _, _ => False
def rSubI : R2 := fun x y H Q => match x, y with
  | .int i, .int j => Q (.int (i - j)) H
  | _, _ => False
def rDivI : R2 := fun x y H Q => match x, y with
  | .int i, .int j => CDiv i j ∧ Q (.int (i / j)) H
  | _, _ => False
def rModI : R2 := fun x y H Q => match x, y with
  | .int i, .int j => 0 < j ∧ Q (.int (i % j)) H
  | _, _ => False
def rPowI : R2 := fun x y H Q => match x, y with
  | .int i, .int j => CPow i j ∧ Q (.int (i ^ j.toNat)) H
  | _, _ => False
def rEqU (K : PySem.W.Frag) : R2 := fun x y H Q => (scal x y = true ∧ Q (.bl (decide (x = y))) H) ∨ rEqD K x y H Q
def rNeU (K : PySem.W.Frag) : R2 := fun x y H Q => (scal x y = true ∧ Q (.bl (!decide (x = y))) H) ∨ rNeD K x y H Q
def rLtU : R2 := fun x y H Q => match x, y with
  | .int i, .int j => Q (.bl (decide (i < j))) H
  | .str a, .str b => Q (.bl (decide (a.cps.toList < b.cps.toList))) H
  | _, _ => False
def rLeU : R2 := fun x y H Q => match x, y with
  | .int i, .int j => Q (.bl (decide (i ≤ j))) H
  | .str a, .str b => Q (.bl (!decide (b.cps.toList < a.cps.toList))) H
  | _, _ => False
def rGtU : R2 := fun x y H Q => match x, y with
  | .int i, .int j => Q (.bl (decide (j < i))) H
  | .str a, .str b => Q (.bl (decide (b.cps.toList < a.cps.toList))) H
  | _, _ => False
def rGeU : R2 := fun x y H Q => match x, y with
  | .int i, .int j => Q (.bl (decide (j ≤ i))) H
  | .str a, .str b => Q (.bl (!decide (a.cps.toList < b.cps.toList))) H
  | _, _ => False
def rInU (K : PySem.W.Frag) : R2 := fun x y H Q => match y with
  | .str z => ∃ c : Nat, x = .str ⟨#[c]⟩ ∧ Q (.bl (decide (c ∈ z.cps.toList))) H
  | _ => rIn K false x y H Q
def rNotInU (K : PySem.W.Frag) : R2 := fun x y H Q => match y with
  | .str z => ∃ c : Nat, x = .str ⟨#[c]⟩ ∧ Q (.bl (!decide (c ∈ z.cps.toList))) H
  | _ => rIn K true x y H Q
def rIsNU : R2 := fun x y H Q => y = .non ∧ Q (.bl (decide (x = .non))) H
def rNotNU : R2 := fun x y H Q => y = .non ∧ Q (.bl (!decide (x = .non))) H
def rNegI : V → Hp → VK → Prop := fun x H Q => match x with
  | .int i => Q (.int (-i)) H
  | _ => False
def rSlU (K : PySem.W.Frag) : V → Option Int → Option Int → Hp → VK → Prop := fun x lo hi H Q => match x with
  | .str z => z.length ≤ sizeLine ∧ Q (.str (cutS z lo hi)) H
  | _ => rSlLG K x lo hi H Q ∨ rSlTG K x lo hi H Q
section
variable {X : Cx}
theorem op_addU : OpR X (binaryOp .Add) (rAddU X.K) := by
  intro pins s σ H x y v u Q I rx ry h
  unfold rAddU at h
  split at h
  · exact op_add pins s σ H _ _ v u Q I rx ry ⟨_, _, rfl, rfl, h⟩
  · exact op_add_str pins s σ H _ _ v u Q I rx ry ⟨_, _, rfl, rfl, h.1, h.2⟩
  · rcases h with h | h
    · obtain ⟨l, b, xs, zs, e1, e2, h1, h2, h3, h4⟩ := h
      exact op_cat pins s σ H _ _ v u Q I rx ry ⟨l, b, xs, zs, e1, e2, h1, h2, h3, fun p hp => h4.up hp⟩
    · obtain ⟨l, b, xs, zs, e1, e2, h1, h2, h3, h4, h5, h6⟩ := h
      exact op_catT pins s σ H _ _ v u Q I rx ry ⟨l, b, xs, zs, e1, e2, h1, h2, h3, h4, h5, fun e p hp => (h6 e).up hp⟩
  · exact h.elim
theorem op_mulU : OpR X (binaryOp .Mult) rMulU := by
  intro pins s σ H x y v u Q I rx ry h
  unfold rMulU at h
  split at h
  · exact op_mul pins s σ H _ _ v u Q I rx ry ⟨_, _, rfl, rfl, h.1, h.2⟩
  · obtain ⟨l, k, xs, e1, e2, h1, h2, h3, h4, h5⟩ := h
    exact op_rep pins s σ H _ _ v u Q I rx ry ⟨l, k, xs, e1, e2, h1, h2, h3, h4, fun p hp => h5.up hp⟩
  · exact h.elim
theorem op_subI : OpR X (binaryOp .Sub) rSubI := by
  intro pins s σ H x y v u Q I rx ry h
  unfold rSubI at h
  split at h
  · exact op_sub pins s σ H _ _ v u Q I rx ry ⟨_, _, rfl, rfl, h⟩
  · exact h.elim
theorem op_divI : OpR X (binaryOp .FloorDiv) rDivI := by
  intro pins s σ H x y v u Q I rx ry h
  unfold rDivI at h
  split at h
  · exact op_fdiv pins s σ H _ _ v u Q I rx ry ⟨_, _, rfl, rfl, h.1, h.2⟩
  · exact h.elim
theorem op_modI : OpR X (binaryOp .Mod) rModI := by
  intro pins s σ H x y v u Q I rx ry h
  unfold rModI at h
  split at h
  · exact op_mod pins s σ H _ _ v u Q I rx ry ⟨_, _, rfl, rfl, h.1, h.2⟩
  · exact h.elim
theorem op_powI : OpR X (binaryOp .Pow) rPowI := by
  intro pins s σ H x y v u Q I rx ry h
  unfold rPowI at h
  split at h
  · exact op_pow pins s σ H _ _ v u Q I rx ry ⟨_, _, rfl, rfl, h.1, h.2⟩
  · exact h.elim
theorem op_eqU (hu : X.A.units + 64 < cLine) : OpR X (compareOp .Eq) (rEqU X.K) := op_eq.or (op_eqD hu)
theorem op_neU (hu : X.A.units + 64 < cLine) : OpR X (compareOp .NotEq) (rNeU X.K) := op_ne.or (op_neD hu)
theorem op_ltU : OpR X (compareOp .Lt) rLtU := by
  intro pins s σ H x y v u Q I rx ry h
  unfold rLtU at h
  split at h
  · exact op_lt pins s σ H _ _ v u Q I rx ry ⟨_, _, rfl, rfl, h⟩
  · exact op_lt_str pins s σ H _ _ v u Q I rx ry ⟨_, _, rfl, rfl, h⟩
  · exact h.elim
theorem op_leU : OpR X (compareOp .LtE) rLeU := by
  intro pins s σ H x y v u Q I rx ry h
  unfold rLeU at h
  split at h
  · exact op_le pins s σ H _ _ v u Q I rx ry ⟨_, _, rfl, rfl, h⟩
  · exact op_le_str pins s σ H _ _ v u Q I rx ry ⟨_, _, rfl, rfl, h⟩
  · exact h.elim
theorem op_gtU : OpR X (compareOp .Gt) rGtU := by
  intro pins s σ H x y v u Q I rx ry h
  unfold rGtU at h
  split at h
  · exact op_gt pins s σ H _ _ v u Q I rx ry ⟨_, _, rfl, rfl, h⟩
  · exact op_gt_str pins s σ H _ _ v u Q I rx ry ⟨_, _, rfl, rfl, h⟩
  · exact h.elim
theorem op_geU : OpR X (compareOp .GtE) rGeU := by
  intro pins s σ H x y v u Q I rx ry h
  unfold rGeU at h
  split at h
  · exact op_ge pins s σ H _ _ v u Q I rx ry ⟨_, _, rfl, rfl, h⟩
  · exact op_ge_str pins s σ H _ _ v u Q I rx ry ⟨_, _, rfl, rfl, h⟩
  · exact h.elim
theorem op_inU : OpR X (compareOp .In) (rInU X.K) := by
  intro pins s σ H x y v u Q I rx ry h
  unfold rInU at h
  split at h
  · obtain ⟨c, rfl, q⟩ := h
    exact op_in_sign pins s σ H _ _ v u Q I rx ry ⟨c, _, rfl, rfl, q⟩
  · exact op_in_seq pins s σ H _ _ v u Q I rx ry h
theorem op_notInU : OpR X (compareOp .NotIn) (rNotInU X.K) := by
  intro pins s σ H x y v u Q I rx ry h
  unfold rNotInU at h
  split at h
  · obtain ⟨c, rfl, q⟩ := h
    exact op_notIn_sign pins s σ H _ _ v u Q I rx ry ⟨c, _, rfl, rfl, q⟩
  · exact op_notIn_seq pins s σ H _ _ v u Q I rx ry h
theorem op_isNU : OpR X (compareOp .Is) rIsNU := op_isN
theorem op_notNU : OpR X (compareOp .IsNot) rNotNU := op_notN
theorem un_negI : UnR X (unaryOp .USub) rNegI := by
  intro pins s σ H x v Q I rx h
  unfold rNegI at h
  split at h
  · exact un_neg pins s σ H _ v Q I rx ⟨_, rfl, h⟩
  · exact h.elim
theorem sl_U : SlR X (rSlU X.K) := by
  intro pins s σ H x v vl vu lo hi sl Q I rx hs pl pu q
  unfold rSlU at q
  split at q
  · exact sl_str pins s σ H _ v vl vu lo hi sl Q I rx hs pl pu ⟨_, rfl, q.1, q.2⟩
  · rcases q with q | q
    · obtain ⟨a, xs, e1, h1, h2⟩ := q
      exact sl_list pins s σ H _ v vl vu lo hi sl Q I rx hs pl pu ⟨a, xs, e1, h1, fun p hp => h2.up hp⟩
    · obtain ⟨a, xs, e1, h1, h2, h3⟩ := q
      exact sl_tup pins s σ H _ v vl vu lo hi sl Q I rx hs pl pu ⟨a, xs, e1, h1, h2, fun p hp => h3.up hp⟩
end

/-! ### calls of built-ins -/
def rLenU (K : PySem.W.Frag) : List V → Hp → VK → Prop := fun xs H Q => match xs with
  | [.str z] => z.length ≤ sizeLine ∧ Q (.int z.length) H
  | [.ref p] => (∃ ys, (SqL K H p ys ∨ SqT K H p ys) ∧ Q (.int ys.length) H) ∨ ∃ kvs, H p = some (.dK kvs) ∧ Q (.int kvs.length) H
  | _ => False
def rMaxI : List V → Hp → VK → Prop := fun xs H Q => match xs with
  | [.int i, .int j] => Q (.int (if j > i then j else i)) H
  | _ => False
def rMinI : List V → Hp → VK → Prop := fun xs H Q => match xs with
  | [.int i, .int j] => Q (.int (if j < i then j else i)) H
  | _ => False
def rStrI : List V → Hp → VK → Prop := fun xs H Q => match xs with
  | [.int i] => i.natAbs.log2 < 1920 ∧ Q (.str (toString i)) H
  | _ => False
def rIntU : List V → Hp → VK → Prop := fun xs H Q => match xs with
  | [.int i] => Q (.int i) H
  | [.bl k] => Q (.int (if k then 1 else 0)) H
  | [.str a] => ∃ n, PySem.intText? a = some n ∧ a.length ≤ 640 ∧ Q (.int n) H
  | _ => False
def rTupleU (K : PySem.W.Frag) : List V → Hp → VK → Prop := fun xs H Q => ∃ p ys, xs = [.ref p] ∧ ((SqL K H p ys ∧ nwT ys H Q) ∨ (SqT K H p ys ∧ Q (.ref p) H))
def rListU (K : PySem.W.Frag) : List V → Hp → VK → Prop := fun xs H Q => ∃ p ys, xs = [.ref p] ∧ (SqL K H p ys ∨ SqT K H p ys) ∧ nwL ys H Q
def rJoinU (K : PySem.W.Frag) : V → List V → Hp → VK → Prop := fun x xs H Q => ∃ a p, ∃ ys : List Str, x = .str a ∧ xs = [.ref p] ∧ (SqL K H p (ys.map V.str) ∨ SqT K H p (ys.map V.str)) ∧
  (ys.map (·.length)).sum + ys.length * a.length ≤ 16777216 ∧ Q (.str (Txt.join a ys)) H
section
variable {X : Cx}
theorem mt_joinU : MtR X "str.join" (rJoinU X.K) := mt_join
theorem call_lenU : CallR X (.builtin "len") (rLenU X.K) := by
  intro pins s σ H xs us Q I r h
  unfold rLenU at h
  split at h
  · exact call_len_str pins s σ H _ us Q I r ⟨_, rfl, h.1, h.2⟩
  · rcases h with ⟨ys, a, b⟩ | ⟨kvs, a, b⟩
    · exact call_len_seq pins s σ H _ us Q I r ⟨_, ys, rfl, a, b⟩
    · exact call_lenD pins s σ H _ us Q I r ⟨_, kvs, rfl, a, b⟩
  · exact h.elim
theorem call_maxI (hc : X.calm = true) : CallR X (.builtin "max") rMaxI := by
  intro pins s σ H xs us Q I r h
  unfold rMaxI at h
  split at h
  · exact call_max2 hc pins s σ H _ us Q I r ⟨_, _, rfl, h⟩
  · exact h.elim
theorem call_minI (hc : X.calm = true) : CallR X (.builtin "min") rMinI := by
  intro pins s σ H xs us Q I r h
  unfold rMinI at h
  split at h
  · exact call_min2 hc pins s σ H _ us Q I r ⟨_, _, rfl, h⟩
  · exact h.elim
theorem call_strI : CallR X (.type "str") rStrI := by
  intro pins s σ H xs us Q I r h
  unfold rStrI at h
  split at h
  · exact call_str_int pins s σ H _ us Q I r ⟨_, rfl, h.1, h.2⟩
  · exact h.elim
theorem call_intU : CallR X (.type "int") rIntU := by
  intro pins s σ H xs us Q I r h
  unfold rIntU at h
  split at h
  · exact call_int1 pins s σ H _ us Q I r (.inl ⟨_, rfl, h⟩)
  · exact call_int1 pins s σ H _ us Q I r (.inr ⟨_, rfl, h⟩)
  · obtain ⟨n, a, b, c⟩ := h
    exact call_int_str pins s σ H _ us Q I r ⟨_, n, rfl, a, b, c⟩
  · exact h.elim
theorem call_tupleU : CallR X (.type "tuple") (rTupleU X.K) := by
  intro pins s σ H xs us Q I r h
  obtain ⟨p, ys, e, h1⟩ := h
  refine call_tuple_of pins s σ H _ us Q I r ⟨p, ys, e, ?_⟩
  rcases h1 with ⟨h1, h2⟩ | h1
  · exact .inl ⟨h1, fun l hl => h2.up hl⟩
  · exact .inr h1
theorem call_listU : CallR X (.type "list") (rListU X.K) := by
  intro pins s σ H xs us Q I r h
  obtain ⟨p, ys, e, h1, h2⟩ := h
  exact call_list_of pins s σ H _ us Q I r ⟨p, ys, e, h1, fun l hl => h2.up hl⟩
theorem call_allU (hc : X.calm = true) : CallR X (.builtin "all") (rAll X.K) := cr_all hc
end
end CN

set_option Elab.async false
set_option linter.all false
set_option maxRecDepth 100000
set_option maxHeartbeats 4000000
namespace CN
open PySem PySem.Spec PyProof.Rows L2

/-! ### own exceptions over ValueError: Base.__init__(self, text), self.value = value, made as a value, asked by isinstance -/
/-- what the written part says of the class at C -/
structure ExT (K : PySem.W.Frag) (C : Addr) (fl : Str) : Prop where
  ox : OexC K C
  ec : ExcC K C
  fv : PySem.W.findIn K (.ref C) fl = some none
/-- and of a base, whose own __init__ is that of ValueError -/
structure ExB0 (K : PySem.W.Frag) (B : Addr) : Prop where
  sg : PySem.W.specialIn K (.ref B) "__getattribute__" = some (some (.builtin "type.__getattribute__"))
  rd : PySem.W.readsIn K B (.type "type") = true
  fc : PySem.W.findCls K (.ref B) (.type "type") "__init__" = some (.val (.builtin "ValueError.__init__"))
section
variable {X : Cx} {e : Expr} {es : List Expr} {ta : TA} {p1 p2 pos : Pos}
theorem pe_binit {b : Str} {B : Addr} {pl : Sem Bool} (Z : ExB0 X.K B) (hg : Gl X b) (hm : X.mg b = some (.ref B)) (ha : PA X (e :: es) ta) (hdb : (b == ("__debug__" : Str)) = false := by decide)
    (hc : eval (.Call (.Attribute (.Name b p1) "__init__" p2) (e :: es) [] pos) X.env = (do
      let ov ← eval (.Name b p1) X.env
      standAt p2.atName
      let (f, first) ← holding [ov] (getMethod ov "__init__" pl)
      callWith pos f first (backTo pos (starEach (e :: es) X.env)) (backToKw pos (keywordEach [] X.env))) := by rfl)
    (he : starEach (e :: es) X.env = (false, eval e X.env) :: starEach es X.env := by rfl) (hpl : (backTo pos (starEach es X.env)).any (·.1) = false := by rfl) :
    PE X (.Call (.Attribute (.Name b p1) "__init__" p2) (e :: es) [] pos) (tVeI X.K ta) := by
  constructor
  intro pins s σ H Q I h
  refine PySem.W.methodCall_KW (ld_glob I hg hm ?_ hdb) hc
  refine PySem.W.method_cls I.kIn Z.sg (PySem.W.cls_value I.kIn Z.rd Z.fc (by decide +kernel) ?_)
  show wpAny _ _ (callWith pos (Value.builtin "ValueError.__init__") [] (backTo pos (starEach (e :: es) X.env)) []) _ _ _
  refine PyProof.Rows.callWith_method1 (thn (ha.run pos pins _ σ H _ (I.tok _) h) fun us s1 q1 => ?_) he hpl
  obtain ⟨vs, H1, I1, r1, a, C, ws, ev, hl, T, ea, q⟩ := q1
  subst ev
  cases r1 with
  | @cons _ u0 _ ur ra rw' =>
    have e0 : u0 = Value.ref a := ra
    subst e0
    have hn : ur.length ≤ sizeLine := by
      have hq := Paired.length rw'
      have hs := sizeLine_eq
      omega
    exact oinit_ok T I1 ea hn (fun s' J => ⟨.non, H1, J, rfl, q⟩)
/-- C(v) as a value: a new exception at x, its dict at dx -/
def tMkX (C : Addr) (fl : Str) (ta : TA) : TE := fun σ H Q => ta σ H fun vs H1 => ∃ v, vs = [v] ∧ ∀ x dx, H1 x = none → H1 dx = none → dx ≠ x →
  Q (.ref x) (upd (upd H1 dx (exd dx [(fl, v)])) x (exo x C (some dx)))
/-- the promise of such an __init__ -/
def spXI (C : Addr) (fl : Str) : Sp := fun vs H Q _ => ∃ x v, vs = [.ref x, v] ∧ H x = some (exo x C none) ∧
  ∀ dx, H dx = none → dx ≠ x → Q .non (upd (upd H dx (exd dx [(fl, v)])) x (exo x C (some dx)))
theorem upd2 {H : Hp} {x d : Addr} {o o' u : HO} (h : d ≠ x) : upd (upd (upd H x o) d u) x o' = upd (upd H d u) x o' := by
  funext b
  by_cases h1 : b = x
  · rw [h1, upd_same, upd_same]
  · rw [upd_ne h1, upd_ne h1]
    by_cases h2 : b = d
    · rw [h2, upd_same, upd_same]
    · rw [upd_ne h2, upd_ne h2, upd_ne h1]
theorem pe_mkX {CX : CXT} {x fl : Str} {C fI : Addr} {k : Nat} {fd : FuncData} {ps : List Str} (T : OexC X.K C) (iC : PySem.W.findIn X.K (.ref C) "__init__" = some (some (.ref fI))) (tI : PySem.W.typeIn X.K (.ref fI) = some (.type "function"))
    (F1 : FnOk X.prog X.w X.K X.mg X.base CX k fI fd ps (spXI C fl)) (hr : Room (k + 1) X.A) (hb : Binds X.K fd ps []) (hx : Passes CX X (fun _ _ _ => False)) (hg : Gl X x) (hm : X.mg x = some (.ref C)) (ha : PA X [e] ta)
    (hdb : (x == ("__debug__" : Str)) = false := by decide) (he : starEach [e] X.env = (false, eval e X.env) :: starEach [] X.env := by rfl) (hpl : (backTo pos (starEach [] X.env)).any (·.1) = false := by rfl) :
    PE X (.Call (.Name x p1) [e] [] pos) (tMkX C fl ta) := by
  constructor
  intro pins s σ H Q I h
  obtain ⟨nm, q, N, bs, bm, sn, sub, ab, col, dd, k0, k1, k2, k3, k5, hC, hbm⟩ := T.cls
  refine wpAny_Call_Name_kw (ld_glob I hg hm ?_ hdb)
  refine PySem.W.callWith_K (h₀ := X.base) I.ok.mod.kin T.kC (thn (ha.run pos pins s σ H _ I h) fun us s1 h1 => ?_) he hpl
  obtain ⟨vs, H1, I1, r1, v, ev, q1⟩ := h1
  subst ev
  refine ⟨I1.kIn, ?_⟩
  cases r1 with
  | cons rv rn =>
    rename_i u us'
    cases rn
    show wpAny _ _ (call (.ref C) [u]) _ _ _
    obtain ⟨hp, g, dr, tk, os⟩ := s1
    have hsz : hp.objs.size ≤ hp.objs.size + 1 := Nat.le_succ _
    have hn : H1 (hp.objs.size + 1) = none := I1.hok.fresh hsz
    have kk : ∀ b o, hp.get? b = some o → ((hp.push (PySem.W.kdv_tup [u])).push (PySem.HandSPX.excO C hp.objs.size)).get? b = some o := fun b o e0 => Heap.get?_push_of_some _ (Heap.get?_push_of_some _ e0)
    have hget : ((hp.push (PySem.W.kdv_tup [u])).push (PySem.HandSPX.excO C hp.objs.size)).get? (hp.objs.size + 1) = some (PySem.HandSPX.excO C hp.objs.size) := by heap_get
    have I2 : Inv X pins σ (upd H1 (hp.objs.size + 1) (exo (hp.objs.size + 1) C none)) ⟨(hp.push (PySem.W.kdv_tup [u])).push (PySem.HandSPX.excO C hp.objs.size), g, dr, tk, os⟩ :=
      I1.laid (t' := tk) kk hsz (exo_ok hget)
    have r2 : Vals [V.ref (hp.objs.size + 1), v] [Value.ref (hp.objs.size + 1), u] := .cons rfl (.cons rv .nil)
    have hq : spXI C fl [V.ref (hp.objs.size + 1), v] (upd H1 (hp.objs.size + 1) (exo (hp.objs.size + 1) C none)) (fun w0 H2 => w0 = .non ∧ Q (.ref (hp.objs.size + 1)) H2) (fun _ _ _ => False) := by
      refine ⟨_, v, rfl, upd_same, fun dx hd hne => ⟨rfl, ?_⟩⟩
      rw [upd2 hne]
      rw [upd_ne hne] at hd
      exact q1 _ dx hn hd hne
    have hl : [Value.ref (hp.objs.size + 1), u].length = ps.length := F1.len _ _ _ _ hq
    refine wpAny_call (PySem.HandSPX.call_own F.excBase_ValueError (fun Y => PySem.HandSPX.refsVE_contains Y bm hbm) (I1.kIn _ _ hC) (PySem.W.looks_findIn I1.kIn iC) (fun self => PySem.W.bind_fn I1.kIn self tI) (by rw [sizeLine_eq]; show 1 ≤ 16777216; decide)
      (codeAny_mono (F1.run _ X.stack _ _ ⟨[Value.ref (hp.objs.size + 1), u], []⟩ [Value.ref (hp.objs.size + 1), u] _ _ (fun _ _ _ => False) (hr.make C [u] []) (I2.env0.make C [u] []) (hb _ [Value.ref (hp.objs.size + 1), u] I2.kIn (by rw [List.append_nil]; exact hl)) r2 hq) fun r s' hq' => ?_))
    cases r with
    | error er => exact hx pins σ _ _ er s' I2 hq'
    | ok fl =>
      cases fl with
      | ret u0 =>
        obtain ⟨v0, H2, J, rz, ez, q2⟩ := I2.after hq'
        subst ez
        exact ⟨rz, .ref (hp.objs.size + 1), H2, J, rfl, q2⟩
      | next => exact False.elim hq'
      | brk => exact False.elim hq'
      | cont => exact False.elim hq'
end
/-- the reading of such an __init__ -/
def tXI (K : PySem.W.Frag) (fl : Str) (tx : Str) : TS := tSeq (tDrop (tVeI K (tCons (tVar 0) (tCons (tC (.str tx)) tNil)))) (tOst K fl (tVar 0) (tVar 1))
theorem rd_xi {K : PySem.W.Frag} {C : Addr} {fl tx : Str} (T : ExT K C fl) {N : List Str} (hN : N.length = 2) {vs : List V} {H : Hp} {Q : VK} {E : XK} (h : spXI C fl vs H Q E) :
    tXI K fl tx { nx := fun _ H' => Q .non H', rt := Q } (L2.start N vs) H := by
  obtain ⟨x, v, rfl, hx, q⟩ := h
  have es : L2.start N [.ref x, v] = [some (.ref x), some v] := by
    unfold L2.start
    rw [hN]
    rfl
  rw [es]
  exact ⟨_, rfl, x, C, _, rfl, (by show 1 ≤ 1000; decide), T.ox, hx, _, rfl, _, rfl, x, C, rfl, T.ox, T.fv, .inl ⟨hx, fun dx h1 h2 => q dx h1 h2⟩⟩
/-- an own class against a built-in type, against an own class -/
theorem kit_own {K : PySem.W.Frag} {C : Addr} {n : String} {b : Bool} (hm : PySem.W.kitMeta n = true) (h : PySem.W.subIn K (.ref C) (.type n) = some b) : PySem.W.kitOne K (.ref C) (.type n) = some b := by
  have e : (Value.ref C == Value.type n) = false := rfl
  unfold PySem.W.kitOne
  rw [e, if_neg Bool.false_ne_true]
  unfold PySem.W.kitCls
  simp only [hm, if_true]
  exact h
/-- isinstance of an exception that stands as a value -/
def rIsiX (K : PySem.W.Frag) : List V → Hp → VK → Prop := fun xs H Q => ∃ (x C : Addr) (d : Option Addr) (c : V) (u : Value) (b : Bool), xs = [.ref x, c] ∧ ClsV c u ∧ H x = some (exo x C d) ∧ (∀ dx, d = some dx → ∃ fs, H dx = some (exd dx fs)) ∧ ExcC K C ∧
  PySem.W.kitOne K (.ref C) u = some b ∧ Q (.bl b) H
def rIsiU (K : PySem.W.Frag) : List V → Hp → VK → Prop := fun xs H Q => rIsi K xs H Q ∨ rIsiX K xs H Q
section
variable {X : Cx}
theorem call_isiX : CallR X (.builtin "isinstance") (rIsiX X.K) := by
  intro pins s σ H xs us Q I r h
  obtain ⟨x, C, d, c, u, b, rfl, hc, hx, hd, T, e, q⟩ := h
  obtain ⟨u1, u2, rfl, r1, r2⟩ := vals2 r
  have e2 := hc.eq r2
  subst e2
  have e1 : u1 = Value.ref x := r1
  subst e1
  obtain ⟨t1, ho⟩ := exo_at I.hok hx
  have hcl : (PySem.W.clsIn X.K C).isSome = true := by
    obtain ⟨cd, h1, _⟩ := PySem.W.any_some T.hd
    rw [h1]
    rfl
  have J : ∃ od, PySem.W.InstAt s.heap x { cls := .ref C, dict := d, data := .fields #[.ref t1, .none, .none, .none, .bool false, .none] } C od := by
    cases d with
    | none => exact ⟨none, ho, rfl, rfl, trivial⟩
    | some dx =>
      obtain ⟨fs, h3⟩ := hd dx rfl
      obtain ⟨mA, ⟨o, es, ep, h4, _⟩, _⟩ := exd_at I.hok h3
      exact ⟨some o, ho, rfl, rfl, h4⟩
  obtain ⟨od, J⟩ := J
  exact PySem.W.kia_one (PySem.W.kitx_exc (od := od) hcl T.hg T.hk T.hs T.ha T.hn T.ht T.hm) I.kIn J e (fun z => nomatch z) fun tk => ⟨.bl b, H, I.tok tk, rfl, q⟩
theorem call_isiU : CallR X (.builtin "isinstance") (rIsiU X.K) := call_isi.or call_isiX
end
end CN

set_option Elab.async false
set_option linter.all false
set_option maxRecDepth 100000
set_option maxHeartbeats 4000000
namespace CN
open PySem PySem.Spec PyProof.Rows L2 Evl

/-! ### the box of draws -/
/-- all but the box at b is as it was -/
def ExBx (b : Addr) (H H' : Hp) : Prop := ∀ x o, x ≠ b → H x = some o → H' x = some o
theorem ExBx.refl (b : Addr) (H : Hp) : ExBx b H H := fun _ _ _ h => h
theorem ExBx.trans {b : Addr} {H H1 H2 : Hp} (e : ExBx b H H1) (f : ExBx b H1 H2) : ExBx b H H2 := fun x o n h => f x o n (e x o n h)
theorem ExBx.ex {b : Addr} {H H1 H2 : Hp} (e : ExBx b H H1) (f : Ex H1 H2) : ExBx b H H2 := fun x o n h => f x o (e x o n h)
theorem ExBx.of {b : Addr} {H H1 : Hp} (f : Ex H H1) : ExBx b H H1 := fun x o _ h => f x o h
theorem ExBx.upd {b : Addr} {H : Hp} {o : HO} : ExBx b H (L2.upd H b o) := fun x u n h => by rw [upd_ne n]; exact h
/-- the box: three ints, the last one at most m -/
def BoxAt (H : Hp) (b : Addr) (m : Int) : Prop := ∃ n r c : Int, H b = some (.lst [.int n, .int r, .int c]) ∧ 0 ≤ n ∧ 0 ≤ r ∧ r < 2147483629 ∧ 0 ≤ c ∧ c ≤ m
theorem BoxAt.ex {H H' : Hp} {b : Addr} {m : Int} (h : BoxAt H b m) (e : Ex H H') : BoxAt H' b m := by
  obtain ⟨n, r, c, h0, h1⟩ := h
  exact ⟨n, r, c, e _ _ h0, h1⟩
theorem BoxAt.mono {H : Hp} {b : Addr} {m m' : Int} (h : BoxAt H b m) (e : m ≤ m') : BoxAt H b m' := by
  obtain ⟨n, r, c, h0, h1, h2, h3, h4, h5⟩ := h
  exact ⟨n, r, c, h0, h1, h2, h3, h4, by omega⟩
theorem BoxAt.ne {H : Hp} {b p : Addr} {m : Int} (B : BoxAt H b m) (h : H p = none) : p ≠ b := by
  obtain ⟨n, r, c, h0, _⟩ := B
  exact (ne_of_none h0 h).symm
/-- a draw below many -/
def spTake : Sp := fun vs H Q _ => ∃ (b : Addr) (many m : Int), vs = [.ref b, .int many] ∧ BoxAt H b m ∧ m ≤ 1099511627776 ∧ 0 < many ∧ many < 1073741824 ∧
  ∀ (d : Int) (H' : Hp), 0 ≤ d → d < many → ExBx b H H' → BoxAt H' b (m + 1) → Q (.int d) H'
/-- the cell: some int -/
def spCell (K : PySem.W.Frag) : Sp := fun vs H Q _ => ∃ (a : Addr) (ns : List Int) (k : Nat), vs = [.ref a, .int k] ∧ SqL K H a (ns.map V.int) ∧ k ≤ 63 ∧ ∀ c : Int, Q (.int c) H
/-- a new box -/
def spBox : Sp := fun vs H Q _ => ∃ c : Int, vs = [.int c] ∧ ∀ (b : Addr) (H' : Hp), H b = none → Ex H H' → BoxAt H' b 0 → Q (.ref b) H'

/-! ### readings step by step -/
section
variable {K : PySem.W.Frag} {H : Hp} {Q : VK} {σ : L2.St}
theorem ix_l {b : Addr} {xs : List V} {i : Int} {v : V} (h : H b = some (.lst xs)) (e : atI xs i = some v) (q : Q v H) : rIx K (.ref b) (.int i) H Q := .inl ⟨b, xs, i, v, rfl, rfl, SqL.of h, e, q⟩
theorem ix_L {b : Addr} {xs : List V} {i : Int} {v : V} (h : SqL K H b xs) (e : atI xs i = some v) (q : Q v H) : rIx K (.ref b) (.int i) H Q := .inl ⟨b, xs, i, v, rfl, rfl, h, e, q⟩
theorem ix_T {b : Addr} {xs : List V} {i : Int} {v : V} (h : SqT K H b xs) (e : atI xs i = some v) (q : Q v H) : rIx K (.ref b) (.int i) H Q := .inr (.inl ⟨b, xs, i, v, rfl, rfl, h, e, q⟩)
theorem ix_S {z : Str} {i : Int} {c : Nat} (h : z.length ≤ sizeLine) (e : atI z.cps.toList i = some c) (q : Q (.str ⟨#[c]⟩) H) : rIx K (.str z) (.int i) H Q := .inr (.inr ⟨z, i, c, rfl, rfl, h, e, q⟩)
/-- a drawn place of a list that is not empty -/
theorem atI_some {α : Type} {xs : List α} {i : Int} (h0 : 0 ≤ i) (h1 : i < xs.length) : ∃ v, atI xs i = some v ∧ v ∈ xs := by
  have hn : i.toNat < xs.length := by omega
  refine ⟨xs[i.toNat], ?_, List.getElem_mem hn⟩
  unfold atI ixN
  rw [if_pos h0, if_pos h1]
  show xs[i.toNat]? = _
  rw [List.getElem?_eq_getElem hn]
theorem line_ge {n : Nat} (h : n ≤ 10000000) : n ≤ sizeLine := by
  rw [sizeLine_eq]
  omega
end
/-! ### a comprehension over the signs of a text: what it tests and tells is told of each sign -/
theorem lcSD {σ : L2.St} {H : Hp} {Qd : Hp → Prop} {j : Nat} {vs : List Nat} {tt : TT} {te : TE} {z : Str} {D : Addr} (f : Nat → Bool) (g : Nat → V) (hl : z.length ≤ 1000000) (hD : H D = none)
    (hw : ∀ x, wipe ((wipe σ vs).set j (some x)) vs = wipe σ vs)
    (ht : ∀ (c : Nat) (H1 : Hp) (R : Bool → Hp → Prop), Ex H H1 → (∀ H2, Ex H1 H2 → R (f c) H2) → tt ((wipe σ vs).set j (some (.str ⟨#[c]⟩))) H1 R)
    (he : ∀ (c : Nat) (H1 : Hp) (R : VK), Ex H H1 → f c = true → (∀ H2, Ex H1 H2 → R (g c) H2) → te ((wipe σ vs).set j (some (.str ⟨#[c]⟩))) H1 R)
    (q : ∀ H', Ex H H' → H' D = some (.lst ((z.cps.toList.filter f).map g)) → Qd H') :
    ∃ W : Nat → Nat → Hp → Prop, (∃ m, W 0 m (upd H D (.lst []))) ∧ ∀ i m H, W i m H →
      ((Its z).stop i H ∧ Qd H) ∨ ((Its z).go i H ∧ ∃ Nx : Hp → Prop, (∀ H', Nx H' → ∃ m', m' < m ∧ W (i + 1) m' H') ∧
        ∀ x H', (Its z).yld i H x H' → gName j x (wipe σ vs) H' fun σ2 H2 => wipe σ2 vs = wipe σ vs ∧ tt σ2 H2 fun b H3 =>
          if b = true then te σ2 H3 fun y H4 => ∃ acc, H4 D = some (.lst acc) ∧ acc.length < sizeLine ∧ Nx (upd H4 D (.lst (acc ++ [y]))) else Nx H3) := by
  refine lc_it walk_str (fun k H' => Ex H H' ∧ H' D = some (.lst (((z.cps.toList.take k).filter f).map g))) ⟨Ex.new hD, upd_same⟩ (fun _ _ _ _ => trivial) ?_ ?_
  · rintro k x H1 H2 hk ⟨e1, h1⟩ ⟨rfl, c, hc, rfl⟩
    refine ⟨hw _, ht c H2 _ e1 fun H3 e3 => ?_⟩
    have hc' : z.cps.toList[k]? = some c := by
      rw [Array.getElem?_toList]
      exact hc
    have et : z.cps.toList.take (k + 1) = z.cps.toList.take k ++ [c] := by
      rw [List.take_add_one, hc']
      rfl
    cases hf : f c with
    | true =>
      refine he c H3 _ (e1.trans e3) hf fun H4 e4 => ⟨_, e4 _ _ (e3 _ _ h1), ?_, ?_, ?_⟩
      · rw [List.length_map]
        have h5 := List.length_filter_le f (z.cps.toList.take k)
        rw [List.length_take] at h5
        have h6 : k < z.length := hk
        rw [sizeLine_eq]
        omega
      · exact Ex.mut ((e1.trans e3).trans e4) hD
      · rw [upd_same, et, List.filter_append, List.map_append]
        simp [hf]
    | false =>
      show Ex H H3 ∧ _
      refine ⟨e1.trans e3, ?_⟩
      rw [et, List.filter_append]
      have e9 : List.filter f [c] = [] := by simp [hf]
      rw [e9, List.append_nil]
      exact e3 _ _ h1
  · rintro H1 ⟨e1, h1⟩
    refine q H1 e1 ?_
    have e2 : z.cps.toList.take z.cps.size = z.cps.toList := by
      rw [← Array.length_toList]
      exact List.take_length
    rw [e2] at h1
    exact h1
end CN

set_option Elab.async false
set_option linter.all false
set_option maxRecDepth 100000
set_option maxHeartbeats 4000000
namespace CN
open PySem PySem.Spec PyProof.Rows L2 Evl

/-! ### texts as lists of signs -/
theorem str_ext {x y : Str} (h : x.cps.toList = y.cps.toList) : x = y := by
  obtain ⟨⟨a⟩⟩ := x
  obtain ⟨⟨b⟩⟩ := y
  have e : a = b := h
  rw [e]
theorem cps_app (x y : Str) : (x ++ y).cps.toList = x.cps.toList ++ y.cps.toList := by
  show (x.cps ++ y.cps).toList = _
  simp
theorem len_cps (x : Str) : x.cps.toList.length = x.length := by simp [Str.length]
theorem cps_one (c : Nat) : (⟨#[c]⟩ : Str).cps.toList = [c] := rfl
theorem cps_cut (z : Str) (lo hi : Option Int) : (cutS z lo hi).cps.toList = (z.cps.toList.drop (HT.sIx z.length 0 lo)).take (HT.sIx z.length z.length hi - HT.sIx z.length 0 lo) := rfl
theorem cutS_le (z : Str) (lo hi : Option Int) : (cutS z lo hi).length ≤ z.length := by
  rw [← len_cps, cps_cut, List.length_take, List.length_drop, len_cps]
  omega
theorem app_len (x y : Str) : (x ++ y).length = x.length + y.length := by
  rw [← len_cps, cps_app, List.length_append, len_cps, len_cps]
/-- z[:k], z[k:] -/
theorem cps_upto (z : Str) {k : Int} (h : 0 ≤ k) : (cutS z none (some k)).cps.toList = z.cps.toList.take k.toNat := by
  rw [cps_cut]
  have e1 : HT.sIx z.length 0 none = 0 := rfl
  obtain ⟨n, rfl⟩ := Int.eq_ofNat_of_zero_le h
  rw [e1, HT.sIx_nat, List.drop_zero, Nat.sub_zero]
  show _ = List.take n _
  rw [← len_cps]
  by_cases hn : n ≤ z.cps.toList.length
  · rw [Nat.min_eq_left hn]
  · rw [Nat.min_eq_right (by omega), List.take_length, List.take_of_length_le (by omega)]
theorem cps_from (z : Str) {k : Int} (h : 0 ≤ k) : (cutS z (some k) none).cps.toList = z.cps.toList.drop k.toNat := by
  rw [cps_cut]
  obtain ⟨n, rfl⟩ := Int.eq_ofNat_of_zero_le h
  have e2 : HT.sIx z.length z.length none = z.length := rfl
  rw [e2, HT.sIx_nat]
  show _ = List.drop n _
  rw [← len_cps]
  by_cases hn : n ≤ z.cps.toList.length
  · rw [Nat.min_eq_left hn, List.take_of_length_le (by rw [List.length_drop]; exact Nat.le_refl _)]
  · rw [Nat.min_eq_right (by omega), Nat.sub_self, List.take_zero, List.drop_of_length_le (by omega)]
/-- the texts of the model's own range -/
def OkS (z : Str) : Prop := ∀ c ∈ z.cps.toList, c < 1114112
theorem okS_of {z : Str} (h : OkS z) : PyData.strOk z = true := by
  unfold PyData.strOk
  rw [Array.all_eq_true]
  intro i hi
  exact decide_eq_true (h _ (by rw [Array.mem_toList_iff]; exact Array.getElem_mem hi))
theorem okS_app {x y : Str} (hx : OkS x) (hy : OkS y) : OkS (x ++ y) := fun c hc => by
  rw [cps_app] at hc
  rcases List.mem_append.mp hc with h | h
  · exact hx c h
  · exact hy c h
theorem okS_cut {z : Str} {lo hi : Option Int} (h : OkS z) : OkS (cutS z lo hi) := fun c hc => by
  rw [cps_cut] at hc
  exact h c (List.mem_of_mem_drop (List.mem_of_mem_take hc))
theorem okS_one {c : Nat} (h : c < 1114112) : OkS ⟨#[c]⟩ := fun d hd => by
  rw [cps_one] at hd
  rw [List.mem_singleton.mp hd]
  exact h
theorem okS_dec {z : Str} (h : (z.cps.toList.all fun c => decide (c < 1114112)) = true) : OkS z := fun c hc => of_decide_eq_true (List.all_eq_true.mp h c hc)
/-- the empty text between texts of one sign -/
theorem cps_join1 : ∀ ys : List Str, (Txt.join (Str.ofString "") ys).cps.toList = (ys.map fun y => y.cps.toList).flatten := by
  intro ys
  rw [TL.join_eq]
  have e0 : (Str.ofString "") = ⟨#[]⟩ := by decide +kernel
  rw [e0]
  induction ys with
  | nil => rfl
  | cons y r ih =>
    cases r with
    | nil => simp [Str.join]
    | cons w r =>
      have e1 : Str.join ⟨#[]⟩ (y :: w :: r) = y ++ ⟨#[]⟩ ++ Str.join ⟨#[]⟩ (w :: r) := rfl
      rw [e1, cps_app, cps_app, ih]
      simp
theorem okS_join {ys : List Str} (h : ∀ y ∈ ys, OkS y) : OkS (Txt.join (Str.ofString "") ys) := fun c hc => by
  rw [cps_join1] at hc
  obtain ⟨l, hl, hc⟩ := List.mem_flatten.mp hc
  obtain ⟨y, hy, rfl⟩ := List.mem_map.mp hl
  exact h y hy c hc
/-- data of one kind -/
theorem dpAll_str {K : PySem.W.Frag} {H : Hp} : ∀ ys : List Str, DpAll K H (ys.map V.str) (ys.map PyData.str)
  | [] => .nil
  | y :: r => .cons (.str y) (dpAll_str r)
theorem canLay_strs : ∀ ys : List Str, (∀ y ∈ ys, OkS y) → PyData.canLayAll0 (ys.map PyData.str) = true
  | [], _ => rfl
  | y :: r, h => by
    show (PyData.canLay0 (.str y) && PyData.canLayAll0 (r.map PyData.str)) = true
    rw [Bool.and_eq_true]
    exact ⟨okS_of (h y (List.mem_cons_self ..)), canLay_strs r fun z hz => h z (List.mem_cons_of_mem _ hz)⟩
theorem depth_strs : ∀ ys : List Str, (PyData.depthAll (ys.map PyData.str)) ≤ 1
  | [] => by decide
  | y :: r => by
    have := depth_strs r
    show max (PyData.depth (.str y)) (PyData.depthAll (r.map PyData.str)) ≤ 1
    have e : PyData.depth (.str y) ≤ 1 := by
      show (0 : Nat) ≤ 1
      decide
    omega
end CN

set_option Elab.async false
set_option linter.all false
set_option maxRecDepth 100000
set_option maxHeartbeats 4000000
namespace CN
open PySem PySem.Spec PyProof.Rows L2 Evl

/-! ### defs that ask repr of lists: what is being shown around them is told (nothing) -/
structure FnG (P : Program) (w : World) (K : PySem.W.Frag) (mg : Str → Option Value) (base : Heap) (CX : CXT) (k : Nat) (f : Addr) (fd : FuncData) (ps : List Str) (sp : Sp) : Prop where
  len : ∀ vs H Q E, sp vs H Q E → vs.length = ps.length
  run : ∀ (A : Around) (outer : List Env) (s : Shared) (H : Hp) (args : Args) (us : List Value) (vs : List V) (Q : VK) (E : XK), Room k A → A.guards = some [] → Env0 P w K mg base A outer s H → BindsTo s fd args (ps.zip us) → Vals vs us → sp vs H Q E →
    codeAny (model P w) A (.call (.ref f) args) (CR CX outer P w H s Q E) s
section
variable {P : Program} {w : World} {K : PySem.W.Frag} {mg : Str → Option Value} {base : Heap} {CX : CXT} {k : Nat} {f : Addr} {fd : FuncData} {ps : List Str} {sp : Sp}
theorem FnG.of (F : FnOk P w K mg base CX k f fd ps sp) : FnG P w K mg base CX k f fd ps sp :=
  ⟨F.len, fun A outer s H args us vs Q E hr _ he hb hv hs => F.run A outer s H args us vs Q E hr he hb hv hs⟩
theorem FnG.mono {j : Nat} (F : FnG P w K mg base CX j f fd ps sp) (h : j ≤ k) : FnG P w K mg base CX k f fd ps sp :=
  ⟨F.len, fun A outer s H args us vs Q E hr hg => F.run A outer s H args us vs Q E (hr.mono h) hg⟩
/-- the rule for a def's body -/
theorem fn_ofG {name qual : Str} {params : Arguments} {body : List Stmt} {scope : Scope} {dV kV doc pm cdv ct oc : Value} {an od : Option Addr} {osl : Array (Option Value)} {N : List Str}
    (lk : K.lookup f = some ⟨oc, od, .func (PySem.W.fnOf name qual params body scope dV kV doc pm an cdv ct), osl⟩) (hcd : PySem.W.codeIn K cdv qual = true) (S : FnScope N ps scope) (hlen : ∀ vs H Q E, sp vs H Q E → vs.length = ps.length)
    (hbody : ∀ (A : Around) (outer : List Env) (s : Shared) (H : Hp) (vs : List V) (Q : VK) (E : XK), Room k (A.deeper (envOfC qual scope s.heap.objs.size f cdv)) → A.guards = some [] → sp vs H Q E →
      ∃ t, PSs (cxOf CX P w K mg base N qual scope f cdv A outer s H E) body t ∧ t { nx := fun _ H' => Q .non H', rt := Q } (L2.start N vs) H) :
    FnG P w K mg base CX (k + 1) f (PySem.W.fnOf name qual params body scope dV kV doc pm an cdv ct) ps sp := by
  constructor
  · exact hlen
  intro A outer s H args us vs Q E hr hgd e0 hb r hsp
  have hn := hlen _ _ _ _ hsp
  have keep0 : ∀ b o, base.get? b = some o → s.heap.get? b = some o := fun b o e => (e0.bs b o e).1
  have KX : K.In s.heap := e0.mod.kin.keeps keep0
  have hlim : s.heap.NoLimit := e0.mod.nolimit.keeps keep0
  have hkinds : ∀ y ∈ ps.zip us, scope.names.lookup y.1 = some .local ∨ (scope.names.lookup y.1 = some .cell ∧ ((cellsFrom (s.heap.objs.size + 1) scope.names []).lookup y.1).isSome = true) := by
    rintro ⟨n, v⟩ hy
    rcases S.par n (List.of_mem_zip hy).1 with q | q
    · exact Or.inl q
    · exact Or.inr ⟨q, PySem.W.cellsFrom_some _ _ _ (Or.inl q)⟩
  refine codeAny_call_function hr.depth (KX _ _ lk) rfl S.co S.gen rfl (PySem.W.codeRec_of KX hcd) (hb _ _ _ _ ?_)
  refine wpAny_newFunctionEnv_cells S.kind hkinds fun env henv s1 x => ?_
  subst henv
  refine ⟨hlim.keeps x.toInCall.keep, codeAny_func ?_⟩
  obtain ⟨t, ht, hq⟩ := hbody A outer s H vs Q E (hr.deeper _) hgd hsp
  have J0 : Inv (cxOf CX P w K mg base N qual scope f cdv A outer s H E) [] (L2.start N vs) H s1 := inv_start S hr.hd e0 hn r x
  refine wpAny_mono (ht.run [] s1 _ H _ J0 hq) (fun fl s' hs => ?_) (fun e s' hs => hs)
  cases fl with
  | ret u =>
    obtain ⟨v, σ', H', J, rv, q⟩ := hs
    exact ⟨v, H', J.os, J.bare, J.base, J.hok, rv, q⟩
  | next =>
    obtain ⟨σ', H', J, q⟩ := hs
    exact ⟨V.non, H', J.os, J.bare, J.base, J.hok, rfl, q⟩
  | brk =>
    obtain ⟨_, _, _, q⟩ := hs
    exact q.elim
  | cont =>
    obtain ⟨_, _, _, q⟩ := hs
    exact q.elim
theorem Fun.okG {x qual : Str} {st : Stmt} {N : List Str} (F : Fun K x qual st f fd) (S : FnScope N ps (defScope st)) (hlen : ∀ vs H Q E, sp vs H Q E → vs.length = ps.length)
    (hbody : ∀ (cdv : Value) (A : Around) (outer : List Env) (s : Shared) (H : Hp) (vs : List V) (Q : VK) (E : XK), Room k (A.deeper (envOfC qual (defScope st) s.heap.objs.size f cdv)) → A.guards = some [] → sp vs H Q E →
      ∃ t, PSs (cxOf CX0 P w K mg base N qual (defScope st) f cdv A outer s H E).nox (defBody st) t ∧ t { nx := fun _ H' => Q .non H', rt := Q } (L2.start N vs) H) : FnG P w K mg base CX0 (k + 1) f fd ps sp := by
  obtain ⟨oc, od, kV, doc, pm, an, cdv, ct, osl, rfl, lk, hcd⟩ := F.ex
  refine fn_ofG lk hcd S hlen fun A outer s H vs Q E hr hg hsp => ?_
  obtain ⟨t, h, q⟩ := hbody cdv A outer s H vs Q E hr hg hsp
  exact ⟨t, h.nox, q⟩
end
section
variable {X : Cx} {CX : CXT} {k : Nat} {f : Addr} {fd : FuncData} {ps : List Str} {sp : Sp} {dvs : List V} {ds : List Value} {E : XK} {x : Str} {p pos : Pos} {e : Expr} {es : List Expr} {t : TA}
/-- a call of such a def -/
theorem pe_callG (F : FnG X.prog X.w X.K X.mg X.base CX k f fd ps sp) (hr : Room k X.A) (hgd : X.A.guards = some []) (hg : Gl X x) (hm : X.mg x = some (.ref f)) (hk : PySem.W.keepIn X.K (.ref f) = true) (hb : Binds X.K fd ps ds) (hd : Vals dvs ds) (hx : Passes CX X E)
    (ha : PA X (e :: es) t) (hdb : (x == ("__debug__" : Str)) = false := by decide) (he : starEach (e :: es) X.env = (false, eval e X.env) :: starEach es X.env := by rfl) (hpl : (backTo pos (starEach es X.env)).any (·.1) = false := by rfl) :
    PE X (.Call (.Name x p) (e :: es) [] pos) (tCall sp dvs E t) := by
  constructor
  intro pins s σ H Q I h
  refine wpAny_Call_Name_kw (ld_glob I hg hm ?_ hdb)
  refine PySem.W.callWith_K (h₀ := X.base) I.ok.mod.kin hk (thn (ha.run pos pins s σ H _ I h) fun us s1 h1 => ?_) he hpl
  obtain ⟨vs, H1, J, r, q⟩ := h1
  refine ⟨J.kIn, ?_⟩
  have r2 : Vals (vs ++ dvs) (us ++ ds) := r.append hd
  have hl : (us ++ ds).length = ps.length := r2.length.symm.trans (F.len _ _ _ _ q)
  refine wpAny_call (codeAny_mono (F.run X.A X.stack s1 H1 ⟨us, []⟩ (us ++ ds) (vs ++ dvs) Q E hr hgd J.env0 (hb s1 us J.kIn hl) r2 q) fun rr s' hq => ?_)
  cases rr with
  | error er => exact hx pins σ H1 s1 er s' J hq
  | ok fl =>
    cases fl with
    | ret u => exact J.after hq
    | next => exact False.elim hq
    | brk => exact False.elim hq
    | cont => exact False.elim hq
end

/-! ### the end of a law whose def is such a one -/
theorem law_callG {P : Program} {w : World} {K : PySem.W.Frag} {mg mb : Str → Option Value} {k : Nat} {fa a : Addr} {fd : FuncData} {x : Str} {sp : Sp} {z : Shared} {vs : List Value} {ns : List Int}
    (KX : K.In z.heap) (hns : z.heap.Ns mainGlobals mg) (hb : z.heap.Ns builtinsNs mb) (hbb : ∀ x : Str, x ≠ "__name__" → mb x = bootBuiltins x) (hlim : z.heap.NoLimit) (hg : z.gens = #[])
    (ha : z.heap.get? a = some { cls := .type "list", data := .seq vs.toArray }) (hi : IntsAre vs ns) (hl : ns.length ≤ sizeLine) (hr : Room k callerA)
    (F : ∀ base : Heap, K.In base → base.Ns mainGlobals mg → FnG P w K mg base CX0 k fa fd [x] sp) (hbind : ∀ (s : Shared) (u : Value), BindsTo s fd ⟨[u], []⟩ [(x, u)])
    (hsp : ∀ H : Hp, Only H → SqL K H a (ns.map V.int) → sp [.ref a] H (fun v _ => v = .bl true) fun _ _ _ => False) :
    codeAny (model P w) callerA (.call (.ref fa) ⟨[.ref a], []⟩) (fun r s' => r = .ok (.ret (.bool true)) ∧ OldK z.heap s'.heap ∧ s'.os = z.os ∧ AllBare s'.gens) z := by
  have rv := vals_ints hi
  have lenV := hi.length
  suffices main : ∃ H : Hp, Only H ∧ SqL K H a (ns.map V.int) ∧ HOk P w H z.heap ∧ (∀ b, H b ≠ none → b = a) ∧ (H a ≠ none → K.lookup a = none) by
    obtain ⟨H, hO, hS, hok, hA, hK⟩ := main
    have isA : ∀ {b : Addr} {u : HO}, H b = some u → b = a := fun {b u} q => hA b (fun n => by rw [q] at n; cases n)
    have free : ∀ {b : Addr}, b ≠ a → H b = none := fun {b} n => by
      cases q : H b with
      | none => rfl
      | some u => exact absurd (isA q) n
    have nsK : ∀ {b : Addr} {m : Str → Option Value}, z.heap.Ns b m → (hidT z.heap H).Ns b m := by
      rintro b m ⟨o, es, ep, e, d, r⟩
      refine ⟨o, es, ep, hidT_get e (free ?_), d, r⟩
      intro q
      subst q
      rw [ha] at e
      cases e
      cases d
    have hKb : K.In (hidT z.heap H) := by
      intro b o e
      refine hidT_get (KX b o e) ?_
      cases q : H b with
      | none => rfl
      | some u =>
        have q2 := isA q
        subst q2
        rw [hK (fun n => by rw [q] at n; cases n)] at e
        cases e
    obtain ⟨mc, c1, c2⟩ := hlim
    have hM : Mod K mg (hidT z.heap H) := ⟨hKb, nsK hns, ⟨mb, nsK hb, hbb⟩, ⟨mc, nsK c1, c2⟩⟩
    have nil0 : ∀ b : Addr, b ∉ ([] : List Addr) := fun b q => by cases q
    have e0 : Env0 P w K mg (hidT z.heap H) callerA [] z H := ⟨rfl, hM, fun b o e => of_hidT e, Nat.le_of_eq (hidT_size _ _), trivial, fun b q => absurd q (nil0 b), hok, .of_eq hg⟩
    have go := (F _ hKb (nsK hns)).run callerA [] z H ⟨[.ref a], []⟩ [.ref a] [.ref a] _ _ hr rfl e0 (hbind z (.ref a)) (.cons rfl .nil) (hsp H hO hS)
    refine codeAny_mono go fun r s' h => ?_
    cases r with
    | error e => exact False.elim h
    | ok fl =>
      cases fl with
      | next => exact False.elim h
      | brk => exact False.elim h
      | cont => exact False.elim h
      | ret u =>
        obtain ⟨v, H', hos, bare, un, hok', r', q⟩ := h
        have q2 : v = .bl true := q
        subst q2
        have r2 : u = Value.bool true := r'
        subst r2
        refine ⟨rfl, OldK.of_keep fun b o e => ?_, hos, bare⟩
        cases hb2 : H b with
        | none => exact un.keep b o e hb2 (nil0 b) (nil0 b)
        | some u2 =>
          rcases hO b with y | ⟨ob, xs, y⟩
          · rw [hb2] at y
            cases y
          · have y2 := un.frzs b ob _ y
            have y3 := (hok b _ y).1
            have y4 := (hok' b _ y2).1
            rw [e] at y3
            rw [y4, ← y3]
  cases hk : K.lookup a with
  | some o =>
    have e := KX a o hk
    rw [ha] at e
    cases e
    refine ⟨fun _ => none, fun _ => .inl rfl, .inr ⟨_, vs.toArray, _, hk, rfl, rfl, rfl, ?_, by simpa using rv⟩, fun b u y => (nomatch y), fun b y => absurd rfl y, fun y => absurd rfl y⟩
    rw [List.size_toArray, lenV]
    exact hl
  | none =>
    have here : ∀ b u, (fun b => if b = a then some (HO.frz { cls := .type "list", data := .seq vs.toArray } (.lst (ns.map V.int))) else none) b = some u → b = a ∧ u = HO.frz { cls := .type "list", data := .seq vs.toArray } (.lst (ns.map V.int)) := by
      intro b u y
      by_cases hba : b = a
      · have y2 := (if_pos hba).symm.trans y
        exact ⟨hba, (Option.some.inj y2).symm⟩
      · have y2 := (if_neg hba).symm.trans y
        cases y2
    refine ⟨fun b => if b = a then some (HO.frz { cls := .type "list", data := .seq vs.toArray } (.lst (ns.map V.int))) else none, fun b => ?_, .inl (.inr ⟨_, if_pos rfl⟩), fun b u y => ?_, fun b y => ?_, fun _ => rfl⟩
    · by_cases hba : b = a
      · exact .inr ⟨_, _, if_pos hba⟩
      · exact .inl (if_neg hba)
    · obtain ⟨rfl, rfl⟩ := here b u y
      exact ⟨ha, by rw [List.length_map]; exact hl, vs, _, rv, ha⟩
    · by_cases hba : b = a
      · exact hba
      · exact absurd (if_neg hba) y
theorem walk_G {l : PySem.W.OpenLaw} {n k : Nat} {q : Program} {loose : List Str} {XP : (Str → Option Value) → Heap → Prop} {YP : World → Heap → Prop} {d : DefRec} {K : Params → PySem.W.Frag} {sp : PySem.W.Frag → Sp} {x : Str}
    (hn : l.most = some n) (hn2 : n ≤ sizeLine) (hdf : d.params.defaults = []) (hr : Room k callerA) (hY : ∀ (w : World) (h : Heap), YP w h → (K w.params).In h)
    (F : ∀ (w : World) (mg : Str → Option Value) (fa : Addr) (h : Heap), (K w.params).In h → h.Ns mainGlobals mg → mg d.name = some (.ref fa) →
      ∃ fd : FuncData, (∀ (s : Shared) (u : Value), BindsTo s fd ⟨[u], []⟩ [(x, u)]) ∧ ∀ base : Heap, (K w.params).In base → base.Ns mainGlobals mg → FnG l.prog w (K w.params) mg base CX0 k fa fd [x] (sp (K w.params)))
    (hsp : ∀ (K : PySem.W.Frag) (H : Hp) (a : Addr) (ns : List Int), ns.length ≤ n → Only H → SqL K H a (ns.map V.int) → sp K [.ref a] H (fun v _ => v = .bl true) fun _ _ _ => False) :
    PySem.W.WalkO q loose XP YP l.row.toRowW d [] (fun f vs => PySem.call f vs) := by
  refine Att.attach_call hn hdf fun w y0 y1 mg mb fa o pm cd doc a vs ns G Y ho hd hcd hmg hobj hints hlen hg => ?_
  obtain ⟨fd, hb, hF⟩ := F w mg fa _ (hY w _ Y) G.T.g hmg
  exact law_callG (hY w _ Y) G.T.g G.T.b G.T.builtins G.T.nolimit hg hobj hints (Nat.le_trans hlen hn2) hr hF hb fun H hO hS => hsp _ H a ns hlen hO hS
end CN

set_option Elab.async false
set_option linter.all false
set_option maxRecDepth 100000
set_option maxHeartbeats 4000000
namespace CN
open PySem PySem.Spec PyProof.Rows L2 Evl

/-! ### repr of data -/
def rReprD (K : PySem.W.Frag) : List V → Hp → VK → Prop := fun xs H Q => ∃ (v : V) (d : PyData), xs = [v] ∧ Dp K H v d ∧ d.showable = true ∧ d.hasDict = false ∧ d.depth ≤ 64 ∧ d.shown.length ≤ sizeLine ∧ Q (.str d.shown) H
section
variable {X : Cx}
theorem room100 {k : Nat} {A : Around} (r : Room k A) : A.units + 100 < cLine := by
  have := r.un
  omega
theorem call_reprD (hgd : X.A.guards = some []) (hu : X.A.units + 100 < cLine) : CallR X (.builtin "repr") (rReprD X.K) := by
  intro pins s σ H xs us Q I r h
  obtain ⟨v, d, rfl, hd, hs, hn, hz, hl, q⟩ := h
  obtain ⟨u, rfl, rx⟩ := vals1 r
  have fin : ∀ tk tk', EP X pins σ Q (.str d.shown tk) { s with toks := tk' } := fun tk tk' => ⟨.str d.shown, H, I.tok _, ⟨_, rfl⟩, q⟩
  cases hd with
  | non =>
    cases rx
    exact PySem.P.repr_of_none (fin _ _)
  | bl b =>
    cases rx
    exact PySem.P.repr_of_bool (fin _ _)
  | int i =>
    obtain ⟨t, rfl⟩ := rx
    exact PySem.P.repr_of_int (of_decide_eq_true hs) (fin _ _)
  | str z =>
    obtain ⟨t, rfl⟩ := rx
    exact PySem.P.repr_of_str (fin _ _) hl
  | lst h1 h2 =>
    obtain ⟨as, rd⟩ := Dp.reads I _ _ u (.lst h1 h2) rx
    cases rx
    refine repr_of_reads' rd hs (fun e => by rw [hn] at e; cases e) hgd (by omega) (fun b o e => e) (fun h' u' tk hk => ?_) hl
    exact ⟨.str _, H, I.kept (t' := tk) hk, ⟨_, rfl⟩, q⟩
  | tup h1 h2 =>
    obtain ⟨as, rd⟩ := Dp.reads I _ _ u (.tup h1 h2) rx
    cases rx
    refine repr_of_reads' rd hs (fun e => by rw [hn] at e; cases e) hgd (by omega) (fun b o e => e) (fun h' u' tk hk => ?_) hl
    exact ⟨.str _, H, I.kept (t' := tk) hk, ⟨_, rfl⟩, q⟩
end
/-! ### text.split(sep), text.index(sign) -/
def rSplitU : V → List V → Hp → VK → Prop := fun x xs H Q => ∃ a b, x = .str a ∧ xs = [.str b] ∧ (b.length == 0) = false ∧ a.length + 2 ≤ sizeLine ∧ nwL ((Txt.split a b).map V.str) H Q
def rIndexU : V → List V → Hp → VK → Prop := fun x xs H Q => ∃ a b i rest, x = .str a ∧ xs = [.str b] ∧ Builtin.Str.occurrences a b 0 a.length 1 = i :: rest ∧ Q (.int (i : Nat)) H
section
variable {X : Cx}
theorem mt_splitU : MtR X "str.split" rSplitU := by
  intro pins s σ H x xs v us Q I rx rs h
  obtain ⟨a, b, e1, e2, h1, h2, h3⟩ := h
  exact mt_split pins s σ H x xs v us Q I rx rs ⟨a, b, e1, e2, h1, h2, fun p hp => h3.up hp⟩
theorem mt_indexU : MtR X "str.index" rIndexU := mt_sindex
end
end CN

set_option Elab.async false
set_option linter.all false
set_option maxRecDepth 100000
set_option maxHeartbeats 4000000
namespace CN
open PySem PySem.Spec PyProof.Rows L2 Evl

/-! ### isinstance of things of another kind -/
def NotI (K : PySem.W.Frag) (H : Hp) (v : V) (n : String) : Prop := ∀ (H' : Hp) (Q : VK), Ex H H' → Q (.bl false) H' → rIsiU K [v, .ty n] H' Q
section
variable {K : PySem.W.Frag} {H H1 : Hp} {Q : VK} {v : V} {m n : String} {b : Bool}
theorem isi_ty (ty : TyX K H v (.type m)) (h : kitB m n = some b) (q : Q (.bl b) H) : rIsiU K [v, .ty n] H Q := .inl ⟨v, .ty n, .type m, .type n, b, rfl, .ty n, ty, kit_ty h, q⟩
theorem ty_int {i : Int} : TyX K H (.int i) (.type "int") := .base (.int i)
theorem ty_bl {b : Bool} : TyX K H (.bl b) (.type "bool") := .base (.bl b)
theorem ty_str {z : Str} : TyX K H (.str z) (.type "str") := .base (.str z)
theorem not_of (ty : ∀ H', Ex H H' → TyX K H' v (.type m)) (h : kitB m n = some false) : NotI K H v n := fun H' Q e q => isi_ty (ty H' e) h q
theorem NotI.ex (h : NotI K H v n) (e : Ex H H1) : NotI K H1 v n := fun H' Q e' q => h H' Q (e.trans e') q
theorem not_non (h : kitB "NoneType" n = some false) : NotI K H .non n := not_of (fun _ _ => .base .non) h
theorem not_str {z : Str} (h : kitB "str" n = some false) : NotI K H (.str z) n := not_of (fun _ _ => ty_str) h
theorem not_int {i : Int} (h : kitB "int" n = some false) : NotI K H (.int i) n := not_of (fun _ _ => ty_int) h
theorem not_bl {b : Bool} (h : kitB "bool" n = some false) : NotI K H (.bl b) n := not_of (fun _ _ => ty_bl) h
theorem not_lst {p : Addr} {xs : List V} (hp : H p = some (.lst xs)) (h : kitB "list" n = some false) : NotI K H (.ref p) n := not_of (fun _ e => .base (.lst (e _ _ hp))) h
theorem not_tup {p : Addr} {xs : List V} (hp : H p = some (.tup xs)) (h : kitB "tuple" n = some false) : NotI K H (.ref p) n := not_of (fun _ e => .base (.tup (e _ _ hp))) h
theorem not_dct {p : Addr} {xs : List (Key × V)} (hp : H p = some (.dK xs)) (h : kitB "dict" n = some false) : NotI K H (.ref p) n := not_of (fun _ e => .base (.dK (e _ _ hp))) h
theorem not_exc {x C dx : Addr} {fs : List (Str × V)} (hx : H x = some (exo x C (some dx))) (hd : H dx = some (exd dx fs)) (T : ExcC K C) (h : PySem.W.kitOne K (.ref C) (.type n) = some false) : NotI K H (.ref x) n := fun H' Q e q =>
  .inr ⟨x, C, some dx, .ty n, .type n, false, rfl, .ty n, e _ _ hx, fun d hd' => ⟨fs, by cases hd'; exact e _ _ hd⟩, T, h, q⟩
end
theorem exb {b : Addr} {H0 H H' : Hp} (n : H0 b = none) (e : Ex H0 H) (f : ExBx b H H') : Ex H0 H' := fun x o h => f x o (ne_of_none h n) (e x o h)
theorem eqv_nil {l : List PyData} : PyData.eqv (.list l) (.list []) = l.isEmpty := by
  cases l <;> rfl
theorem shaped_strs {ys : List Str} (h : ∀ y ∈ ys, OkS y) : SeqAt.shaped (.list (ys.map PyData.str)) = true := by
  unfold SeqAt.shaped
  rw [Bool.and_eq_true]
  refine ⟨canLay_strs ys h, decide_eq_true ?_⟩
  have := depth_strs ys
  show PyData.depthAll (ys.map PyData.str) + 1 ≤ 64
  omega
/-! ### numbers as texts -/
theorem log_lt {z : Int} {k : Nat} (h : z.natAbs < 2 ^ k) (hk : k ≤ 1920) : z.natAbs.log2 < 1920 := by
  by_cases h0 : z.natAbs = 0
  · rw [h0]
    decide
  · rw [Nat.log2_lt h0]
    exact Nat.lt_of_lt_of_le h (Nat.pow_le_pow_right (by decide) hk)
theorem numL_len : ∀ (k n : Nat), n < 10 ^ (k + 1) → (TL.numL n).length ≤ k + 1
  | 0, n, h => by
    rw [TL.numL_lt (by omega)]
    exact Nat.le_refl _
  | k + 1, n, h => by
    by_cases h10 : n < 10
    · rw [TL.numL_lt h10]
      show 1 ≤ _
      omega
    · rw [TL.numL_step (by omega), List.length_append]
      have h2 : n / 10 < 10 ^ (k + 1) := by
        rw [Nat.div_lt_iff_lt_mul (by decide)]
        rw [Nat.pow_succ] at h
        exact h
      have := numL_len k (n / 10) h2
      show _ + 1 ≤ _
      omega
theorem str_int_cps {i : Int} (h : 0 ≤ i) : (Str.ofString (toString i)).cps.toList = TL.numL i.toNat := by
  obtain ⟨n, rfl⟩ := Int.eq_ofNat_of_zero_le h
  exact TL.tl_num n
theorem str_int_len {i : Int} {k : Nat} (h : 0 ≤ i) (h2 : i < 10 ^ (k + 1)) : (Str.ofString (toString i)).length ≤ k + 1 := by
  rw [← len_cps, str_int_cps h]
  refine numL_len k _ ?_
  have e : ((10 : Int) ^ (k + 1)) = (((10 ^ (k + 1) : Nat)) : Int) := by
    push_cast
    rfl
  omega
theorem str_int_ok {i : Int} (h : 0 ≤ i) : OkS (Str.ofString (toString i)) := fun c hc => by
  rw [str_int_cps h] at hc
  have := TL.numL_digits i.toNat c hc
  omega
end CN

set_option Elab.async false
set_option linter.all false
set_option maxRecDepth 100000
set_option maxHeartbeats 4000000
namespace CN
open PySem PySem.Spec PyProof.Rows L2 Evl

/-! ### a call with keywords, their number told -/
section
variable {X : Cx} {CX : CXT} {k n m : Nat} {f : Addr} {fd : FuncData} {ps ks : List Str} {sp : Sp} {E : XK} {x : Str} {p pos : Pos} {e : Expr} {es : List Expr} {kws : List Keyword} {t tk : TA} {g : List Value → List Value → List Value} {gV : List V → List V → List V}
theorem pe_callM (F : FnOk X.prog X.w X.K X.mg X.base CX k f fd ps sp) (hr : Room k X.A) (hg : Gl X x) (hmg : X.mg x = some (.ref f)) (hk : PySem.W.keepIn X.K (.ref f) = true) (hb : KBn X.K fd ps n ks g gV) (hx : Passes CX X E)
    (ha : PA X (e :: es) t) (hkw : PK X kws tk) (hlen : ks.length = m := by rfl) (hall : (backToKw pos (keywordEach kws X.env)).all (·.1.isSome) = true := by rfl)
    (hks : (backToKw pos (keywordEach kws X.env)).filterMap (·.1) = ks := by rfl) (hdb : (x == ("__debug__" : Str)) = false := by decide)
    (he : starEach (e :: es) X.env = (false, eval e X.env) :: starEach es X.env := by rfl)
    (hpl : ((backTo pos (starEach (e :: es) X.env)).any (·.1) || (backToKw pos (keywordEach kws X.env)).any (·.1.isNone)) = false := by rfl) :
    PE X (.Call (.Name x p) (e :: es) kws pos) (tCallN n m sp gV E t tk) := by
  rw [← hlen]
  exact pe_callN F hr hg hmg hk hb hx ha hkw hall hks hdb he hpl
end
end CN

set_option Elab.async false
set_option linter.all false
set_option maxRecDepth 100000
set_option maxHeartbeats 8000000
namespace K02
open PySem PySem.Spec PyProof.Rows L2 CN Evl
def top (i : Nat) : Stmt := PySem.Challenge.pw_caughtnames_k02_numbers_and_words_of_tex.main.body.getD i (.Pass ⟨0, 0, 0, 0⟩)
abbrev s_parse_integer : Stmt := (top 2)
abbrev N_parse_integer : List Str := ["text", "low", "high", "number", "digit"]
theorem sc_parse_integer : FnScope N_parse_integer ["text", "low", "high"] (defScope s_parse_integer) := ⟨rfl, rfl, rfl, by decide +kernel, rfl, by decide +kernel, by decide +kernel⟩
abbrev s_split_words : Stmt := (top 3)
abbrev N_split_words : List Str := ["text", "words"]
theorem sc_split_words : FnScope N_split_words ["text"] (defScope s_split_words) := ⟨rfl, rfl, rfl, by decide +kernel, rfl, by decide +kernel, by decide +kernel⟩
abbrev s_InvalidName___init__ : Stmt := (inClass (top 6) 0)
abbrev N_InvalidName___init__ : List Str := ["self", "value"]
theorem sc_InvalidName___init__ : FnScope N_InvalidName___init__ ["self", "value"] (defScope s_InvalidName___init__) := ⟨rfl, rfl, rfl, by decide +kernel, rfl, by decide +kernel, by decide +kernel⟩
abbrev s__law_cell : Stmt := (top 8)
abbrev N__law_cell : List Str := ["_law_script", "_law_k"]
theorem sc__law_cell : FnScope N__law_cell ["_law_script", "_law_k"] (defScope s__law_cell) := ⟨rfl, rfl, rfl, by decide +kernel, rfl, by decide +kernel, by decide +kernel⟩
abbrev s__law_box : Stmt := (top 9)
abbrev N__law_box : List Str := ["_law_cell_here"]
theorem sc__law_box : FnScope N__law_box ["_law_cell_here"] (defScope s__law_box) := ⟨rfl, rfl, rfl, by decide +kernel, rfl, by decide +kernel, by decide +kernel⟩
abbrev s__law_take : Stmt := (top 10)
abbrev N__law_take : List Str := ["_law_box_here", "_law_many", "_law_digit", "_law_number"]
theorem sc__law_take : FnScope N__law_take ["_law_box_here", "_law_many"] (defScope s__law_take) := ⟨rfl, rfl, rfl, by decide +kernel, rfl, by decide +kernel, by decide +kernel⟩
abbrev s__law_text : Stmt := (top 11)
abbrev N__law_text : List Str := ["_law_box_here", "_law_number", "_law_text_here", "_law_at", "_law_sign", "_law_some"]
theorem sc__law_text : FnScope N__law_text ["_law_box_here"] (defScope s__law_text) := ⟨rfl, rfl, rfl, by decide +kernel, rfl, by decide +kernel, by decide +kernel⟩
abbrev s__law_value : Stmt := (top 12)
abbrev N__law_value : List Str := ["_law_text_here", "_law_value_here", "_law_sign"]
theorem sc__law_value : FnScope N__law_value ["_law_text_here"] (defScope s__law_value) := ⟨rfl, rfl, rfl, by decide +kernel, rfl, by decide +kernel, by decide +kernel⟩
abbrev s__law_number_right : Stmt := (top 13)
abbrev N__law_number_right : List Str := ["_law_text_here", "_law_least", "_law_most", "_law_value_here", "_law_due"]
theorem sc__law_number_right : FnScope N__law_number_right ["_law_text_here", "_law_least", "_law_most"] (defScope s__law_number_right) := ⟨rfl, rfl, rfl, by decide +kernel, rfl, by decide +kernel, by decide +kernel⟩
abbrev s__law_words : Stmt := (top 14)
abbrev N__law_words : List Str := ["_law_text_here", "_law_found", "_law_word", "_law_sign"]
theorem sc__law_words : FnScope N__law_words ["_law_text_here"] (defScope s__law_words) := ⟨rfl, rfl, rfl, by decide +kernel, rfl, by decide +kernel, by decide +kernel⟩
abbrev s__law_line : Stmt := (top 15)
abbrev N__law_line : List Str := ["_law_box_here", "_law_signs", "_law_words_here", "_law_k", "_law_line_here", "_law_at", "_law_some", "_law_j"]
theorem sc__law_line : FnScope N__law_line ["_law_box_here"] (defScope s__law_line) := ⟨rfl, rfl, rfl, by decide +kernel, rfl, by decide +kernel, by decide +kernel⟩
abbrev s_law : Stmt := (top 16)
abbrev N_law : List Str := ["_law_script", "_law_k", "_law_box_here", "_law_turn", "_law_odd", "_law_text_here", "_law_value_here", "_law_near", "_law_least", "_law_most", "_law_line_here", "_law_again", "_law_found"]
theorem sc_law : FnScope N_law ["_law_script"] (defScope s_law) := ⟨rfl, rfl, rfl, by decide +kernel, rfl, by decide +kernel, by decide +kernel⟩
structure Ad where
  mk ::
  (f_parse_integer : Addr) (d_parse_integer : FuncData)
  (f_split_words : Addr) (d_split_words : FuncData)
  (f_InvalidName___init__ : Addr) (d_InvalidName___init__ : FuncData)
  (f__law_cell : Addr) (d__law_cell : FuncData)
  (f__law_box : Addr) (d__law_box : FuncData)
  (f__law_take : Addr) (d__law_take : FuncData)
  (f__law_text : Addr) (d__law_text : FuncData)
  (f__law_value : Addr) (d__law_value : FuncData)
  (f__law_number_right : Addr) (d__law_number_right : FuncData)
  (f__law_words : Addr) (d__law_words : FuncData)
  (f__law_line : Addr) (d__law_line : FuncData)
  (f_law : Addr) (d_law : FuncData)
  (t_DIGITS : Tok)
  (c_CaughtError : Addr)
  (c_InvalidName : Addr)
/-- what the top has written -/
structure Txt (K : PySem.W.Frag) (mg : Str → Option Value) (a : Ad) : Prop where
  F_parse_integer : FunD K "parse_integer" "parse_integer" (defArgs s_parse_integer) (defBody s_parse_integer) (defScope s_parse_integer) [] [("low", .int 0), ("high", .int 999)] a.f_parse_integer a.d_parse_integer
  g_parse_integer : mg "parse_integer" = some (.ref a.f_parse_integer)
  F_split_words : Fun K "split_words" "split_words" s_split_words a.f_split_words a.d_split_words
  bi_split_words : Binds K a.d_split_words ["text"] []
  g_split_words : mg "split_words" = some (.ref a.f_split_words)
  F_InvalidName___init__ : Fun K "__init__" "InvalidName.__init__" s_InvalidName___init__ a.f_InvalidName___init__ a.d_InvalidName___init__
  bi_InvalidName___init__ : Binds K a.d_InvalidName___init__ ["self", "value"] []
  i_InvalidName___init__ : PySem.W.findIn K (.ref a.c_InvalidName) "__init__" = some (some (.ref a.f_InvalidName___init__))
  ty_InvalidName___init__ : PySem.W.typeIn K (.ref a.f_InvalidName___init__) = some (.type "function")
  F__law_cell : Fun K "_law_cell" "_law_cell" s__law_cell a.f__law_cell a.d__law_cell
  bi__law_cell : Binds K a.d__law_cell ["_law_script", "_law_k"] []
  g__law_cell : mg "_law_cell" = some (.ref a.f__law_cell)
  F__law_box : Fun K "_law_box" "_law_box" s__law_box a.f__law_box a.d__law_box
  bi__law_box : Binds K a.d__law_box ["_law_cell_here"] []
  g__law_box : mg "_law_box" = some (.ref a.f__law_box)
  F__law_take : Fun K "_law_take" "_law_take" s__law_take a.f__law_take a.d__law_take
  bi__law_take : Binds K a.d__law_take ["_law_box_here", "_law_many"] []
  g__law_take : mg "_law_take" = some (.ref a.f__law_take)
  F__law_text : Fun K "_law_text" "_law_text" s__law_text a.f__law_text a.d__law_text
  bi__law_text : Binds K a.d__law_text ["_law_box_here"] []
  g__law_text : mg "_law_text" = some (.ref a.f__law_text)
  F__law_value : Fun K "_law_value" "_law_value" s__law_value a.f__law_value a.d__law_value
  bi__law_value : Binds K a.d__law_value ["_law_text_here"] []
  g__law_value : mg "_law_value" = some (.ref a.f__law_value)
  F__law_number_right : Fun K "_law_number_right" "_law_number_right" s__law_number_right a.f__law_number_right a.d__law_number_right
  bi__law_number_right : Binds K a.d__law_number_right ["_law_text_here", "_law_least", "_law_most"] []
  g__law_number_right : mg "_law_number_right" = some (.ref a.f__law_number_right)
  F__law_words : Fun K "_law_words" "_law_words" s__law_words a.f__law_words a.d__law_words
  bi__law_words : Binds K a.d__law_words ["_law_text_here"] []
  g__law_words : mg "_law_words" = some (.ref a.f__law_words)
  F__law_line : Fun K "_law_line" "_law_line" s__law_line a.f__law_line a.d__law_line
  bi__law_line : Binds K a.d__law_line ["_law_box_here"] []
  g__law_line : mg "_law_line" = some (.ref a.f__law_line)
  F_law : Fun K "law" "law" s_law a.f_law a.d_law
  bi_law : Binds K a.d_law ["_law_script"] []
  g_law : mg "law" = some (.ref a.f_law)
  lb : ∀ (s : Shared) (u : Value), BindsTo s a.d_law ⟨[u], []⟩ [("_law_script", u)]
  g_DIGITS : mg "DIGITS" = some (.str "0123456789" a.t_DIGITS)
  g_CaughtError : mg "CaughtError" = some (.ref a.c_CaughtError)
  e_CaughtError : ExB0 K a.c_CaughtError
  g_InvalidName : mg "InvalidName" = some (.ref a.c_InvalidName)
  e_InvalidName : ExT K a.c_InvalidName "value"
  xs_InvalidName : PySem.W.subIn K (.ref a.c_InvalidName) (.type "str") = some false
  b_len : mg "len" = none
  b_max : mg "max" = none
  b_min : mg "min" = none
  b_str : mg "str" = none
  b_int : mg "int" = none
  b_bool : mg "bool" = none
  b_isinstance : mg "isinstance" = none
  b_all : mg "all" = none
  b_range : mg "range" = none
  b_repr : mg "repr" = none
end K02

set_option Elab.async false
set_option linter.all false
set_option maxRecDepth 100000
set_option maxHeartbeats 4000000
namespace K02
open PySem PySem.Spec PyProof.Rows L2 CN Evl
def t__law_cell (K : PySem.W.Frag) (a : Ad) : TS :=
  (tSeq (tIfS (tTest (tOp rLtU (tVar 1) (tCB (rLenU K) (tCons (tVar 0) tNil)))) (tRet (tOp (rIx K) (tVar 0) (tVar 1))) tNext)
  (tRet (tOp (rAddU K) (tOp rMulU (tC (.int 7919)) (tVar 1)) (tC (.int 131)))))
def t__law_box (K : PySem.W.Frag) (a : Ad) : TS :=
  (tRet (tLstG (tCons (tCB rMaxI (tCons (tC (.int 0)) (tCons (tOp rSubI (tVar 0) (tOp rPowI (tC (.int 10)) (tC (.int 18)))) tNil))) (tCons (tOp rModI (tVar 0) (tC (.int 2147483629))) (tCons (tC (.int 0)) tNil)))))
def t__law_take (K : PySem.W.Frag) (a : Ad) : TS :=
  (tSeq (tIfS (tTest (tOp rGtU (tOp (rIx K) (tVar 0) (tC (.int 0))) (tC (.int 0)))) (tSeq (tAsg (tOp rModI (tOp (rIx K) (tVar 0) (tC (.int 0))) (tVar 1)) (gName 2))
  (tSeq (tAsg (tOp rDivI (tOp (rIx K) (tVar 0) (tC (.int 0))) (tVar 1)) (gSub (tVar 0) (tC (.int 0)) rSetL))
  (tRet (tVar 2)))) tNext)
  (tSeq (tAsg (tOp (rAddU K) (tOp (rIx K) (tVar 0) (tC (.int 2))) (tC (.int 1))) (gSub (tVar 0) (tC (.int 2)) rSetL))
  (tSeq (tAsg (tOp rModI (tOp rPowI (tOp (rAddU K) (tOp (rAddU K) (tOp (rIx K) (tVar 0) (tC (.int 1))) (tOp rMulU (tC (.int 7919)) (tOp (rIx K) (tVar 0) (tC (.int 2))))) (tC (.int 43))) (tC (.int 5))) (tC (.int 2147483647))) (gName 3))
  (tSeq (tAsg (tOp rModI (tOp rPowI (tOp (rAddU K) (tVar 3) (tOp rMulU (tC (.int 104729)) (tOp (rIx K) (tVar 0) (tC (.int 2))))) (tC (.int 3))) (tC (.int 2147483587))) (gName 3))
  (tRet (tOp rModI (tOp rDivI (tVar 3) (tC (.int 8))) (tVar 1)))))))
theorem pow_pos_le {x y : Int} (h0 : 0 ≤ x) (h1 : x ≤ y) : x.natAbs ≤ y.natAbs := by omega
theorem rd__law_take {K : PySem.W.Frag} {a : Ad} {vs : List V} {H : Hp} {Q : VK} {E : XK} (h : spTake vs H Q E) :
    t__law_take K a { nx := fun _ H' => Q .non H', rt := Q } (L2.start N__law_take vs) H := by
  obtain ⟨b, many, m, rfl, ⟨n, r, c, hb, h1, h2, h3, h4, h5⟩, hm, hp, hq, k⟩ := h
  refine ⟨_, rfl, ix_l hb rfl ⟨_, rfl, ?_⟩⟩
  refine ite2 (fun hn => ?_) (fun hn => ?_)
  · have hn' : 0 < n := of_decide_eq_true hn
    refine ⟨_, rfl, ix_l hb rfl ⟨_, rfl, hp, ?_⟩⟩
    refine ⟨_, rfl, ix_l hb rfl ⟨_, rfl, ⟨hp, hq⟩, ?_⟩⟩
    refine ⟨_, rfl, b, _, 0, 0, rfl, rfl, hb, rfl, ?_⟩
    refine ⟨_, rfl, ?_⟩
    refine k _ _ (Int.emod_nonneg _ (by omega)) (Int.emod_lt_of_pos _ hp) ExBx.upd ?_
    exact ⟨n / many, r, c, upd_same, Int.ediv_nonneg h1 (by omega), h2, h3, h4, by omega⟩
  · refine ⟨_, rfl, ix_l hb rfl ?_⟩
    refine ⟨_, rfl, b, _, 2, 2, rfl, rfl, hb, rfl, ?_⟩
    have hb2 : (upd H b (.lst [.int n, .int r, .int (c + 1)])) b = some (.lst [.int n, .int r, .int (c + 1)]) := upd_same
    refine ⟨_, rfl, ix_l hb2 rfl ⟨_, rfl, ix_l hb2 rfl ⟨.inl ⟨by decide, by decide⟩, ?_⟩⟩⟩
    refine ⟨⟨by decide, by decide, ?_⟩, by decide, ?_⟩
    · show (r + 7919 * (c + 1) + 43).natAbs < 2 ^ 64
      omega
    · generalize hx : (r + 7919 * (c + 1) + 43) ^ (5 : Int).toNat % 2147483647 = x
      have x0 : 0 ≤ x := by
        rw [← hx]
        exact Int.emod_nonneg _ (by decide)
      have x1 : x < 2147483647 := by
        rw [← hx]
        exact Int.emod_lt_of_pos _ (by decide)
      refine ⟨_, rfl, _, rfl, ix_l hb2 rfl ⟨.inl ⟨by decide, by decide⟩, ?_⟩⟩
      refine ⟨⟨by decide, by decide, ?_⟩, by decide, ?_⟩
      · show (x + 104729 * (c + 1)).natAbs < 2 ^ 64
        omega
      · refine ⟨_, rfl, ⟨by decide, by decide⟩, _, rfl, hp, ?_⟩
        refine k _ _ (Int.emod_nonneg _ (by omega)) (Int.emod_lt_of_pos _ hp) ExBx.upd ?_
        exact ⟨n, r, c + 1, upd_same, h1, h2, h3, by omega, by omega⟩
theorem rd__law_cell {K : PySem.W.Frag} {a : Ad} {vs : List V} {H : Hp} {Q : VK} {E : XK} (h : spCell K vs H Q E) :
    t__law_cell K a { nx := fun _ H' => Q .non H', rt := Q } (L2.start N__law_cell vs) H := by
  obtain ⟨p, ns, k, rfl, hS, hk, q⟩ := h
  refine ⟨_, rfl, _, rfl, .inl ⟨_, .inl hS, _, rfl, ?_⟩⟩
  refine ite2 (fun hn => ?_) (fun hn => ?_)
  · have hn' : (k : Int) < (ns.map V.int).length := of_decide_eq_true hn
    obtain ⟨v, e, hv⟩ := atI_some (xs := ns.map V.int) (i := k) (by omega) hn'
    obtain ⟨z, _, rfl⟩ := List.mem_map.mp hv
    exact ⟨_, rfl, _, rfl, ix_L hS e (q z)⟩
  · exact ⟨_, rfl, .inl ⟨by decide, by decide⟩, q _⟩
theorem rd__law_box {K : PySem.W.Frag} {a : Ad} {vs : List V} {H : Hp} {Q : VK} {E : XK} (h : spBox vs H Q E) :
    t__law_box K a { nx := fun _ H' => Q .non H', rt := Q } (L2.start N__law_box vs) H := by
  obtain ⟨c, rfl, q⟩ := h
  refine ⟨_, rfl, ⟨by decide, by decide, by decide⟩, ?_⟩
  refine ⟨_, rfl, by decide, ?_⟩
  refine ⟨(by show 3 ≤ sizeLine; decide), fun p H' hp e h' => q p H' hp e ⟨_, _, _, h', ?_, Int.emod_nonneg _ (by decide), Int.emod_lt_of_pos _ (by decide), by decide, by decide⟩⟩
  split <;> omega
abbrev sp__law_take (K : PySem.W.Frag) : Sp := spTake
abbrev sp__law_box (K : PySem.W.Frag) : Sp := spBox
abbrev sp__law_cell (K : PySem.W.Frag) : Sp := spCell K
section
variable {P : Program} {w : World} {K : PySem.W.Frag} {mg : Str → Option Value} {base : Heap} {a : Ad}
theorem ok__law_take (T : Txt K mg a) : FnOk P w K mg base CX0 1 a.f__law_take a.d__law_take ["_law_box_here", "_law_many"] spTake := by
  refine T.F__law_take.ok sc__law_take (fun vs H Q E h => ?_) (fun cdv A outer s H vs Q E hr h => ⟨t__law_take K a, ?_, rd__law_take h⟩)
  · obtain ⟨b, many, m, rfl, _⟩ := h
    rfl
  exact (pss_cons (ps_if (pt_cmpR op_gtU (pe_ix ix_seq (pv 0) pe_int (fun _ _ => rfl)) pe_int (nomark _)) (pss_cons (ps_set (i := 2) sc__law_take.nd rfl (Or.inl rfl) (pe_op op_modI (pe_ix ix_seq (pv 0) pe_int (fun _ _ => rfl)) (pv 1)))
      (pss_cons (ps_asg (pe_op op_divI (pe_ix ix_seq (pv 0) pe_int (fun _ _ => rfl)) (pv 1)) (pg_sub (pv 0) pe_int set_list))
      (pss_one (ps_ret (pv 2))))) pss_nil)
      (pss_cons (ps_asg (pe_op op_addU (pe_ix ix_seq (pv 0) pe_int (fun _ _ => rfl)) pe_int) (pg_sub (pv 0) pe_int set_list))
      (pss_cons (ps_set (i := 3) sc__law_take.nd rfl (Or.inl rfl) (pe_op op_modI (pe_op op_powI (pe_op op_addU (pe_op op_addU (pe_ix ix_seq (pv 0) pe_int (fun _ _ => rfl)) (pe_op op_mulU pe_int (pe_ix ix_seq (pv 0) pe_int (fun _ _ => rfl)))) pe_int) pe_int) pe_int))
      (pss_cons (ps_set (i := 3) sc__law_take.nd rfl (Or.inl rfl) (pe_op op_modI (pe_op op_powI (pe_op op_addU (pv 3) (pe_op op_mulU pe_int (pe_ix ix_seq (pv 0) pe_int (fun _ _ => rfl)))) pe_int) pe_int))
      (pss_one (ps_ret (pe_op op_modI (pe_op op_divI (pv 3) pe_int) (pv 1))))))))
theorem ok__law_cell (T : Txt K mg a) : FnOk P w K mg base CX0 1 a.f__law_cell a.d__law_cell ["_law_script", "_law_k"] (spCell K) := by
  refine T.F__law_cell.ok sc__law_cell (fun vs H Q E h => ?_) (fun cdv A outer s H vs Q E hr h => ⟨t__law_cell K a, ?_, rd__law_cell h⟩)
  · obtain ⟨b, many, m, rfl, _⟩ := h
    rfl
  exact (pss_cons (ps_if (pt_cmpR op_ltU (pv 1) (pe_callB call_lenU (by rfl) T.b_len (by decide +kernel) (pa_cons (pv 0) pa_nil)) (nomark _)) (pss_one (ps_ret (pe_ix ix_seq (pv 0) (pv 1) (fun _ _ => rfl)))) pss_nil)
      (pss_one (ps_ret (pe_op op_addU (pe_op op_mulU pe_int (pv 1)) pe_int))))
theorem ok__law_box (T : Txt K mg a) : FnOk P w K mg base CX0 1 a.f__law_box a.d__law_box ["_law_cell_here"] spBox := by
  refine T.F__law_box.ok sc__law_box (fun vs H Q E h => ?_) (fun cdv A outer s H vs Q E hr h => ⟨t__law_box K a, ?_, rd__law_box h⟩)
  · obtain ⟨b, rfl, _⟩ := h
    rfl
  exact (pss_one (ps_ret (pe_lstG (pa_cons (pe_callB (call_maxI rfl) (by rfl) T.b_max (by decide +kernel) (pa_cons pe_int (pa_cons (pe_op op_subI (pv 0) (pe_op op_powI pe_int pe_int)) pa_nil))) (pa_cons (pe_op op_modI (pv 0) pe_int) (pa_cons pe_int pa_nil))))))
end
end K02

set_option Elab.async false
set_option linter.all false
set_option maxRecDepth 100000
set_option maxHeartbeats 8000000
namespace K02
open PySem PySem.Spec PyProof.Rows L2 CN Evl
/-! ### numbers: the mathematics -/
def digs : Str := "0123456789"
theorem digs_list : digs.cps.toList = List.range' 48 10 := by decide +kernel
def digB (c : Nat) : Bool := decide (c ∈ digs.cps.toList)
theorem digB_iff {c : Nat} : digB c = true ↔ 48 ≤ c ∧ c ≤ 57 := by
  unfold digB
  rw [decide_eq_true_eq, digs_list, List.mem_range'_1]
  omega
/-- the value of a text, by its signs -/
def valL (l : List Nat) : Option Int := if l = [] ∨ ¬ (l.all digB = true) then none else if l.head? = some 48 ∧ l ≠ [48] then none else some ((NumText.digitsVal l : Nat) : Int)
def pintV (l : List Nat) (lo hi : Int) : V := match valL l with
  | some n => if lo ≤ n ∧ n ≤ hi then .int n else .non
  | none => .non
theorem val_bound {l : List Nat} : ∀ acc : Nat, (∀ c ∈ l, c ≤ 57) → l.foldl (fun acc c => acc * 10 + (c - 48)) acc < (acc + 1) * 10 ^ l.length := by
  induction l with
  | nil =>
    intro acc _
    show acc < (acc + 1) * 1
    omega
  | cons c r ih =>
    intro acc h
    have h1 := ih (acc * 10 + (c - 48)) fun d hd => h d (List.mem_cons_of_mem _ hd)
    have h2 := h c (List.mem_cons_self ..)
    show r.foldl _ (acc * 10 + (c - 48)) < (acc + 1) * 10 ^ (r.length + 1)
    rw [Nat.pow_succ, Nat.mul_comm (10 ^ r.length) 10, ← Nat.mul_assoc]
    refine Nat.lt_of_lt_of_le h1 (Nat.mul_le_mul_right _ ?_)
    omega
theorem valL_some {l : List Nat} {n : Int} (h : valL l = some n) : l ≠ [] ∧ l.all digB = true ∧ n = ((NumText.digitsVal l : Nat) : Int) ∧ ¬ (l.head? = some 48 ∧ l ≠ [48]) := by
  unfold valL at h
  by_cases h1 : l = [] ∨ ¬ (l.all digB = true)
  · rw [if_pos h1] at h
    cases h
  · rw [if_neg h1] at h
    by_cases h2 : l.head? = some 48 ∧ l ≠ [48]
    · rw [if_pos h2] at h
      cases h
    · rw [if_neg h2] at h
      exact ⟨fun e => h1 (.inl e), Decidable.byContradiction fun e => h1 (.inr e), (Option.some.inj h).symm, h2⟩
theorem valL_lt {l : List Nat} {n : Int} (h : valL l = some n) (hl : l.length ≤ 30) : 0 ≤ n ∧ n < 10 ^ 30 := by
  obtain ⟨_, h2, rfl, _⟩ := valL_some h
  have hc : ∀ c ∈ l, c ≤ 57 := fun c hc => (digB_iff.mp (List.all_eq_true.mp h2 c hc)).2
  have h3 := val_bound 0 hc
  have h4 : (10 : Nat) ^ l.length ≤ 10 ^ 30 := Nat.pow_le_pow_right (by decide) hl
  have h5 : NumText.digitsVal l < 10 ^ 30 := by
    unfold NumText.digitsVal
    omega
  constructor
  · omega
  · have e : ((10 : Int) ^ 30) = ((10 ^ 30 : Nat) : Int) := by decide
    rw [e]
    exact_mod_cast h5
/-! ### words: the mathematics -/
/-- word: the signs of the word so far -/
def lwR : List Nat → List Nat → Option (List (List Nat))
  | word, [] => if word = [] then none else some [word]
  | word, c :: r => if c = 10 ∨ (c = 32 ∧ word = []) then none else if c = 32 then (lwR [] r).map (word :: ·) else lwR (word ++ [c]) r
def spW (word l : List Nat) : List (List Nat) := TL.spl [32] 0 word l
theorem spW_nil (w : List Nat) : spW w [] = [w] := rfl
theorem spW_cons (w : List Nat) (c : Nat) (r : List Nat) : spW w (c :: r) = if c = 32 then w :: spW [] r else spW (w ++ [c]) r := by
  unfold spW
  have e : TL.pre [32] (c :: r) = decide (c = 32) := by
    by_cases h : c = 32
    · subst h
      simp [TL.pre]
    · simp [TL.pre, h]
  show (if TL.pre [32] (c :: r) = true then w :: TL.spl [32] ([32].length - 1) [] r else TL.spl [32] 0 (w ++ [c]) r) = _
  rw [e]
  by_cases h : c = 32
  · rw [if_pos h, if_pos (decide_eq_true h)]
    rfl
  · rw [if_neg h, if_neg (by simp [h])]
theorem lw_sp : ∀ (l w : List Nat), lwR w l = if 10 ∈ l then none else if [] ∈ spW w l then none else some (spW w l)
  | [], w => by
    rw [spW_nil]
    show (if w = [] then none else some [w]) = _
    by_cases h : w = []
    · subst h
      simp
    · simp [h, Ne.symm h]
  | c :: r, w => by
    rw [spW_cons]
    show (if c = 10 ∨ (c = 32 ∧ w = []) then none else if c = 32 then (lwR [] r).map (w :: ·) else lwR (w ++ [c]) r) = _
    by_cases h1 : c = 10
    · rw [if_pos (.inl h1), if_pos (by simp [h1])]
    · by_cases h2 : c = 32
      · rw [if_pos h2, if_pos h2]
        by_cases h3 : w = []
        · rw [if_pos (.inr ⟨h2, h3⟩)]
          by_cases h4 : 10 ∈ c :: r
          · rw [if_pos h4]
          · rw [if_neg h4, if_pos (by simp [h3])]
        · rw [if_neg (fun h => h.elim h1 fun h => h3 h.2), lw_sp r []]
          have e1 : (10 ∈ c :: r) ↔ 10 ∈ r := by
            simp [Ne.symm h1]
          by_cases h4 : 10 ∈ r
          · rw [if_pos h4, if_pos (e1.mpr h4)]
            rfl
          · rw [if_neg h4, if_neg (fun h => h4 (e1.mp h))]
            have e2 : ([] ∈ w :: spW [] r) ↔ [] ∈ spW [] r := by
              simp [Ne.symm h3]
            by_cases h5 : [] ∈ spW [] r
            · rw [if_pos h5, if_pos (e2.mpr h5)]
              rfl
            · rw [if_neg h5, if_neg (fun h => h5 (e2.mp h))]
              rfl
      · rw [if_neg (fun h => h.elim h1 fun h => h2 h.1), if_neg h2, if_neg h2, lw_sp r (w ++ [c])]
        have e1 : (10 ∈ c :: r) ↔ 10 ∈ r := by
          simp [Ne.symm h1]
        by_cases h4 : 10 ∈ r
        · rw [if_pos h4, if_pos (e1.mpr h4)]
        · rw [if_neg h4, if_neg (fun h => h4 (e1.mp h))]
def ofL (l : List Nat) : Str := ⟨l.toArray⟩
theorem ofL_cps (l : List Nat) : (ofL l).cps.toList = l := rfl
theorem cps_ofL (z : Str) : ofL z.cps.toList = z := str_ext rfl
theorem ofL_inj {x y : List Nat} (h : ofL x = ofL y) : x = y := congrArg (fun z : Str => z.cps.toList) h
/-- the words of a text -/
def wordsOf (z : Str) : Option (List Str) := (lwR [] z.cps.toList).map (List.map ofL)
theorem sp_list : (" " : Str).cps.toList = [32] := by decide +kernel
theorem split_is (z : Str) : Txt.split z (" " : Str) = (spW [] z.cps.toList).map ofL := by
  have h := TL.split_spl z (" " : Str) (by show (" " : Str).cps.toList ≠ []; rw [sp_list]; simp) (TL.kind_ok (by decide +kernel))
  have e : (Txt.split z (" " : Str)).map (fun y : Str => y.cps.toList) = spW [] z.cps.toList := by
    refine Eq.trans h ?_
    show TL.spl ((" " : Str).cps.toList) 0 [] z.cps.toList = _
    rw [sp_list]
    rfl
  rw [← e, List.map_map]
  have e2 : (ofL ∘ fun y : Str => y.cps.toList) = id := by
    funext y
    exact cps_ofL y
  rw [e2, List.map_id]
theorem spW_len : ∀ (l w : List Nat), (spW w l).length ≤ l.length + 1 ∧ ∀ x ∈ spW w l, ∀ c ∈ x, c ∈ w ∨ c ∈ l
  | [], w => by
    rw [spW_nil]
    exact ⟨Nat.le_refl _, fun x hx c hc => .inl (by rw [List.mem_singleton.mp hx] at hc; exact hc)⟩
  | c :: r, w => by
    rw [spW_cons]
    by_cases h : c = 32
    · rw [if_pos h]
      obtain ⟨a, b⟩ := spW_len r []
      refine ⟨by rw [List.length_cons, List.length_cons]; omega, fun x hx d hd => ?_⟩
      rcases List.mem_cons.mp hx with rfl | hx
      · exact .inl hd
      · rcases b x hx d hd with h' | h'
        · cases h'
        · exact .inr (List.mem_cons_of_mem _ h')
    · rw [if_neg h]
      obtain ⟨a, b⟩ := spW_len r (w ++ [c])
      refine ⟨by rw [List.length_cons]; omega, fun x hx d hd => ?_⟩
      rcases b x hx d hd with h' | h'
      · rcases List.mem_append.mp h' with h' | h'
        · exact .inl h'
        · rw [List.mem_singleton.mp h']
          exact .inr (List.mem_cons_self ..)
      · exact .inr (List.mem_cons_of_mem _ h')
/-- None, or a new list of these words -/
def resW (o : Option (List Str)) (H : Hp) (Q : VK) : Prop := match o with
  | none => ∀ H', Ex H H' → Q .non H'
  | some ws => nwL (ws.map V.str) H Q
/-! ### promises -/
def sp_parse_integer (K : PySem.W.Frag) : Sp := fun vs H Q _ => ∃ (v : V) (lo hi : Int) (r : V), vs = [v, .int lo, .int hi] ∧ ((∃ z : Str, v = .str z ∧ z.length ≤ 30 ∧ r = pintV z.cps.toList lo hi) ∨ (NotI K H v "str" ∧ r = .non)) ∧ ∀ H', Ex H H' → Q r H'
def sp_split_words (K : PySem.W.Frag) : Sp := fun vs H Q _ => ∃ v : V, vs = [v] ∧ ((∃ z : Str, v = .str z ∧ z.length ≤ 10000 ∧ resW (wordsOf z) H Q) ∨ (NotI K H v "str" ∧ ∀ H', Ex H H' → Q .non H'))
def sp__law_words (K : PySem.W.Frag) : Sp := fun vs H Q _ => ∃ z : Str, vs = [.str z] ∧ z.length ≤ 10000 ∧ resW (wordsOf z) H Q
def vOf : Option Int → V
  | none => .non
  | some n => .int n
def sp__law_value (K : PySem.W.Frag) : Sp := fun vs H Q _ => ∃ z : Str, vs = [.str z] ∧ z.length ≤ 30 ∧ OkS z ∧ ∀ H', Ex H H' → Q (vOf (valL z.cps.toList)) H'
def t_parse_integer (K : PySem.W.Frag) (a : Ad) : TS :=
  (tSeq (tIfS (tOr (tNot (tB (tCB (rIsiU K) (tCons (tVar 0) (tCons (tC (.ty "str")) tNil))))) (tOr (tTest (tOp (rEqU K) (tVar 0) (tC (.str "")))) (tNot (tB (tCB (rAll K) (tCons (tLc (iStr (tVar 0)) (gName 4) tYes (tOp (rInU K) (tVar 4) (tC (.str "0123456789"))) [4]) tNil)))))) (tRet (tC .non)) tNext)
  (tSeq (tIfS (tOr (tAnd (tTest (tOp (rEqU K) (tOp (rIx K) (tVar 0) (tC (.int 0))) (tC (.str "0")))) (tTest (tOp (rNeU K) (tVar 0) (tC (.str "0"))))) (tTest (tOp rGtU (tCB (rLenU K) (tCons (tVar 0) tNil)) (tC (.int 30))))) (tRet (tC .non)) tNext)
  (tSeq (tAsg (tCB rIntU (tCons (tVar 0) tNil)) (gName 3))
  (tRet (tIf (tTest (tChain rLeU rLeU (tVar 1) (tVar 3) (tVar 2))) (tVar 3) (tC .non))))))
def t_split_words (K : PySem.W.Frag) (a : Ad) : TS :=
  (tSeq (tIfS (tOr (tNot (tB (tCB (rIsiU K) (tCons (tVar 0) (tCons (tC (.ty "str")) tNil))))) (tTest (tOp (rInU K) (tC (.str "\n")) (tVar 0)))) (tRet (tC .non)) tNext)
  (tSeq (tAsg (tM1 rSplitU (tVar 0) (tC (.str " "))) (gName 1))
  (tRet (tIf (tTest (tOp (rInU K) (tC (.str "")) (tVar 1))) (tC .non) (tVar 1)))))
def t__law_words (K : PySem.W.Frag) (a : Ad) : TS :=
  (tSeq (tPar 1 2 (tCons (tLstG tNil) (tCons (tC (.str "")) tNil)))
  (tSeq (tFor (iStr (tVar 0)) (gName 3) (tSeq (tIfS (tOr (tTest (tOp (rEqU K) (tVar 3) (tC (.str "\n")))) (tAnd (tTest (tOp (rEqU K) (tVar 3) (tC (.str " ")))) (tTest (tOp (rEqU K) (tVar 2) (tC (.str "")))))) (tRet (tC .non)) tNext)
  (tIfS (tTest (tOp (rEqU K) (tVar 3) (tC (.str " ")))) (tSeq (tDrop (tBM K "list" rAppend (tVar 1) (tCons (tVar 2) tNil)))
  (tAsg (tC (.str "")) (gName 2))) (tAsg (tOp (rAddU K) (tVar 2) (tVar 3)) (gName 2)))))
  (tRet (tIf (tTest (tOp (rEqU K) (tVar 2) (tC (.str "")))) (tC .non) (tOp (rAddU K) (tVar 1) (tLstG (tCons (tVar 2) tNil)))))))
def t__law_value (K : PySem.W.Frag) (a : Ad) : TS :=
  (tSeq (tIfS (tOr (tTest (tOp (rEqU K) (tVar 0) (tC (.str "")))) (tTest (tOp (rNeU K) (tLc (iStr (tVar 0)) (gName 2) (tTest (tOp (rNotInU K) (tVar 2) (tC (.str "0123456789")))) (tVar 2) [2]) (tLstG tNil)))) (tRet (tC .non)) tNext)
  (tSeq (tIfS (tAnd (tTest (tOp (rEqU K) (tOp (rIx K) (tVar 0) (tC (.int 0))) (tC (.str "0")))) (tTest (tOp (rNeU K) (tVar 0) (tC (.str "0"))))) (tRet (tC .non)) tNext)
  (tSeq (tAsg (tC (.int 0)) (gName 1))
  (tSeq (tFor (iStr (tVar 0)) (gName 2) (tAsg (tOp (rAddU K) (tOp rMulU (tC (.int 10)) (tVar 1)) (tM1 rIndexU (tC (.str "0123456789")) (tVar 2))) (gName 1)))
  (tRet (tVar 1))))))
theorem atI_zero {α : Type} (c : α) (r : List α) : atI (c :: r) 0 = some c := by
  unfold atI ixN
  rw [if_pos (by decide), if_pos (by rw [List.length_cons]; omega)]
  rfl
theorem zero_list : ("0" : Str).cps.toList = [48] := by decide +kernel
theorem emp_list : (Str.ofString "").cps.toList = [] := by decide +kernel
theorem str_eq_iff {x y : Str} : x = y ↔ x.cps.toList = y.cps.toList := ⟨fun h => by rw [h], str_ext⟩
theorem dec_str_l {x y : Str} : decide (V.str x = V.str y) = decide (x.cps.toList = y.cps.toList) := by
  rw [decide_eq_decide]
  exact ⟨fun h => by rw [V.str.inj h], fun h => by rw [str_ext h]⟩
theorem rd_parse_integer {K : PySem.W.Frag} {a : Ad} {vs : List V} {H : Hp} {Q : VK} {E : XK} (h : sp_parse_integer K vs H Q E) :
    t_parse_integer K a { nx := fun _ H' => Q .non H', rt := Q } (L2.start N_parse_integer vs) H := by
  obtain ⟨v, lo, hi, r, rfl, h, q⟩ := h
  refine ⟨_, rfl, ?_⟩
  rcases h with ⟨z, rfl, hz, rfl⟩ | ⟨h, rfl⟩
  · have e0 : z.length ≤ sizeLine := line_ge (by omega)
    have hlen := len_cps z
    refine isi_ty (b := true) ty_str (by decide +kernel) ⟨_, rfl, iteF ?_⟩
    refine ⟨_, rfl, .inl ⟨rfl, _, rfl, ?_⟩⟩
    rw [dec_str_l, emp_list]
    unfold pintV at q
    by_cases h1 : z.cps.toList = []
    · rw [decide_eq_true h1]
      have e1 : valL z.cps.toList = none := if_pos (.inl h1)
      rw [e1] at q
      exact q H (Ex.refl H)
    · rw [decide_eq_false h1]
      refine ⟨_, rfl, z, rfl, fun p n1 => lcSD (fun _ => true) (fun c => V.bl (digB c)) (by omega) n1 (fun _ => rfl) (fun c H1 R e1 k => k H1 (Ex.refl H1)) (fun c H1 R e1 _ k => ?_) (fun H1 e1 h1' => ?_)⟩
      · exact ⟨_, rfl, c, rfl, k H1 (Ex.refl H1)⟩
      · refine ⟨p, z.cps.toList.map digB, rfl, SqL.of (by rw [h1', List.filter_eq_self.mpr (fun _ _ => rfl), List.map_map]; rfl), _, rfl, ?_⟩
        have e2 : (z.cps.toList.map digB).all id = z.cps.toList.all digB := by
          rw [List.all_map]
          rfl
        rw [e2]
        by_cases h2 : z.cps.toList.all digB = true
        · rw [h2]
          -- the first sign
          obtain ⟨c0, r0, hc0⟩ : ∃ c r, z.cps.toList = c :: r := by
            cases hq : z.cps.toList with
            | nil => exact absurd hq h1
            | cons c r => exact ⟨c, r, rfl⟩
          refine ⟨_, rfl, ix_S e0 (c := c0) (by rw [hc0]; exact atI_zero _ _) (.inl ⟨rfl, _, rfl, ?_⟩)⟩
          rw [dec_str_l, zero_list, cps_one]
          have nlong : ¬ (30 : Int) < (z.length : Int) := by omega
          have rest : ∀ (hv : ¬ (z.cps.toList.head? = some 48 ∧ z.cps.toList ≠ [48])), tIfS (tTest (tOp rGtU (tCB (rLenU K) (tCons (tVar 0) tNil)) (tC (.int 30)))) (tRet (tC .non)) tNext
              { nx := tSeq (tAsg (tCB rIntU (tCons (tVar 0) tNil)) (gName 3)) (tRet (tIf (tTest (tChain rLeU rLeU (tVar 1) (tVar 3) (tVar 2))) (tVar 3) (tC .non))) { nx := fun _ H' => Q .non H', rt := Q }, rt := Q }
              [some (.str z), some (.int lo), some (.int hi), none, none] H1 := by
            intro hv
            refine ⟨_, rfl, e0, _, rfl, ?_⟩
            rw [decide_eq_false nlong]
            have ev : valL z.cps.toList = some ((NumText.digitsVal z.cps.toList : Nat) : Int) := by
              unfold valL
              rw [if_neg (fun h => h.elim h1 fun h => h h2), if_neg hv]
            rw [ev] at q
            have hAll : NumText.AllDigits z.cps.toList := fun c hc => digB_iff.mp (List.all_eq_true.mp h2 c hc)
            refine ⟨_, rfl, _, PySem.intText_digits hAll h1 (by omega), by omega, ?_⟩
            refine ⟨_, rfl, _, rfl, _, rfl, ?_⟩
            generalize hN : ((NumText.digitsVal z.cps.toList : Nat) : Int) = n at q
            refine ite2 (fun hc => ?_) (fun hc => ?_)
            · have hc' : lo ≤ n := of_decide_eq_true hc
              refine ⟨_, rfl, _, rfl, ?_⟩
              refine ite2 (fun hd => ?_) (fun hd => ?_)
              · have hd' : n ≤ hi := of_decide_eq_true hd
                have q' := q H1 e1
                have q' : Q (if lo ≤ n ∧ n ≤ hi then V.int n else V.non) H1 := q'
                rw [if_pos ⟨hc', hd'⟩] at q'
                exact ⟨_, rfl, q'⟩
              · have hd' : ¬ n ≤ hi := fun z => hd (decide_eq_true z)
                have q' := q H1 e1
                have q' : Q (if lo ≤ n ∧ n ≤ hi then V.int n else V.non) H1 := q'
                rw [if_neg (fun (z : lo ≤ n ∧ n ≤ hi) => hd' z.2)] at q'
                exact q'
            · have hc' : ¬ lo ≤ n := fun z => hc (decide_eq_true z)
              have q' := q H1 e1
              have q' : Q (if lo ≤ n ∧ n ≤ hi then V.int n else V.non) H1 := q'
              rw [if_neg (fun (z : lo ≤ n ∧ n ≤ hi) => hc' z.1)] at q'
              exact ⟨_, rfl, q'⟩
          by_cases h3 : c0 = 48
          · rw [decide_eq_true (by rw [h3])]
            refine ⟨_, rfl, .inl ⟨rfl, _, rfl, ?_⟩⟩
            rw [dec_str_l, zero_list]
            by_cases h4 : z.cps.toList = [48]
            · rw [decide_eq_true h4]
              exact rest fun h => h.2 h4
            · rw [decide_eq_false h4]
              have e5 : valL z.cps.toList = none := by
                unfold valL
                rw [if_neg (fun h => h.elim h1 fun h => h h2), if_pos ⟨by rw [hc0, h3]; rfl, h4⟩]
              rw [e5] at q
              exact q H1 e1
          · rw [decide_eq_false (fun h => h3 (List.cons.inj h).1)]
            refine rest fun h => h3 ?_
            rw [hc0] at h
            exact Option.some.inj h.1
        · rw [Bool.eq_false_iff.mpr h2]
          have e5 : valL z.cps.toList = none := by
            unfold valL
            rw [if_pos (.inr h2)]
          rw [e5] at q
          exact q H1 e1
  · exact h H _ (Ex.refl H) ⟨_, rfl, iteT (q H (Ex.refl H))⟩
end K02

set_option Elab.async false
set_option linter.all false
set_option maxRecDepth 100000
set_option maxHeartbeats 8000000
namespace K02
open PySem PySem.Spec PyProof.Rows L2 CN Evl
theorem nl_str : (Str.ofString "\n") = ⟨#[10]⟩ := by decide +kernel
theorem in_words (ws : List (List Nat)) : inV (.str (Str.ofString "")) ((ws.map ofL).map V.str) = decide ([] ∈ ws) := by
  unfold inV
  rw [Bool.eq_iff_iff, List.any_eq_true, decide_eq_true_eq]
  have e0 : Str.ofString "" = ofL [] := str_ext emp_list
  constructor
  · rintro ⟨v, hv, e⟩
    obtain ⟨y, hy, rfl⟩ := List.mem_map.mp hv
    obtain ⟨l, hl, rfl⟩ := List.mem_map.mp hy
    have e' : (ofL l == Str.ofString "") = true := e
    rw [beq_iff_eq, e0] at e'
    rw [← ofL_inj e']
    exact hl
  · intro h
    refine ⟨V.str (ofL []), List.mem_map.mpr ⟨_, List.mem_map.mpr ⟨[], h, rfl⟩, rfl⟩, ?_⟩
    show (ofL [] == Str.ofString "") = true
    rw [e0, beq_self_eq_true]
theorem flat_strs (ys : List Str) : (ys.map V.str).all flatV = true := by
  rw [List.all_eq_true]
  intro v hv
  obtain ⟨y, _, rfl⟩ := List.mem_map.mp hv
  rfl
theorem rd_split_words {K : PySem.W.Frag} {a : Ad} {vs : List V} {H : Hp} {Q : VK} {E : XK} (h : sp_split_words K vs H Q E) :
    t_split_words K a { nx := fun _ H' => Q .non H', rt := Q } (L2.start N_split_words vs) H := by
  obtain ⟨v, rfl, h⟩ := h
  refine ⟨_, rfl, ?_⟩
  rcases h with ⟨z, rfl, hz, q⟩ | ⟨h, q⟩
  · refine isi_ty (b := true) ty_str (by decide +kernel) ⟨_, rfl, iteF ?_⟩
    refine ⟨_, rfl, 10, by rw [nl_str], _, rfl, ?_⟩
    unfold wordsOf at q
    rw [lw_sp] at q
    by_cases h1 : 10 ∈ z.cps.toList
    · rw [decide_eq_true h1]
      rw [if_pos h1] at q
      exact q H (Ex.refl H)
    · rw [decide_eq_false h1]
      rw [if_neg h1] at q
      refine ⟨_, rfl, ⟨_, rfl⟩, _, _, rfl, rfl, (by decide +kernel), ?_, fun p H1 n1 e1 h2 => ?_⟩
      · rw [sizeLine_eq]
        omega
      · rw [split_is] at h2
        refine ⟨_, rfl, p, _, rfl, .inl (SqL.of h2), rfl, flat_strs _, _, rfl, ?_⟩
        show if inV (V.str (Str.ofString "")) (((spW [] z.cps.toList).map ofL).map V.str) = true then _ else _
        rw [in_words]
        by_cases h3 : [] ∈ spW [] z.cps.toList
        · rw [if_pos h3] at q
          rw [decide_eq_true h3]
          exact q H1 e1
        · rw [if_neg h3] at q
          rw [decide_eq_false h3]
          exact ⟨_, rfl, q p H1 n1 e1 h2⟩
  · exact h H _ (Ex.refl H) ⟨_, rfl, iteT (q H (Ex.refl H))⟩
/-- the state of the loop over the signs -/
theorem lw_step {w : List Nat} {c : Nat} {r : List Nat} (h : ¬ (c = 10 ∨ (c = 32 ∧ w = []))) : lwR w (c :: r) = if c = 32 then (lwR [] r).map (w :: ·) else lwR (w ++ [c]) r := by
  show (if c = 10 ∨ (c = 32 ∧ w = []) then none else _) = _
  rw [if_neg h]
theorem one_str (c d : Nat) : decide (V.str (⟨#[c]⟩ : Str) = V.str ⟨#[d]⟩) = decide (c = d) := by
  rw [dec_str_l, cps_one, cps_one, decide_eq_decide]
  exact ⟨fun h => (List.cons.inj h).1, fun h => by rw [h]⟩
theorem sp_str : (Str.ofString " ") = ⟨#[32]⟩ := by decide +kernel
theorem rd__law_words {K : PySem.W.Frag} {a : Ad} {vs : List V} {H : Hp} {Q : VK} {E : XK} (h : sp__law_words K vs H Q E) :
    t__law_words K a { nx := fun _ H' => Q .non H', rt := Q } (L2.start N__law_words vs) H := by
  obtain ⟨z, rfl, hz, q⟩ := h
  have hlen := len_cps z
  refine ⟨(by show 0 ≤ sizeLine; decide), fun p H1 n1 e1 h1 => ⟨_, _, rfl, ?_⟩⟩
  refine ⟨_, rfl, z, rfl, ?_⟩
  refine for_it walk_str (fun i σ H' => ∃ (fs : List (List Nat)) (w : List Nat) (x3 : Option V), σ = [some (.str z), some (.ref p), some (.str (ofL w)), x3] ∧ H' p = some (.lst ((fs.map ofL).map V.str)) ∧ Ex H H' ∧ fs.length ≤ i ∧ w.length ≤ i ∧
      lwR [] z.cps.toList = (lwR w (z.cps.toList.drop i)).map (fs ++ ·))
    ⟨[], [], none, ?_, h1, e1, Nat.le_refl _, Nat.le_refl _, ?_⟩ (fun _ _ _ _ _ => trivial) ?_ ?_
  · have e0 : Str.ofString "" = ofL [] := str_ext emp_list
    rw [← e0]
    rfl
  · rw [List.drop_zero]
    cases lwR [] z.cps.toList <;> rfl
  · rintro i x σ H2 H3 hi ⟨fs, w, x3, rfl, g1, g2, g3, g4, g5⟩ ⟨rfl, c, hc, rfl⟩
    have hi' : i < z.cps.toList.length := by
      rw [Array.length_toList]
      exact hi
    have hc' : z.cps.toList[i]? = some c := by
      rw [Array.getElem?_toList]
      exact hc
    have ed : z.cps.toList.drop i = c :: z.cps.toList.drop (i + 1) := by
      rw [List.drop_eq_getElem_cons hi']
      rw [List.getElem?_eq_getElem hi'] at hc'
      rw [Option.some.inj hc']
    rw [ed] at g5
    have hwe : decide (V.str (ofL w) = V.str (Str.ofString "")) = decide (w = []) := by
      rw [dec_str_l, emp_list, ofL_cps]
    -- the test
    refine ⟨_, rfl, .inl ⟨rfl, _, rfl, ?_⟩⟩
    rw [nl_str, one_str]
    have goon : ∀ hn : ¬ (c = 10 ∨ (c = 32 ∧ w = [])), tIfS (tTest (tOp (rEqU K) (tVar 3) (tC (.str " ")))) (tSeq (tDrop (tBM K "list" rAppend (tVar 1) (tCons (tVar 2) tNil))) (tAsg (tC (.str "")) (gName 2))) (tAsg (tOp (rAddU K) (tVar 2) (tVar 3)) (gName 2))
        { nx := fun σ H' => ∃ (fs : List (List Nat)) (w : List Nat) (x3 : Option V), σ = [some (.str z), some (.ref p), some (.str (ofL w)), x3] ∧ H' p = some (.lst ((fs.map ofL).map V.str)) ∧ Ex H H' ∧ fs.length ≤ i + 1 ∧ w.length ≤ i + 1 ∧
            lwR [] z.cps.toList = (lwR w (z.cps.toList.drop (i + 1))).map (fs ++ ·), rt := Q }
        [some (.str z), some (.ref p), some (.str (ofL w)), some (.str ⟨#[c]⟩)] H3 := by
      intro hn
      rw [lw_step hn] at g5
      refine ⟨_, rfl, .inl ⟨rfl, _, rfl, ?_⟩⟩
      rw [sp_str, one_str]
      by_cases h32 : c = 32
      · rw [decide_eq_true h32]
        rw [if_pos h32] at g5
        refine ⟨_, rfl, .inl ⟨rfl, _, SqL.of g1⟩, _, rfl, p, _, _, rfl, rfl, g1, ?_, ?_⟩
        · rw [List.length_map, List.length_map, sizeLine_eq]
          omega
        · refine ⟨fs ++ [w], [], some (.str ⟨#[c]⟩), ?_, ?_, Ex.mut g2 n1, ?_, Nat.zero_le _, ?_⟩
          · have e0 : Str.ofString "" = ofL [] := str_ext emp_list
            rw [← e0]
            rfl
          · rw [upd_same, List.map_append, List.map_append]
            rfl
          · rw [List.length_append]
            show fs.length + 1 ≤ i + 1
            omega
          · rw [g5]
            cases lwR [] (z.cps.toList.drop (i + 1)) with
            | none => rfl
            | some ws =>
              show some (fs ++ w :: ws) = some (fs ++ [w] ++ ws)
              simp
      · rw [decide_eq_false h32]
        rw [if_neg h32] at g5
        have ea : ofL w ++ (⟨#[c]⟩ : Str) = ofL (w ++ [c]) := str_ext (by rw [cps_app]; rfl)
        have hwl : (ofL w).length = w.length := by rw [← len_cps, ofL_cps]
        refine ⟨_, rfl, _, rfl, ?_, fs, w ++ [c], some (.str ⟨#[c]⟩), ?_, g1, g2, by omega, ?_, g5⟩
        · rw [hwl]
          show w.length + 1 ≤ sizeLine
          rw [sizeLine_eq]
          omega
        · rw [← ea]
          rfl
        · rw [List.length_append]
          show w.length + 1 ≤ i + 1
          omega
    by_cases h10 : c = 10
    · rw [decide_eq_true h10]
      have e5 : wordsOf z = none := by
        unfold wordsOf
        rw [g5]
        show ((if c = 10 ∨ (c = 32 ∧ w = []) then none else _ : Option (List (List Nat))).map _).map _ = none
        rw [if_pos (.inl h10)]
        rfl
      rw [e5] at q
      exact q H3 g2
    · rw [decide_eq_false h10]
      refine ⟨_, rfl, .inl ⟨rfl, _, rfl, ?_⟩⟩
      rw [sp_str, one_str]
      by_cases h32 : c = 32
      · rw [decide_eq_true h32]
        refine ⟨_, rfl, .inl ⟨rfl, _, rfl, ?_⟩⟩
        rw [hwe]
        by_cases hw : w = []
        · rw [decide_eq_true hw]
          have e5 : wordsOf z = none := by
            unfold wordsOf
            rw [g5]
            show ((if c = 10 ∨ (c = 32 ∧ w = []) then none else _ : Option (List (List Nat))).map _).map _ = none
            rw [if_pos (.inr ⟨h32, hw⟩)]
            rfl
          rw [e5] at q
          exact q H3 g2
        · rw [decide_eq_false hw]
          exact goon fun h => h.elim h10 fun h => hw h.2
      · rw [decide_eq_false h32]
        exact goon fun h => h.elim h10 fun h => h32 h.1
  · rintro σ H2 ⟨fs, w, x3, rfl, g1, g2, g3, g4, g5⟩
    have hwe : decide (V.str (ofL w) = V.str (Str.ofString "")) = decide (w = []) := by
      rw [dec_str_l, emp_list, ofL_cps]
    have ed : z.cps.toList.drop z.cps.size = [] := by
      rw [List.drop_eq_nil_iff, Array.length_toList]
      exact Nat.le_refl _
    rw [ed] at g5
    have g5' : lwR [] z.cps.toList = (if w = [] then none else some [w] : Option (List (List Nat))).map (fs ++ ·) := g5
    refine ⟨_, rfl, .inl ⟨rfl, _, rfl, ?_⟩⟩
    rw [hwe]
    unfold wordsOf at q
    rw [g5'] at q
    by_cases hw : w = []
    · rw [decide_eq_true hw]
      rw [if_pos hw] at q
      exact q H2 g2
    · rw [decide_eq_false hw]
      rw [if_neg hw] at q
      refine ⟨_, rfl, _, rfl, (by show 1 ≤ sizeLine; decide), fun p2 H3 n3 e3 h3 => ?_⟩
      refine .inl ⟨p, p2, _, _, rfl, rfl, e3 _ _ g1, h3, ?_, fun p4 H4 n4 e4 h4 => ?_⟩
      · rw [List.length_map, List.length_map, sizeLine_eq]
        show fs.length + 1 ≤ _
        have : fs.length ≤ z.cps.size := g3
        have : z.cps.size = z.length := rfl
        omega
      · refine q p4 H4 (fresh_back (g2.trans e3) n4) ((g2.trans e3).trans e4) ?_
        rw [h4, List.map_append, List.map_append]
        rfl
end K02

set_option Elab.async false
set_option linter.all false
set_option maxRecDepth 100000
set_option maxHeartbeats 8000000
namespace K02
open PySem PySem.Spec PyProof.Rows L2 CN Evl
/-! ### the law's value -/
theorem occ10 : ∀ k : Fin 10, Builtin.Str.occurrences digs ⟨#[48 + k.val]⟩ 0 digs.length 1 = [k.val] := by decide +kernel
theorem occ_dig {c : Nat} (h : digB c = true) : Builtin.Str.occurrences digs ⟨#[c]⟩ 0 digs.length 1 = [c - 48] := by
  have h1 := digB_iff.mp h
  have h2 := occ10 ⟨c - 48, by omega⟩
  have e : 48 + (c - 48) = c := by omega
  rw [e] at h2
  exact h2
theorem dv_more {l : List Nat} {i c : Nat} (h : l[i]? = some c) : NumText.digitsVal (l.take (i + 1)) = NumText.digitsVal (l.take i) * 10 + (c - 48) := by
  unfold NumText.digitsVal
  rw [List.take_add_one, h, List.foldl_append]
  rfl
theorem rd__law_value {K : PySem.W.Frag} {a : Ad} {vs : List V} {H : Hp} {Q : VK} {E : XK} (h : sp__law_value K vs H Q E) :
    t__law_value K a { nx := fun _ H' => Q .non H', rt := Q } (L2.start N__law_value vs) H := by
  obtain ⟨z, rfl, hz, hok, q⟩ := h
  have e0 : z.length ≤ sizeLine := line_ge (by omega)
  have hlen := len_cps z
  refine ⟨_, rfl, .inl ⟨rfl, _, rfl, ?_⟩⟩
  rw [dec_str_l, emp_list]
  by_cases h1 : z.cps.toList = []
  · rw [decide_eq_true h1]
    have e1 : valL z.cps.toList = none := if_pos (.inl h1)
    rw [e1] at q
    exact q H (Ex.refl H)
  · rw [decide_eq_false h1]
    refine ⟨_, rfl, z, rfl, fun p n1 => lcSD (fun c => !digB c) (fun c => V.str ⟨#[c]⟩) (by omega) n1 (fun _ => rfl) (fun c H1 R e1 k => ?_) (fun c H1 R e1 _ k => ⟨_, rfl, k H1 (Ex.refl H1)⟩) (fun H1 e1 h1' => ?_)⟩
    · exact ⟨_, rfl, c, rfl, _, rfl, k H1 (Ex.refl H1)⟩
    · refine ⟨(by show 0 ≤ sizeLine; decide), fun p2 H2 n2 e2 h2 => ?_⟩
      have hm : (z.cps.toList.filter fun c => !digB c).map (fun c => V.str ⟨#[c]⟩) = ((z.cps.toList.filter fun c => !digB c).map fun c => (⟨#[c]⟩ : Str)).map V.str := by
        rw [List.map_map]
        rfl
      rw [hm] at h1'
      generalize hys : ((z.cps.toList.filter fun c => !digB c).map fun c => (⟨#[c]⟩ : Str)) = ys at h1'
      have hyo : ∀ y ∈ ys, OkS y := by
        intro y hy
        rw [← hys] at hy
        obtain ⟨c, hc, rfl⟩ := List.mem_map.mp hy
        exact okS_one (hok c (List.mem_filter.mp hc).1)
      have hye : ys.isEmpty = z.cps.toList.all digB := by
        rw [← hys, List.isEmpty_map, Bool.eq_iff_iff, List.isEmpty_iff, List.filter_eq_nil_iff, List.all_eq_true]
        constructor
        · intro h c hc
          have := h c hc
          simpa using this
        · intro h c hc
          simp [h c hc]
      refine .inr ⟨.list (ys.map PyData.str), .list [], .lst (SqL.of (e2 _ _ h1')) (dpAll_str ys), .lst (SqL.of h2) .nil, shaped_strs hyo, (by decide +kernel), _, rfl, ?_⟩
      rw [eqv_nil, List.isEmpty_map, hye]
      have e12 := e1.trans e2
      by_cases hd : z.cps.toList.all digB = true
      · rw [hd]
        obtain ⟨c0, r0, hc0⟩ : ∃ c r, z.cps.toList = c :: r := by
          cases hq : z.cps.toList with
          | nil => exact absurd hq h1
          | cons c r => exact ⟨c, r, rfl⟩
        refine ⟨_, rfl, ix_S e0 (c := c0) (by rw [hc0]; exact atI_zero _ _) (.inl ⟨rfl, _, rfl, ?_⟩)⟩
        rw [dec_str_l, zero_list, cps_one]
        have rest : ∀ (hv : ¬ (z.cps.toList.head? = some 48 ∧ z.cps.toList ≠ [48])), tSeq (tAsg (tC (.int 0)) (gName 1)) (tSeq (tFor (iStr (tVar 0)) (gName 2) (tAsg (tOp (rAddU K) (tOp rMulU (tC (.int 10)) (tVar 1)) (tM1 rIndexU (tC (.str "0123456789")) (tVar 2))) (gName 1))) (tRet (tVar 1)))
            { nx := fun _ H' => Q .non H', rt := Q } [some (.str z), none, none] H2 := by
          intro hv
          have ev : valL z.cps.toList = some ((NumText.digitsVal z.cps.toList : Nat) : Int) := by
            unfold valL
            rw [if_neg (fun h => h.elim h1 fun h => h hd), if_neg hv]
          rw [ev] at q
          refine ⟨_, rfl, z, rfl, ?_⟩
          refine for_it walk_str (fun i σ H' => ∃ x2 : Option V, σ = [some (.str z), some (.int ((NumText.digitsVal (z.cps.toList.take i) : Nat) : Int)), x2] ∧ H' = H2)
            ⟨none, rfl, rfl⟩ (fun _ _ _ _ _ => trivial) ?_ ?_
          · rintro i x σ H3 H4 hi ⟨x2, rfl, rfl⟩ ⟨rfl, c, hc, rfl⟩
            have hc' : z.cps.toList[i]? = some c := by
              rw [Array.getElem?_toList]
              exact hc
            have hcd : digB c = true := List.all_eq_true.mp hd c (List.mem_of_getElem? hc')
            refine ⟨_, rfl, .inl ⟨by decide, by decide⟩, ⟨_, rfl⟩, _, rfl, digs, ⟨#[c]⟩, c - 48, [], rfl, rfl, occ_dig hcd, some (.str ⟨#[c]⟩), ?_, rfl⟩
            rw [dv_more hc']
            show [some (V.str z), some (V.int (10 * ((NumText.digitsVal (z.cps.toList.take i) : Nat) : Int) + ((c - 48 : Nat) : Int))), some (V.str ⟨#[c]⟩)] = _
            have ee : 10 * ((NumText.digitsVal (z.cps.toList.take i) : Nat) : Int) + ((c - 48 : Nat) : Int) = ((NumText.digitsVal (z.cps.toList.take i) * 10 + (c - 48) : Nat) : Int) := by omega
            rw [ee]
          · rintro σ H3 ⟨x2, rfl, rfl⟩
            have et : z.cps.toList.take z.cps.size = z.cps.toList := by
              rw [← Array.length_toList]
              exact List.take_length
            rw [et]
            exact ⟨_, rfl, q H3 e12⟩
        by_cases h3 : c0 = 48
        · rw [decide_eq_true (by rw [h3])]
          refine ⟨_, rfl, .inl ⟨rfl, _, rfl, ?_⟩⟩
          rw [dec_str_l, zero_list]
          by_cases h4 : z.cps.toList = [48]
          · rw [decide_eq_true h4]
            exact rest fun h => h.2 h4
          · rw [decide_eq_false h4]
            have e5 : valL z.cps.toList = none := by
              unfold valL
              rw [if_neg (fun h => h.elim h1 fun h => h hd), if_pos ⟨by rw [hc0, h3]; rfl, h4⟩]
            rw [e5] at q
            exact q H2 e12
        · rw [decide_eq_false (fun h => h3 (List.cons.inj h).1)]
          refine rest fun h => h3 ?_
          rw [hc0] at h
          exact Option.some.inj h.1
      · rw [Bool.eq_false_iff.mpr hd]
        have e5 : valL z.cps.toList = none := by
          unfold valL
          rw [if_pos (.inr hd)]
        rw [e5] at q
        exact q H2 e12
/-! ### the law's text -/
def sp__law_text (K : PySem.W.Frag) : Sp := fun vs H Q _ => ∃ (b : Addr) (m : Int), vs = [.ref b] ∧ BoxAt H b m ∧ m + 200 ≤ 1099511627776 ∧
  ∀ (z : Str) (H' : Hp), z.length ≤ 30 → OkS z → ExBx b H H' → BoxAt H' b (m + 20) → Q (.str z) H'
def t__law_text (K : PySem.W.Frag) (a : Ad) : TS :=
  (tSeq (tAsg (tLstG (tCons (tCall (sp__law_take K) [] E0 (tCons (tVar 0) (tCons (tC (.int 12)) tNil))) (tCons (tCall (sp__law_take K) [] E0 (tCons (tVar 0) (tCons (tC (.int 1100)) tNil))) (tCons (tOp (rAddU K) (tOp rMulU (tCall (sp__law_take K) [] E0 (tCons (tVar 0) (tCons (tOp rPowI (tC (.int 10)) (tC (.int 8))) tNil))) (tOp rPowI (tC (.int 10)) (tC (.int 21)))) (tCall (sp__law_take K) [] E0 (tCons (tVar 0) (tCons (tOp rPowI (tC (.int 10)) (tC (.int 8))) tNil)))) tNil)))) (gName 1))
  (tSeq (tAsg (tCB rStrI (tCons (tOp (rIx K) (tVar 1) (tCall (sp__law_take K) [] E0 (tCons (tVar 0) (tCons (tC (.int 3)) tNil)))) tNil)) (gName 2))
  (tSeq (tAsg (tCall (sp__law_take K) [] E0 (tCons (tVar 0) (tCons (tOp (rAddU K) (tCB (rLenU K) (tCons (tVar 2) tNil)) (tC (.int 1))) tNil))) (gName 3))
  (tSeq (tAsg (tOp (rIx K) (tC (.str "0123456789-+ ._a\n")) (tCall (sp__law_take K) [] E0 (tCons (tVar 0) (tCons (tC (.int 17)) tNil)))) (gName 4))
  (tSeq (tAsg (tLstG (tCons (tVar 2) (tCons (tVar 2) (tCons (tOp (rAddU K) (tOp (rAddU K) (tSl (rSlU K) (tVar 2) tNoPart (tPart (tVar 3))) (tVar 4)) (tSl (rSlU K) (tVar 2) (tPart (tVar 3)) tNoPart)) (tCons (tOp (rAddU K) (tOp (rAddU K) (tSl (rSlU K) (tVar 2) tNoPart (tPart (tVar 3))) (tVar 4)) (tSl (rSlU K) (tVar 2) (tPart (tOp (rAddU K) (tVar 3) (tC (.int 1)))) tNoPart)) (tCons (tOp (rAddU K) (tC (.str "0")) (tVar 2)) (tCons (tOp (rAddU K) (tC (.str "-")) (tVar 2)) (tCons (tC (.str "")) tNil)))))))) (gName 5))
  (tRet (tOp (rIx K) (tVar 5) (tCall (sp__law_take K) [] E0 (tCons (tVar 0) (tCons (tC (.int 7)) tNil))))))))))
def sg17 : Str := "0123456789-+ ._a\n"
theorem sg17_len : sg17.cps.toList.length = 17 := by decide +kernel
theorem sg17_le : sg17.length ≤ sizeLine := by decide +kernel
theorem sg17_ok : OkS sg17 := okS_dec (by decide +kernel)
theorem p8 : (10 : Int) ^ (8 : Int).toNat = 100000000 := by decide
theorem p21 : (10 : Int) ^ (21 : Int).toNat = 1000000000000000000000 := by decide
theorem p29 : (10 : Int) ^ (29 : Int).toNat = 100000000000000000000000000000 := by decide
theorem upto_len (z : Str) {k : Int} (h : 0 ≤ k) (h2 : k ≤ z.length) : ((cutS z none (some k)).length : Int) = k := by
  rw [← len_cps, cps_upto z h, List.length_take, len_cps]
  omega
theorem from_len (z : Str) {k : Int} (h : 0 ≤ k) : ((cutS z (some k) none).length : Int) ≤ (z.length : Int) - k ∨ (cutS z (some k) none).length = 0 := by
  rw [← len_cps (cutS z (some k) none), cps_from z h, List.length_drop, len_cps]
  omega
theorem rd__law_text {K : PySem.W.Frag} {a : Ad} {vs : List V} {H : Hp} {Q : VK} {E : XK} (h : sp__law_text K vs H Q E) :
    t__law_text K a { nx := fun _ H' => Q .non H', rt := Q } (L2.start N__law_text vs) H := by
  obtain ⟨b, m, rfl, B, hm, k⟩ := h
  refine ⟨_, rfl, b, _, _, rfl, B, by omega, by decide, by decide, fun d1 H1 a1 b1 e1 B1 => ?_⟩
  refine ⟨_, rfl, b, _, _, rfl, B1, by omega, by decide, by decide, fun d2 H2 a2 b2 e2 B2 => ?_⟩
  refine ⟨_, rfl, ⟨by decide, by decide, by decide⟩, b, _, _, rfl, B2, by omega, by decide, by decide, fun d3 H3 a3 b3 e3 B3 => ?_⟩
  rw [p8] at b3
  refine ⟨⟨by decide, by decide, by decide⟩, .inl ⟨by omega, by omega⟩, ?_⟩
  refine ⟨_, rfl, ⟨by decide, by decide, by decide⟩, b, _, _, rfl, B3, by omega, by decide, by decide, fun d4 H4 a4 b4 e4 B4 => ?_⟩
  rw [p8] at b4
  refine ⟨(by show 3 ≤ sizeLine; decide), fun p5 H5 n5 e5 h5 => ?_⟩
  have B5 := B4.ex e5
  have np5 : p5 ≠ b := B4.ne n5
  refine ⟨_, rfl, _, rfl, b, _, _, rfl, B5, by omega, by decide, by decide, fun d6 H6 a6 b6 e6 B6 => ?_⟩
  obtain ⟨v, ev, hv⟩ := atI_some (xs := [V.int d1, V.int d2, V.int (d3 * 10 ^ (21 : Int).toNat + d4)]) (i := d6) a6 b6
  have hv' : ∃ n : Int, v = .int n ∧ 0 ≤ n ∧ n < 10 ^ 29 := by
    rw [p21] at hv
    simp only [List.mem_cons, List.not_mem_nil, or_false] at hv
    rcases hv with h | h | h
    · exact ⟨_, h, by omega, by omega⟩
    · exact ⟨_, h, by omega, by omega⟩
    · exact ⟨_, h, by omega, by omega⟩
  obtain ⟨n, rfl, hn0, hn1⟩ := hv'
  refine ix_l (e6 _ _ np5 h5) ev ⟨log_lt (k := 100) (by omega) (by decide), ?_⟩
  have hl : (Str.ofString (toString n)).length ≤ 29 := str_int_len (k := 28) hn0 hn1
  have hok : OkS (Str.ofString (toString n)) := str_int_ok hn0
  generalize hT : Str.ofString (toString n) = t at hl hok
  refine ⟨_, rfl, _, rfl, line_ge (by omega), b, _, _, rfl, B6, by omega, by omega, by omega, fun d7 H7 a7 b7 e7 B7 => ?_⟩
  refine ⟨_, rfl, b, _, _, rfl, B7, by omega, by decide, by decide, fun d8 H8 a8 b8 e8 B8 => ?_⟩
  obtain ⟨c, ec, mc⟩ := atI_some (xs := sg17.cps.toList) (i := d8) a8 (by rw [sg17_len]; exact b8)
  refine ix_S (z := sg17) sg17_le ec ?_
  have hc : (⟨#[c]⟩ : Str).length = 1 := rfl
  have hco : OkS ⟨#[c]⟩ := okS_one (sg17_ok c mc)
  have c1 := upto_len t a7 (by omega)
  have c2 := from_len t (k := d7 + 1) (by omega)
  have c3 := from_len t (k := d7) a7
  have tl : t.length ≤ sizeLine := line_ge (by omega)
  refine ⟨_, rfl, _, rfl, ?_⟩
  refine ⟨_, rfl, _, rfl, _, rfl, tl, ?_⟩
  refine ⟨_, rfl, line_ge (by omega), ?_⟩
  refine ⟨_, rfl, _, rfl, _, rfl, tl, line_ge (by rw [app_len]; omega), ?_⟩
  refine ⟨_, rfl, _, rfl, _, rfl, tl, ?_⟩
  refine ⟨_, rfl, line_ge (by omega), ?_⟩
  refine ⟨_, rfl, _, rfl, _, rfl, tl, line_ge (by rw [app_len]; omega), ?_⟩
  have z1 : (Str.ofString "0").length = 1 := by decide +kernel
  have z2 : (Str.ofString "-").length = 1 := by decide +kernel
  refine ⟨_, rfl, line_ge (by omega), _, rfl, line_ge (by omega), ?_⟩
  refine ⟨(by show 7 ≤ sizeLine; decide), fun p9 H9 n9 e9 h9 => ?_⟩
  have B9 := B8.ex e9
  have np9 : p9 ≠ b := B8.ne n9
  refine ⟨_, rfl, _, rfl, b, _, _, rfl, B9, by omega, by decide, by decide, fun d10 H10 a10 b10 e10 B10 => ?_⟩
  obtain ⟨v, ev, hv⟩ := atI_some (xs := [V.str t, V.str t, V.str (cutS t none (some d7) ++ ⟨#[c]⟩ ++ cutS t (some d7) none), V.str (cutS t none (some d7) ++ ⟨#[c]⟩ ++ cutS t (some (d7 + 1)) none), V.str (Str.ofString "0" ++ t), V.str (Str.ofString "-" ++ t), V.str (Str.ofString "")]) (i := d10) a10 b10
  have hv' : ∃ z : Str, v = .str z ∧ z.length ≤ 30 ∧ OkS z := by
    simp only [List.mem_cons, List.not_mem_nil, or_false] at hv
    rcases hv with h | h | h | h | h | h | h
    · exact ⟨_, h, by omega, hok⟩
    · exact ⟨_, h, by omega, hok⟩
    · exact ⟨_, h, by rw [app_len, app_len]; omega, okS_app (okS_app (okS_cut hok) hco) (okS_cut hok)⟩
    · exact ⟨_, h, by rw [app_len, app_len]; omega, okS_app (okS_app (okS_cut hok) hco) (okS_cut hok)⟩
    · exact ⟨_, h, by rw [app_len]; omega, okS_app (okS_dec (by decide +kernel)) hok⟩
    · exact ⟨_, h, by rw [app_len]; omega, okS_app (okS_dec (by decide +kernel)) hok⟩
    · exact ⟨_, h, by decide +kernel, okS_dec (by decide +kernel)⟩
  obtain ⟨z, rfl, hz, hzo⟩ := hv'
  refine ix_l (e10 _ _ np9 h9) ev ?_
  exact k _ _ hz hzo ((((((((e1.trans e2).trans e3).trans e4).ex e5).trans e6).trans e7).trans e8).ex e9 |>.trans e10) (B10.mono (by omega))
end K02

set_option Elab.async false
set_option linter.all false
set_option maxRecDepth 100000
set_option maxHeartbeats 8000000
namespace K02
open PySem PySem.Spec PyProof.Rows L2 CN Evl
/-! ### the law's line -/
def sp__law_line (K : PySem.W.Frag) : Sp := fun vs H Q _ => ∃ (b : Addr) (m : Int), vs = [.ref b] ∧ BoxAt H b m ∧ m + 200 ≤ 1099511627776 ∧
  ∀ (z : Str) (H' : Hp), z.length ≤ 100 → OkS z → ExBx b H H' → BoxAt H' b (m + 50) → Q (.str z) H'
def t__law_line (K : PySem.W.Frag) (a : Ad) : TS :=
  (tSeq (tAsg (tC (.str "abcdefghijklmnopqrstuvwxyz0123456789ABCDEFGHIJKLMNOPQRSTUVWXYZ!#$&()*+,-./:;<=>?\x40[]^_{|}~'")) (gName 1))
  (tSeq (tAsg (tOp (rAddU K) (tOp (rAddU K) (tOp (rAddU K) (tVar 1) (tC (.str "`"))) (tC (.str "\""))) (tC (.str "\\"))) (gName 1))
  (tSeq (tAsg (tLstG tNil) (gName 2))
  (tSeq (tFor (iRng1 (tCons (tOp (rAddU K) (tC (.int 1)) (tCall (sp__law_take K) [] E0 (tCons (tVar 0) (tCons (tC (.int 5)) tNil)))) tNil)) (gName 3) (tDrop (tBM K "list" rAppend (tVar 2) (tCons (tM1 (rJoinU K) (tC (.str "")) (tLc (iRng1 (tCons (tOp (rAddU K) (tC (.int 1)) (tCall (sp__law_take K) [] E0 (tCons (tVar 0) (tCons (tC (.int 4)) tNil)))) tNil)) (gName 7) tYes (tOp (rIx K) (tVar 1) (tCall (sp__law_take K) [] E0 (tCons (tVar 0) (tCons (tCB (rLenU K) (tCons (tVar 1) tNil)) tNil)))) [7])) tNil))))
  (tSeq (tAsg (tM1 (rJoinU K) (tC (.str " ")) (tVar 2)) (gName 4))
  (tSeq (tAsg (tCall (sp__law_take K) [] E0 (tCons (tVar 0) (tCons (tOp (rAddU K) (tCB (rLenU K) (tCons (tVar 4) tNil)) (tC (.int 1))) tNil))) (gName 5))
  (tSeq (tAsg (tLstG (tCons (tVar 4) (tCons (tVar 4) (tCons (tVar 4) (tCons (tOp (rAddU K) (tC (.str " ")) (tVar 4)) (tCons (tOp (rAddU K) (tVar 4) (tC (.str " "))) (tCons (tOp (rAddU K) (tOp (rAddU K) (tSl (rSlU K) (tVar 4) tNoPart (tPart (tVar 5))) (tC (.str " "))) (tSl (rSlU K) (tVar 4) (tPart (tVar 5)) tNoPart)) (tCons (tOp (rAddU K) (tOp (rAddU K) (tSl (rSlU K) (tVar 4) tNoPart (tPart (tVar 5))) (tC (.str "\n"))) (tSl (rSlU K) (tVar 4) (tPart (tVar 5)) tNoPart)) (tCons (tC (.str "")) tNil))))))))) (gName 6))
  (tRet (tOp (rIx K) (tVar 6) (tCall (sp__law_take K) [] E0 (tCons (tVar 0) (tCons (tC (.int 8)) tNil))))))))))))
def sgA : Str := "abcdefghijklmnopqrstuvwxyz0123456789ABCDEFGHIJKLMNOPQRSTUVWXYZ!#$&()*+,-./:;<=>?\x40[]^_{|}~'"
def sgB : Str := sgA ++ Str.ofString "`" ++ Str.ofString "\"" ++ Str.ofString "\\"
theorem sgB_len : 0 < sgB.length ∧ sgB.length ≤ 200 := by decide +kernel
theorem sgB_ok : OkS sgB := okS_dec (by decide +kernel)
theorem join_bnd {sep : Str} : ∀ ys : List Str, (∀ y ∈ ys, y.length ≤ 4) → (Str.join sep ys).length ≤ ys.length * (4 + sep.length)
  | [], _ => by
    show 0 ≤ _
    omega
  | [y], h => by
    have h1 := h y (List.mem_cons_self ..)
    show y.length ≤ 1 * _
    omega
  | y :: w :: r, h => by
    have h1 := h y (List.mem_cons_self ..)
    have h2 := join_bnd (sep := sep) (w :: r) fun x hx => h x (List.mem_cons_of_mem _ hx)
    show (y ++ sep ++ Str.join sep (w :: r)).length ≤ (r.length + 1 + 1) * (4 + sep.length)
    rw [app_len, app_len]
    have h3 : (Str.join sep (w :: r)).length ≤ (r.length + 1) * (4 + sep.length) := h2
    have h4 : (r.length + 1 + 1) * (4 + sep.length) = (r.length + 1) * (4 + sep.length) + (4 + sep.length) := Nat.succ_mul _ _
    omega
theorem join_ok {sep : Str} (hs : OkS sep) : ∀ ys : List Str, (∀ y ∈ ys, OkS y) → OkS (Str.join sep ys)
  | [], _ => fun c hc => by cases hc
  | [y], h => h y (List.mem_cons_self ..)
  | y :: w :: r, h => okS_app (okS_app (h y (List.mem_cons_self ..)) hs) (join_ok hs (w :: r) fun x hx => h x (List.mem_cons_of_mem _ hx))
theorem sum_bnd : ∀ ys : List Str, (∀ y ∈ ys, y.length ≤ 4) → (ys.map (·.length)).sum ≤ ys.length * 4
  | [], _ => Nat.le_refl _
  | y :: r, h => by
    have h1 := h y (List.mem_cons_self ..)
    have h2 := sum_bnd r fun x hx => h x (List.mem_cons_of_mem _ hx)
    show y.length + (r.map (·.length)).sum ≤ (r.length + 1) * 4
    omega
theorem rd__law_line {K : PySem.W.Frag} {a : Ad} {vs : List V} {H : Hp} {Q : VK} {E : XK} (h : sp__law_line K vs H Q E) :
    t__law_line K a { nx := fun _ H' => Q .non H', rt := Q } (L2.start N__law_line vs) H := by
  obtain ⟨b, m, rfl, B, hm, k⟩ := h
  refine ⟨_, rfl, (by decide +kernel), (by decide +kernel), (by decide +kernel), ?_⟩
  refine ⟨(by show 0 ≤ sizeLine; decide), fun p H1 n1 e1 h1 => ?_⟩
  have B1 := B.ex e1
  have npb : p ≠ b := B.ne n1
  refine ⟨_, rfl, b, _, _, rfl, B1, by omega, by decide, by decide, fun d2 H2 a2 b2 e2 B2 => ?_⟩
  refine ⟨1 + d2, rfl, by omega, by omega, ?_⟩
  refine for_range (lo := 0) (n := (1 + d2).toNat) (fun i σ H' => ∃ (ys : List Str) (x3 x7 : Option V), σ = [some (.ref b), some (.str sgB), some (.ref p), x3, none, none, none, x7] ∧ H' p = some (.lst (ys.map V.str)) ∧ ys.length = i ∧ (∀ y ∈ ys, y.length ≤ 4 ∧ OkS y) ∧
      ExBx b H H' ∧ BoxAt H' b (m + 1 + 6 * i))
    ⟨[], none, none, rfl, e2 _ _ npb h1, rfl, (by simp), (fun x o n h => e2 x o n (e1 x o h)), B2.mono (by omega)⟩ ?_ ?_
  · rintro i σ H3 hi ⟨ys, x3, x7, rfl, g1, g2, g3, g4, B3⟩
    have hi5 : i < 5 := by omega
    refine ⟨_, rfl, .inl ⟨rfl, _, SqL.of g1⟩, ⟨_, rfl⟩, _, rfl, b, _, _, rfl, B3, by omega, by decide, by decide, fun d4 H4 a4 b4 e4 B4 => ?_⟩
    refine ⟨1 + d4, rfl, by omega, by omega, fun Dl nD => ?_⟩
    have nDb : Dl ≠ b := B4.ne nD
    have g1' : H4 p = some (.lst (ys.map V.str)) := e4 _ _ npb g1
    have nDp : p ≠ Dl := ne_of_none g1' nD
    refine lc_range (lo := 0) (n := (1 + d4).toNat) (fun j H' => ∃ zs : List Str, H' Dl = some (.lst (zs.map V.str)) ∧ (∀ y ∈ zs, y.length = 1 ∧ OkS y) ∧ zs.length = j ∧ BoxAt H' b (m + 1 + 6 * i + 1 + j) ∧ (∀ x o, x ≠ b → x ≠ Dl → H4 x = some o → H' x = some o))
      ⟨[], upd_same, by simp, rfl, (B4.ex (Ex.new nD)).mono (by omega), fun x o nb nx hx => by rw [upd_ne nx]; exact hx⟩ ?_ ?_
    · rintro j H5 hj ⟨zs, q1, q2, q3, B5, e5⟩
      have hj4 : j < 4 := by omega
      refine ⟨rfl, _, rfl, _, rfl, _, rfl, line_ge (by have := sgB_len; omega), b, _, _, rfl, B5, by omega, (by have := sgB_len; omega), (by have := sgB_len; omega), fun d6 H6 a6 b6 e6 B6 => ?_⟩
      obtain ⟨c, ec, mc⟩ := atI_some (xs := sgB.cps.toList) (i := d6) a6 (by rw [len_cps]; exact b6)
      refine ix_S (z := sgB) (line_ge (by have := sgB_len; omega)) ec ⟨_, e6 _ _ nDb q1, by rw [List.length_map, sizeLine_eq]; omega, ?_⟩
      refine ⟨zs ++ [⟨#[c]⟩], by rw [upd_same, List.map_append]; rfl, ?_, by rw [List.length_append, q3]; rfl, ?_, ?_⟩
      · intro y hy
        rcases List.mem_append.mp hy with hy | hy
        · exact q2 y hy
        · rw [List.mem_singleton.mp hy]
          exact ⟨rfl, okS_one (sgB_ok c mc)⟩
      · obtain ⟨n, r, c', w0, w1, w2, w3, w4, w5⟩ := B6
        exact ⟨n, r, c', by rw [upd_ne nDb.symm]; exact w0, w1, w2, w3, w4, by omega⟩
      · intro x o nb nx hx
        rw [upd_ne nx]
        exact e6 _ _ nb (e5 x o nb nx hx)
    · rintro H5 ⟨zs, q1, q2, q3, B5, e5⟩
      have hzl : zs.length ≤ 4 := by omega
      have hj : (Txt.join (Str.ofString "") zs).length = zs.length := PySem.W.KT.join_ones zs fun y hy => (q2 y hy).1
      have hjo : OkS (Txt.join (Str.ofString "") zs) := okS_join fun y hy => (q2 y hy).2
      have hs : (zs.map (·.length)).sum + zs.length * (Str.ofString "").length ≤ 16777216 := by
        have h9 := sum_bnd zs fun y hy => by rw [(q2 y hy).1]; decide
        have z0 : (Str.ofString "").length = 0 := by decide +kernel
        rw [z0]
        omega
      refine ⟨_, Dl, zs, rfl, rfl, .inl (SqL.of q1), hs, ?_⟩
      have g15 : H5 p = some (.lst (ys.map V.str)) := e5 _ _ npb nDp g1'
      refine ⟨p, _, _, rfl, rfl, g15, by rw [List.length_map, sizeLine_eq]; omega, ?_⟩
      refine ⟨ys ++ [Txt.join (Str.ofString "") zs], _, _, rfl, by rw [upd_same, List.map_append]; rfl, by rw [List.length_append, g2]; rfl, ?_, ?_, ?_⟩
      · intro y hy
        rcases List.mem_append.mp hy with hy | hy
        · exact g3 y hy
        · rw [List.mem_singleton.mp hy]
          exact ⟨by omega, hjo⟩
      · intro x o nb hx
        have x1 := g4 x o nb hx
        have x2 := e4 x o nb x1
        rw [upd_ne (ne_of_none hx n1)]
        exact e5 x o nb (ne_of_none x2 nD) x2
      · obtain ⟨n, r, c', w0, w1, w2, w3, w4, w5⟩ := B5
        exact ⟨n, r, c', by rw [upd_ne npb.symm]; exact w0, w1, w2, w3, w4, by omega⟩
  · rintro σ H3 ⟨ys, x3, x7, rfl, g1, g2, g3, g4, B3⟩
    have hyl : ys.length ≤ 5 := by omega
    have y4 : ∀ y ∈ ys, y.length ≤ 4 := fun y hy => (g3 y hy).1
    have hsp : (Str.ofString " ").length = 1 := by decide +kernel
    have hs := sum_bnd ys y4
    refine ⟨⟨_, rfl⟩, _, rfl, _, p, ys, rfl, rfl, .inl (SqL.of g1), by rw [hsp]; omega, ?_⟩
    have hjl : (Txt.join (Str.ofString " ") ys).length ≤ 25 := by
      rw [TL.join_eq]
      have := join_bnd (sep := Str.ofString " ") ys y4
      rw [hsp] at this
      omega
    have hjo : OkS (Txt.join (Str.ofString " ") ys) := by
      rw [TL.join_eq]
      exact join_ok (okS_dec (by decide +kernel)) ys fun y hy => (g3 y hy).2
    generalize hT : Txt.join (Str.ofString " ") ys = t at hjl hjo
    have tl : t.length ≤ sizeLine := line_ge (by omega)
    refine ⟨_, rfl, _, rfl, tl, b, _, _, rfl, B3, by omega, by omega, by omega, fun d7 H7 a7 b7 e7 B7 => ?_⟩
    have c1 := cutS_le t none (some d7)
    have c2 := cutS_le t (some d7) none
    have z1 : (Str.ofString "\n").length = 1 := by decide +kernel
    refine ⟨_, rfl, _, rfl, _, rfl, _, rfl, line_ge (by omega), ?_⟩
    refine ⟨_, rfl, line_ge (by omega), ?_⟩
    refine ⟨_, rfl, _, rfl, _, rfl, tl, line_ge (by omega), ?_⟩
    refine ⟨_, rfl, _, rfl, _, rfl, tl, line_ge (by rw [app_len]; omega), ?_⟩
    refine ⟨_, rfl, _, rfl, _, rfl, tl, line_ge (by omega), ?_⟩
    refine ⟨_, rfl, _, rfl, _, rfl, tl, line_ge (by rw [app_len]; omega), ?_⟩
    refine ⟨(by show 8 ≤ sizeLine; decide), fun p9 H9 n9 e9 h9 => ?_⟩
    have B9 := B7.ex e9
    have np9 : p9 ≠ b := B7.ne n9
    refine ⟨_, rfl, _, rfl, b, _, _, rfl, B9, by omega, by decide, by decide, fun d10 H10 a10 b10 e10 B10 => ?_⟩
    obtain ⟨v, ev, hv⟩ := atI_some (xs := [V.str t, V.str t, V.str t, V.str (Str.ofString " " ++ t), V.str (t ++ Str.ofString " "), V.str (cutS t none (some d7) ++ Str.ofString " " ++ cutS t (some d7) none), V.str (cutS t none (some d7) ++ Str.ofString "\n" ++ cutS t (some d7) none), V.str (Str.ofString "")]) (i := d10) a10 b10
    have osp : OkS (Str.ofString " ") := okS_dec (by decide +kernel)
    have onl : OkS (Str.ofString "\n") := okS_dec (by decide +kernel)
    have hv' : ∃ z : Str, v = .str z ∧ z.length ≤ 100 ∧ OkS z := by
      simp only [List.mem_cons, List.not_mem_nil, or_false] at hv
      rcases hv with h | h | h | h | h | h | h | h
      · exact ⟨_, h, by omega, hjo⟩
      · exact ⟨_, h, by omega, hjo⟩
      · exact ⟨_, h, by omega, hjo⟩
      · exact ⟨_, h, by rw [app_len]; omega, okS_app osp hjo⟩
      · exact ⟨_, h, by rw [app_len]; omega, okS_app hjo osp⟩
      · exact ⟨_, h, by rw [app_len, app_len]; omega, okS_app (okS_app (okS_cut hjo) osp) (okS_cut hjo)⟩
      · exact ⟨_, h, by rw [app_len, app_len]; omega, okS_app (okS_app (okS_cut hjo) onl) (okS_cut hjo)⟩
      · exact ⟨_, h, by decide +kernel, okS_dec (by decide +kernel)⟩
    obtain ⟨z, rfl, hz, hzo⟩ := hv'
    refine ix_l (e10 _ _ np9 h9) ev ?_
    exact k _ _ hz hzo (((g4.trans e7).ex e9).trans e10) (B10.mono (by omega))
end K02

set_option Elab.async false
set_option linter.all false
set_option maxRecDepth 100000
set_option maxHeartbeats 8000000
namespace K02
open PySem PySem.Spec PyProof.Rows L2 CN Evl
abbrev gv_parse_integer_low_high : List V → List V → List V := fun vs zs => vs ++ zs
abbrev gv_parse_integer_low : List V → List V → List V := fun vs zs => vs ++ (zs ++ [.int 999])
/-- repr of a small thing -/
def shV : V → Str
  | .int i => toString i
  | _ => "None"
def Sm (r : V) : Prop := r = .non ∨ ∃ n : Int, r = .int n ∧ 0 ≤ n ∧ n < 10 ^ 30
theorem rep {K : PySem.W.Frag} {H : Hp} {Q : VK} {r : V} (hr : Sm r) (q : Q (.str (shV r)) H) : rReprD K [r] H Q := by
  rcases hr with rfl | ⟨n, rfl, h0, h1⟩
  · exact ⟨_, .none, rfl, .non, rfl, rfl, (by decide +kernel), (by decide +kernel), q⟩
  · refine ⟨_, .int n, rfl, .int n, decide_eq_true (log_lt (k := 100) (by omega) (by decide)), rfl, (Nat.zero_le _), ?_, q⟩
    have := str_int_len (k := 29) h0 h1
    show (Str.ofString (toString n)).length ≤ sizeLine
    exact line_ge (by omega)
theorem repN {K : PySem.W.Frag} {H : Hp} {Q : VK} {r : V} {σ : List (Option V)} (hr : Sm r) (q : Q (.str (shV r)) H) : tNil σ H (fun xs H2 => rReprD K (r :: xs) H2 Q) := rep hr q
theorem pint_none {l : List Nat} {lo hi : Int} (h : valL l = none) : pintV l lo hi = .non := by
  unfold pintV
  rw [h]
theorem pint_some {l : List Nat} {lo hi n : Int} (h : valL l = some n) : pintV l lo hi = if lo ≤ n ∧ n ≤ hi then .int n else .non := by
  unfold pintV
  rw [h]
theorem pint_sm {l : List Nat} {lo hi : Int} (hl : l.length ≤ 30) : Sm (pintV l lo hi) := by
  cases hv : valL l with
  | none => exact .inl (pint_none hv)
  | some n =>
    have := valL_lt hv hl
    rw [pint_some hv]
    by_cases hc : lo ≤ n ∧ n ≤ hi
    · rw [if_pos hc]
      exact .inr ⟨n, rfl, this⟩
    · rw [if_neg hc]
      exact .inl rfl
def sp__law_number_right (K : PySem.W.Frag) : Sp := fun vs H Q _ => ∃ (z : Str) (lo hi : Int), vs = [.str z, .int lo, .int hi] ∧ z.length ≤ 30 ∧ OkS z ∧ ∀ H', Ex H H' → Q (.bl true) H'
def t__law_number_right (K : PySem.W.Frag) (a : Ad) : TS :=
  (tSeq (tAsg (tCall (sp__law_value K) [] E0 (tCons (tVar 0) tNil)) (gName 3))
  (tSeq (tAsg (tIf (tAnd (tTest (tOp rNotNU (tVar 3) (tC .non))) (tTest (tChain rLeU rLeU (tVar 1) (tVar 3) (tVar 2)))) (tVar 3) (tC .non)) (gName 4))
  (tSeq (tIfS (tTest (tOp (rNeU K) (tCB (rReprD K) (tCons (tCallN 1 2 (sp_parse_integer K) gv_parse_integer_low_high E0 (tCons (tVar 0) tNil) (tCons (tVar 1) (tCons (tVar 2) tNil))) tNil)) (tCB (rReprD K) (tCons (tVar 4) tNil)))) (tRet (tC (.bl false))) tNext)
  (tSeq (tAsg (tIf (tAnd (tTest (tOp rNotNU (tVar 3) (tC .non))) (tTest (tOp rLeU (tVar 3) (tC (.int 999))))) (tVar 3) (tC .non)) (gName 4))
  (tSeq (tIfS (tTest (tOp (rNeU K) (tCB (rReprD K) (tCons (tCall (sp_parse_integer K) [.int 0, .int 999] E0 (tCons (tVar 0) tNil)) tNil)) (tCB (rReprD K) (tCons (tVar 4) tNil)))) (tRet (tC (.bl false))) tNext)
  (tSeq (tAsg (tIf (tAnd (tTest (tOp rNotNU (tVar 3) (tC .non))) (tTest (tChain rLeU rLeU (tVar 1) (tVar 3) (tC (.int 999))))) (tVar 3) (tC .non)) (gName 4))
  (tRet (tOp (rEqU K) (tCB (rReprD K) (tCons (tCallN 1 1 (sp_parse_integer K) gv_parse_integer_low E0 (tCons (tVar 0) tNil) (tCons (tVar 1) tNil)) tNil)) (tCB (rReprD K) (tCons (tVar 4) tNil))))))))))
theorem ne_self {K : PySem.W.Frag} {H : Hp} {Q : VK} {s : Str} (q : Q (.bl false) H) : rNeU K (.str s) (.str s) H Q := .inl ⟨rfl, by rw [decide_eq_true rfl]; exact q⟩
theorem eq_self {K : PySem.W.Frag} {H : Hp} {Q : VK} {s : Str} (q : Q (.bl true) H) : rEqU K (.str s) (.str s) H Q := .inl ⟨rfl, by rw [decide_eq_true rfl]; exact q⟩
theorem rd__law_number_right {K : PySem.W.Frag} {a : Ad} {vs : List V} {H : Hp} {Q : VK} {E : XK} (h : sp__law_number_right K vs H Q E) :
    t__law_number_right K a { nx := fun _ H' => Q .non H', rt := Q } (L2.start N__law_number_right vs) H := by
  obtain ⟨z, lo, hi, rfl, hz, hok, q⟩ := h
  have hl : z.cps.toList.length ≤ 30 := by rw [len_cps]; exact hz
  have key : ∀ r1 : V, ∀ H1, Ex H H1 → r1 = vOf (valL z.cps.toList) →
      tSeq (tAsg (tIf (tAnd (tTest (tOp rNotNU (tVar 3) (tC .non))) (tTest (tChain rLeU rLeU (tVar 1) (tVar 3) (tVar 2)))) (tVar 3) (tC .non)) (gName 4))
        (tSeq (tIfS (tTest (tOp (rNeU K) (tCB (rReprD K) (tCons (tCallN 1 2 (sp_parse_integer K) gv_parse_integer_low_high E0 (tCons (tVar 0) tNil) (tCons (tVar 1) (tCons (tVar 2) tNil))) tNil)) (tCB (rReprD K) (tCons (tVar 4) tNil)))) (tRet (tC (.bl false))) tNext)
        (tSeq (tAsg (tIf (tAnd (tTest (tOp rNotNU (tVar 3) (tC .non))) (tTest (tOp rLeU (tVar 3) (tC (.int 999))))) (tVar 3) (tC .non)) (gName 4))
        (tSeq (tIfS (tTest (tOp (rNeU K) (tCB (rReprD K) (tCons (tCall (sp_parse_integer K) [.int 0, .int 999] E0 (tCons (tVar 0) tNil)) tNil)) (tCB (rReprD K) (tCons (tVar 4) tNil)))) (tRet (tC (.bl false))) tNext)
        (tSeq (tAsg (tIf (tAnd (tTest (tOp rNotNU (tVar 3) (tC .non))) (tTest (tChain rLeU rLeU (tVar 1) (tVar 3) (tC (.int 999))))) (tVar 3) (tC .non)) (gName 4))
        (tRet (tOp (rEqU K) (tCB (rReprD K) (tCons (tCallN 1 1 (sp_parse_integer K) gv_parse_integer_low E0 (tCons (tVar 0) tNil) (tCons (tVar 1) tNil)) tNil)) (tCB (rReprD K) (tCons (tVar 4) tNil))))))))
      { nx := fun _ H' => Q .non H', rt := Q } [some (.str z), some (.int lo), some (.int hi), some r1, none] H1 := by
    intro r1 H1 e1 hr1
    -- what follows the first due
    have third : ∀ H4 x4, Ex H H4 → tSeq (tAsg (tIf (tAnd (tTest (tOp rNotNU (tVar 3) (tC .non))) (tTest (tChain rLeU rLeU (tVar 1) (tVar 3) (tC (.int 999))))) (tVar 3) (tC .non)) (gName 4))
        (tRet (tOp (rEqU K) (tCB (rReprD K) (tCons (tCallN 1 1 (sp_parse_integer K) gv_parse_integer_low E0 (tCons (tVar 0) tNil) (tCons (tVar 1) tNil)) tNil)) (tCB (rReprD K) (tCons (tVar 4) tNil))))
        { nx := fun _ H' => Q .non H', rt := Q } [some (.str z), some (.int lo), some (.int hi), some r1, x4] H4 := by
      intro H4 x4 e4
      have fin : ∀ d : V, d = pintV z.cps.toList lo 999 → tRet (tOp (rEqU K) (tCB (rReprD K) (tCons (tCallN 1 1 (sp_parse_integer K) gv_parse_integer_low E0 (tCons (tVar 0) tNil) (tCons (tVar 1) tNil)) tNil)) (tCB (rReprD K) (tCons (tVar 4) tNil)))
          { nx := fun _ H' => Q .non H', rt := Q } [some (.str z), some (.int lo), some (.int hi), some r1, some d] H4 := by
        rintro d rfl
        refine ⟨_, rfl, _, rfl, rfl, rfl, .str z, lo, 999, _, rfl, .inl ⟨z, rfl, hz, rfl⟩, fun H5 e5 => ?_⟩
        refine repN (pint_sm hl) ?_
        refine ⟨_, rfl, ?_⟩
        refine repN (pint_sm hl) ?_
        refine eq_self ?_
        exact (q H5 (e4.trans e5))
      cases hv : valL z.cps.toList with
      | none =>
        rw [hv] at hr1
        subst hr1
        exact ⟨_, rfl, rfl, _, rfl, fin _ (pint_none hv).symm⟩
      | some n =>
        rw [hv] at hr1
        subst hr1
        refine ⟨_, rfl, rfl, _, rfl, ?_⟩
        refine ⟨_, rfl, _, rfl, _, rfl, ?_⟩
        refine ite2 (fun hc => ?_) (fun hc => ?_)
        · refine ⟨_, rfl, ?_⟩
          refine ite2 (fun hd => ?_) (fun hd => ?_)
          · exact ⟨_, rfl, fin _ (by rw [pint_some hv, if_pos ⟨of_decide_eq_true hc, of_decide_eq_true hd⟩] <;> rfl)⟩
          · exact fin _ (by rw [pint_some hv, if_neg (fun h => hd (decide_eq_true h.2))])
        · exact ⟨_, rfl, fin _ (by rw [pint_some hv, if_neg (fun h => hc (decide_eq_true h.1))])⟩
    have second : ∀ H4 x4, Ex H H4 → tSeq (tAsg (tIf (tAnd (tTest (tOp rNotNU (tVar 3) (tC .non))) (tTest (tOp rLeU (tVar 3) (tC (.int 999))))) (tVar 3) (tC .non)) (gName 4))
        (tSeq (tIfS (tTest (tOp (rNeU K) (tCB (rReprD K) (tCons (tCall (sp_parse_integer K) [.int 0, .int 999] E0 (tCons (tVar 0) tNil)) tNil)) (tCB (rReprD K) (tCons (tVar 4) tNil)))) (tRet (tC (.bl false))) tNext)
        (tSeq (tAsg (tIf (tAnd (tTest (tOp rNotNU (tVar 3) (tC .non))) (tTest (tChain rLeU rLeU (tVar 1) (tVar 3) (tC (.int 999))))) (tVar 3) (tC .non)) (gName 4))
        (tRet (tOp (rEqU K) (tCB (rReprD K) (tCons (tCallN 1 1 (sp_parse_integer K) gv_parse_integer_low E0 (tCons (tVar 0) tNil) (tCons (tVar 1) tNil)) tNil)) (tCB (rReprD K) (tCons (tVar 4) tNil))))))
        { nx := fun _ H' => Q .non H', rt := Q } [some (.str z), some (.int lo), some (.int hi), some r1, x4] H4 := by
      intro H4 x4 e4
      have fin : ∀ d : V, d = pintV z.cps.toList 0 999 → tSeq (tIfS (tTest (tOp (rNeU K) (tCB (rReprD K) (tCons (tCall (sp_parse_integer K) [.int 0, .int 999] E0 (tCons (tVar 0) tNil)) tNil)) (tCB (rReprD K) (tCons (tVar 4) tNil)))) (tRet (tC (.bl false))) tNext)
          (tSeq (tAsg (tIf (tAnd (tTest (tOp rNotNU (tVar 3) (tC .non))) (tTest (tChain rLeU rLeU (tVar 1) (tVar 3) (tC (.int 999))))) (tVar 3) (tC .non)) (gName 4))
          (tRet (tOp (rEqU K) (tCB (rReprD K) (tCons (tCallN 1 1 (sp_parse_integer K) gv_parse_integer_low E0 (tCons (tVar 0) tNil) (tCons (tVar 1) tNil)) tNil)) (tCB (rReprD K) (tCons (tVar 4) tNil)))))
          { nx := fun _ H' => Q .non H', rt := Q } [some (.str z), some (.int lo), some (.int hi), some r1, some d] H4 := by
        rintro d rfl
        refine ⟨_, rfl, .str z, 0, 999, _, rfl, .inl ⟨z, rfl, hz, rfl⟩, fun H5 e5 => ?_⟩
        refine repN (pint_sm hl) ?_
        refine ⟨_, rfl, ?_⟩
        refine repN (pint_sm hl) ?_
        refine ne_self ?_
        exact ⟨_, rfl, third H5 _ (e4.trans e5)⟩
      cases hv : valL z.cps.toList with
      | none =>
        rw [hv] at hr1
        subst hr1
        exact ⟨_, rfl, rfl, _, rfl, fin _ (pint_none hv).symm⟩
      | some n =>
        have hn := valL_lt hv hl
        rw [hv] at hr1
        subst hr1
        refine ⟨_, rfl, rfl, _, rfl, ?_⟩
        refine ⟨_, rfl, _, rfl, ?_⟩
        refine ite2 (fun hd => ?_) (fun hd => ?_)
        · exact ⟨_, rfl, fin _ (by rw [pint_some hv, if_pos ⟨hn.1, of_decide_eq_true hd⟩] <;> rfl)⟩
        · exact fin _ (by rw [pint_some hv, if_neg (fun h => hd (decide_eq_true h.2))])
    have fin : ∀ d : V, d = pintV z.cps.toList lo hi → tSeq (tIfS (tTest (tOp (rNeU K) (tCB (rReprD K) (tCons (tCallN 1 2 (sp_parse_integer K) gv_parse_integer_low_high E0 (tCons (tVar 0) tNil) (tCons (tVar 1) (tCons (tVar 2) tNil))) tNil)) (tCB (rReprD K) (tCons (tVar 4) tNil)))) (tRet (tC (.bl false))) tNext)
        (tSeq (tAsg (tIf (tAnd (tTest (tOp rNotNU (tVar 3) (tC .non))) (tTest (tOp rLeU (tVar 3) (tC (.int 999))))) (tVar 3) (tC .non)) (gName 4))
        (tSeq (tIfS (tTest (tOp (rNeU K) (tCB (rReprD K) (tCons (tCall (sp_parse_integer K) [.int 0, .int 999] E0 (tCons (tVar 0) tNil)) tNil)) (tCB (rReprD K) (tCons (tVar 4) tNil)))) (tRet (tC (.bl false))) tNext)
        (tSeq (tAsg (tIf (tAnd (tTest (tOp rNotNU (tVar 3) (tC .non))) (tTest (tChain rLeU rLeU (tVar 1) (tVar 3) (tC (.int 999))))) (tVar 3) (tC .non)) (gName 4))
        (tRet (tOp (rEqU K) (tCB (rReprD K) (tCons (tCallN 1 1 (sp_parse_integer K) gv_parse_integer_low E0 (tCons (tVar 0) tNil) (tCons (tVar 1) tNil)) tNil)) (tCB (rReprD K) (tCons (tVar 4) tNil)))))))
        { nx := fun _ H' => Q .non H', rt := Q } [some (.str z), some (.int lo), some (.int hi), some r1, some d] H1 := by
      rintro d rfl
      refine ⟨_, rfl, _, rfl, _, rfl, rfl, rfl, .str z, lo, hi, _, rfl, .inl ⟨z, rfl, hz, rfl⟩, fun H5 e5 => ?_⟩
      refine repN (pint_sm hl) ?_
      refine ⟨_, rfl, ?_⟩
      refine repN (pint_sm hl) ?_
      refine ne_self ?_
      exact ⟨_, rfl, second H5 _ (e1.trans e5)⟩
    cases hv : valL z.cps.toList with
    | none =>
      rw [hv] at hr1
      subst hr1
      exact ⟨_, rfl, rfl, _, rfl, fin _ (pint_none hv).symm⟩
    | some n =>
      rw [hv] at hr1
      subst hr1
      refine ⟨_, rfl, rfl, _, rfl, ?_⟩
      refine ⟨_, rfl, _, rfl, _, rfl, ?_⟩
      refine ite2 (fun hc => ?_) (fun hc => ?_)
      · refine ⟨_, rfl, _, rfl, ?_⟩
        refine ite2 (fun hd => ?_) (fun hd => ?_)
        · exact ⟨_, rfl, fin _ (by rw [pint_some hv, if_pos ⟨of_decide_eq_true hc, of_decide_eq_true hd⟩] <;> rfl)⟩
        · exact fin _ (by rw [pint_some hv, if_neg (fun h => hd (decide_eq_true h.2))])
      · exact ⟨_, rfl, fin _ (by rw [pint_some hv, if_neg (fun h => hc (decide_eq_true h.1))])⟩
  exact ⟨_, rfl, z, rfl, hz, hok, fun H1 e1 => key _ H1 e1 rfl⟩
end K02

set_option Elab.async false
set_option linter.all false
set_option maxRecDepth 100000
set_option maxHeartbeats 8000000
namespace K02
open PySem PySem.Spec PyProof.Rows L2 CN Evl
theorem bulk_sp : ∀ (l w : List Nat), PyData.bulkAll ((spW w l).map fun x => PyData.str (ofL x)) = w.length + l.length + 1
  | [], w => by
    rw [spW_nil]
    show (ofL w).cps.size + 1 + 0 = _
    show w.toArray.size + 1 + 0 = _
    rw [List.size_toArray]
    rfl
  | c :: r, w => by
    rw [spW_cons]
    by_cases h : c = 32
    · rw [if_pos h]
      show (ofL w).cps.size + 1 + PyData.bulkAll ((spW [] r).map fun x => PyData.str (ofL x)) = _
      rw [bulk_sp r []]
      show w.toArray.size + 1 + _ = _
      rw [List.size_toArray, List.length_cons, List.length_nil]
      omega
    · rw [if_neg h, bulk_sp r (w ++ [c]), List.length_append]
      show w.length + 1 + r.length + 1 = w.length + (r.length + 1) + 1
      omega
theorem leaves_strs : ∀ ys : List Str, (∀ y ∈ ys, OkS y) → PyData.leavesShortAll 8 (ys.map PyData.str) = true
  | [], _ => rfl
  | y :: ys, h => by
    show (PyData.leavesShort 8 (.str y) && PyData.leavesShortAll 8 (ys.map PyData.str)) = true
    rw [leaves_strs ys fun z hz => h z (List.mem_cons_of_mem _ hz), Bool.and_true]
    show (y.cps.toList.all fun c => decide (c < 16 ^ 8)) = true
    rw [List.all_eq_true]
    intro c hc
    have := h y (List.mem_cons_self ..) c hc
    exact decide_eq_true (Nat.lt_trans this (by decide))
theorem shows_strs : ∀ ys : List Str, PyData.showableAll (ys.map PyData.str) = true
  | [] => rfl
  | y :: ys => shows_strs ys
theorem nodict_strs : ∀ ys : List Str, PyData.hasDictAll (ys.map PyData.str) = false
  | [] => rfl
  | y :: ys => nodict_strs ys
theorem words_are {z : Str} {ws : List Str} (h : wordsOf z = some ws) : ws = (spW [] z.cps.toList).map ofL := by
  unfold wordsOf at h
  rw [lw_sp] at h
  by_cases h1 : 10 ∈ z.cps.toList
  · rw [if_pos h1] at h
    cases h
  · rw [if_neg h1] at h
    by_cases h2 : [] ∈ spW [] z.cps.toList
    · rw [if_pos h2] at h
      cases h
    · rw [if_neg h2] at h
      exact (Option.some.inj h).symm
theorem words_ok {z : Str} {ws : List Str} (h : wordsOf z = some ws) (ho : OkS z) : ∀ y ∈ ws, OkS y := by
  rw [words_are h]
  intro y hy c hc
  obtain ⟨x, hx, rfl⟩ := List.mem_map.mp hy
  rcases (spW_len z.cps.toList []).2 x hx c hc with h' | h'
  · cases h'
  · exact ho c h'
theorem words_len {z : Str} {ws : List Str} (h : wordsOf z = some ws) : ws.length ≤ z.length + 1 := by
  rw [words_are h, List.length_map, ← len_cps z]
  exact (spW_len z.cps.toList []).1
theorem words_rep {K : PySem.W.Frag} {H : Hp} {Q : VK} {p : Addr} {z : Str} {ws : List Str} (h : wordsOf z = some ws) (ho : OkS z) (hz : z.length ≤ 100) (hp : H p = some (.lst (ws.map V.str))) (q : Q (.str (PyData.shown (.list (ws.map PyData.str)))) H) : rReprD K [.ref p] H Q := by
  refine ⟨_, .list (ws.map PyData.str), rfl, .lst (SqL.of hp) (dpAll_str ws), shows_strs ws, nodict_strs ws, ?_, ?_, q⟩
  · have := depth_strs ws
    show PyData.depthAll (ws.map PyData.str) + 1 ≤ 64
    omega
  · refine PyData.shown_fits_bulk (B := 8) (by decide) (by decide) (leaves_strs ws (words_ok h ho)) ?_
    show PyData.bulkAll (ws.map PyData.str) ≤ _
    have e : ws.map PyData.str = (spW [] z.cps.toList).map fun x => PyData.str (ofL x) := by
      rw [words_are h, List.map_map]
      rfl
    rw [e, bulk_sp, len_cps, List.length_nil]
    have e : (2 : Nat) ^ 20 = 1048576 := by decide
    omega
theorem words_repN {K : PySem.W.Frag} {H : Hp} {Q : VK} {σ : List (Option V)} {p : Addr} {z : Str} {ws : List Str} (h : wordsOf z = some ws) (ho : OkS z) (hz : z.length ≤ 100) (hp : H p = some (.lst (ws.map V.str))) (q : Q (.str (PyData.shown (.list (ws.map PyData.str)))) H) : tNil σ H (fun xs H2 => rReprD K (.ref p :: xs) H2 Q) := words_rep h ho hz hp q
def sp_law (K : PySem.W.Frag) : Sp := fun vs H Q _ => ∃ (a : Addr) (ns : List Int), vs = [.ref a] ∧ SqL K H a (ns.map V.int) ∧ ns.length ≤ 63 ∧ ∀ H', Q (.bl true) H'
theorem sp_law_of {K : PySem.W.Frag} {H : Hp} {a : Addr} {ns : List Int} (hl : ns.length ≤ 63) (hO : Only H) (hS : SqL K H a (ns.map V.int)) : sp_law K [.ref a] H (fun v _ => v = .bl true) fun _ _ _ => False := ⟨a, ns, rfl, hS, hl, fun _ => rfl⟩
def t_law (K : PySem.W.Frag) (a : Ad) : TS :=
  (tSeq (tFor (iRng1 (tCons (tCB rMaxI (tCons (tC (.int 1)) (tCons (tCB rMinI (tCons (tC (.int 20)) (tCons (tCB (rLenU K) (tCons (tVar 0) tNil)) tNil))) tNil))) tNil)) (gName 1) (tSeq (tAsg (tCall (sp__law_box K) [] E0 (tCons (tCall (sp__law_cell K) [] E0 (tCons (tVar 0) (tCons (tVar 1) tNil))) tNil)) (gName 2))
  (tSeq (tFor (iRng1 (tCons (tC (.int 3)) tNil)) (gName 3) (tSeq (tAsg (tCall (sp__law_text K) [] E0 (tCons (tVar 2) tNil)) (gName 5))
  (tSeq (tAsg (tCall (sp__law_value K) [] E0 (tCons (tVar 5) tNil)) (gName 6))
  (tSeq (tAsg (tIf (tTest (tOp rIsNU (tVar 6) (tC .non))) (tC (.int 5)) (tVar 6)) (gName 7))
  (tSeq (tAsg (tOp (rIx K) (tLstG (tCons (tC (.int 0)) (tCons (tOp rSubI (tVar 7) (tC (.int 1))) (tCons (tVar 7) (tCons (tOp (rAddU K) (tVar 7) (tC (.int 1))) (tCons (tUn rNegI (tC (.int 3))) tNil)))))) (tCall (sp__law_take K) [] E0 (tCons (tVar 2) (tCons (tC (.int 5)) tNil)))) (gName 8))
  (tSeq (tAsg (tOp (rIx K) (tLstG (tCons (tVar 7) (tCons (tOp rSubI (tVar 7) (tC (.int 1))) (tCons (tOp (rAddU K) (tVar 7) (tC (.int 1))) (tCons (tOp rPowI (tC (.int 10)) (tC (.int 29))) (tCons (tC (.int 0)) tNil)))))) (tCall (sp__law_take K) [] E0 (tCons (tVar 2) (tCons (tC (.int 5)) tNil)))) (gName 9))
  (tSeq (tIfS (tNot (tB (tCall (sp__law_number_right K) [] E0 (tCons (tVar 5) (tCons (tVar 8) (tCons (tVar 9) tNil)))))) (tRet (tC (.bl false))) tNext)
  (tSeq (tAsg (tCall (sp__law_line K) [] E0 (tCons (tVar 2) tNil)) (gName 10))
  (tFor (iRng1 (tCons (tC (.int 2)) tNil)) (gName 11) (tSeq (tAsg (tCall (sp_split_words K) [] E0 (tCons (tVar 10) tNil)) (gName 12))
  (tSeq (tIfS (tTest (tOp (rNeU K) (tCB (rReprD K) (tCons (tVar 12) tNil)) (tCB (rReprD K) (tCons (tCall (sp__law_words K) [] E0 (tCons (tVar 10) tNil)) tNil)))) (tRet (tC (.bl false))) tNext)
  (tIfS (tTest (tOp rNotNU (tVar 12) (tC .non))) (tDrop (tBM K "list" rAppend (tVar 12) (tCons (tC (.str "more")) tNil))) tNext))))))))))))
  (tFor (iList K (tLstG (tCons (tC .non) (tCons (tC (.int 5)) (tCons (tC (.bl true)) (tCons (tLstG (tCons (tC (.str "5")) tNil)) (tCons (tTupG (tCons (tC (.str "5")) tNil)) (tCons tDNewK (tCons (tDisp [((tC (.str "5")), (tC (.int 5)))]) (tCons (tLstG (tCons (tC (.str "a")) (tCons (tC (.str "b")) tNil))) (tCons (tMkX a.c_InvalidName "value" (tCons (tC (.str "5")) tNil)) tNil))))))))))) (gName 4) (tIfS (tOr (tTest (tOp rNotNU (tCallN 1 2 (sp_parse_integer K) gv_parse_integer_low_high E0 (tCons (tVar 4) tNil) (tCons (tC (.int 0)) (tCons (tC (.int 9)) tNil))) (tC .non))) (tTest (tOp rNotNU (tCall (sp_split_words K) [] E0 (tCons (tVar 4) tNil)) (tC .non)))) (tRet (tC (.bl false))) tNext)))))
  (tRet (tC (.bl true))))
theorem rd_law {K : PySem.W.Frag} {mg : Str → Option Value} {a : Ad} (T : Txt K mg a) (hX : PySem.W.kitOne K (.ref a.c_InvalidName) (.type "str") = some false) {vs : List V} {H : Hp} {Q : VK} {E : XK} (h : sp_law K vs H Q E) :
    t_law K a { nx := fun _ H' => Q .non H', rt := Q } (L2.start N_law vs) H := by
  obtain ⟨p0, ns, rfl, hS, hlen, q⟩ := h
  refine ⟨_, rfl, .inl ⟨_, .inl hS, ?_⟩⟩
  obtain ⟨n, hn⟩ : ∃ n : Int, n = (if (if ((List.map V.int ns).length : Int) < 20 then ((List.map V.int ns).length : Int) else 20) > 1 then (if ((List.map V.int ns).length : Int) < 20 then ((List.map V.int ns).length : Int) else 20) else 1) := ⟨_, rfl⟩
  have hn1 : 1 ≤ n ∧ n ≤ 20 := by
    rw [hn]
    split <;> split at * <;> omega
  refine ⟨n, by rw [hn], by omega, by omega, ?_⟩
  refine for_range (lo := 0) (n := n.toNat) (fun i σ H' => ∃ x1 x2 x3 x4 x5 x6 x7 x8 x9 x10 x11 x12, σ = [some (.ref p0), x1, x2, x3, x4, x5, x6, x7, x8, x9, x10, x11, x12] ∧ Ex H H')
    ⟨_, _, _, _, _, _, _, _, _, _, _, _, rfl, Ex.refl H⟩ ?_ (fun σ H' _ => q H')
  rintro i σ H1 hi ⟨x1, x2, x3, x4, x5, x6, x7, x8, x9, x10, x11, x12, rfl, e1⟩
  -- the box
  refine ⟨_, rfl, _, rfl, p0, ns, i, by simp, ex_l e1 hS, by omega, fun c => ⟨c, rfl, fun b H2 n2 e2 B2 => ?_⟩⟩
  have nb : H b = none := (fresh_back e1 n2)
  have e12 := e1.trans e2
  refine ⟨3, rfl, by decide, by decide, ?_⟩
  refine for_range (lo := 0) (n := (3 : Int).toNat) (fun j σ H' => ∃ y1 y3 y5 y6 y7 y8 y9 y10 y11 y12, σ = [some (.ref p0), y1, some (.ref b), y3, x4, y5, y6, y7, y8, y9, y10, y11, y12] ∧ Ex H H' ∧ BoxAt H' b (1000 * j))
    ⟨_, _, _, _, _, _, _, _, _, _, rfl, e12, B2.mono (by omega)⟩ ?_ ?_
  · rintro j σ H3 hj ⟨y1, y3, y5, y6, y7, y8, y9, y10, y11, y12, rfl, f3, B3⟩
    have hj3 : j < 3 := hj
    -- the text and its value
    refine ⟨_, rfl, b, _, rfl, B3, by omega, fun z H4 hz hzo e4 B4 => ?_⟩
    have f4 := exb nb f3 e4
    refine ⟨_, rfl, z, rfl, hz, hzo, fun H5 e5 => ?_⟩
    have f5 := f4.trans e5
    have B5 := B4.ex e5
    obtain ⟨near, hnear⟩ : ∃ near : Int, near = (match valL z.cps.toList with | none => 5 | some n => n) := ⟨_, rfl⟩
    have go : ∀ v6 : V, tSeq (tAsg (tOp (rIx K) (tLstG (tCons (tC (.int 0)) (tCons (tOp rSubI (tVar 7) (tC (.int 1))) (tCons (tVar 7) (tCons (tOp (rAddU K) (tVar 7) (tC (.int 1))) (tCons (tUn rNegI (tC (.int 3))) tNil)))))) (tCall (sp__law_take K) [] E0 (tCons (tVar 2) (tCons (tC (.int 5)) tNil)))) (gName 8))
        (tSeq (tAsg (tOp (rIx K) (tLstG (tCons (tVar 7) (tCons (tOp rSubI (tVar 7) (tC (.int 1))) (tCons (tOp (rAddU K) (tVar 7) (tC (.int 1))) (tCons (tOp rPowI (tC (.int 10)) (tC (.int 29))) (tCons (tC (.int 0)) tNil)))))) (tCall (sp__law_take K) [] E0 (tCons (tVar 2) (tCons (tC (.int 5)) tNil)))) (gName 9))
        (tSeq (tIfS (tNot (tB (tCall (sp__law_number_right K) [] E0 (tCons (tVar 5) (tCons (tVar 8) (tCons (tVar 9) tNil)))))) (tRet (tC (.bl false))) tNext)
        (tSeq (tAsg (tCall (sp__law_line K) [] E0 (tCons (tVar 2) tNil)) (gName 10))
        (tFor (iRng1 (tCons (tC (.int 2)) tNil)) (gName 11) (tSeq (tAsg (tCall (sp_split_words K) [] E0 (tCons (tVar 10) tNil)) (gName 12))
        (tSeq (tIfS (tTest (tOp (rNeU K) (tCB (rReprD K) (tCons (tVar 12) tNil)) (tCB (rReprD K) (tCons (tCall (sp__law_words K) [] E0 (tCons (tVar 10) tNil)) tNil)))) (tRet (tC (.bl false))) tNext)
        (tIfS (tTest (tOp rNotNU (tVar 12) (tC .non))) (tDrop (tBM K "list" rAppend (tVar 12) (tCons (tC (.str "more")) tNil))) tNext)))))))
        { nx := fun σ H' => ∃ y1 y3 y5 y6 y7 y8 y9 y10 y11 y12, σ = [some (.ref p0), y1, some (.ref b), y3, x4, y5, y6, y7, y8, y9, y10, y11, y12] ∧ Ex H H' ∧ BoxAt H' b (1000 * ((j + 1 : Nat) : Int)), rt := Q }
        [some (.ref p0), y1, some (.ref b), some (.int ((0 : Int) + (j : Nat))), x4, some (.str z), some v6, some (.int near), y8, y9, y10, y11, y12] H5 := by
      intro v6
      -- the least
      refine ⟨_, rfl, _, rfl, _, rfl, (by show 5 ≤ sizeLine; decide), fun p6 H6 n6 e6 h6 => ?_⟩
      have B6 := B5.ex e6
      have np6 : p6 ≠ b := B5.ne n6
      refine ⟨_, rfl, b, _, _, rfl, B6, by omega, by decide, by decide, fun d7 H7 a7 b7 e7 B7 => ?_⟩
      obtain ⟨v, ev, hv⟩ := atI_some (xs := [V.int 0, V.int (near - 1), V.int near, V.int (near + 1), V.int (-3)]) (i := d7) a7 b7
      have hv' : ∃ z : Int, v = .int z := by
        simp only [List.mem_cons, List.not_mem_nil, or_false] at hv
        rcases hv with h | h | h | h | h <;> exact ⟨_, h⟩
      obtain ⟨least, rfl⟩ := hv'
      refine ix_l (e7 _ _ np6 h6) ev ?_
      have f7 : Ex H H7 := exb nb (f5.trans e6) e7
      -- the most
      refine ⟨_, rfl, _, rfl, _, rfl, ⟨by decide, by decide⟩, (by show 5 ≤ sizeLine; decide), fun p8 H8 n8 e8 h8 => ?_⟩
      have B8 := B7.ex e8
      have np8 : p8 ≠ b := B7.ne n8
      refine ⟨_, rfl, b, _, _, rfl, B8, by omega, by decide, by decide, fun d9 H9 a9 b9 e9 B9 => ?_⟩
      obtain ⟨v, ev, hv⟩ := atI_some (xs := [V.int near, V.int (near - 1), V.int (near + 1), V.int (10 ^ (29 : Int).toNat), V.int 0]) (i := d9) a9 b9
      have hv' : ∃ z : Int, v = .int z := by
        simp only [List.mem_cons, List.not_mem_nil, or_false] at hv
        rcases hv with h | h | h | h | h <;> exact ⟨_, h⟩
      obtain ⟨most, rfl⟩ := hv'
      refine ix_l (e9 _ _ np8 h8) ev ?_
      have f9 : Ex H H9 := exb nb (f7.trans e8) e9
      refine ⟨_, rfl, _, rfl, _, rfl, z, least, most, rfl, hz, hzo, fun H10 e10 => ?_⟩
      refine ⟨_, rfl, ?_⟩
      have B10 := B9.ex e10
      refine ⟨_, rfl, b, _, rfl, B10, by omega, fun y H11 hy hyo e11 B11 => ?_⟩
      have f11 := exb nb (f9.trans e10) e11
      refine ⟨2, rfl, by decide, by decide, ?_⟩
      refine for_range (lo := 0) (n := (2 : Int).toNat) (fun j' σ H' => ∃ y11 y12, σ = [some (.ref p0), y1, some (.ref b), some (.int ((0 : Int) + (j : Nat))), x4, some (.str z), some v6, some (.int near), some (.int least), some (.int most), some (.str y), y11, y12] ∧ Ex H11 H')
        ⟨_, _, rfl, Ex.refl H11⟩ ?_ ?_
      · rintro j' σ H12 hj' ⟨y11, y12, rfl, e12'⟩
        refine ⟨_, rfl, _, rfl, .inl ⟨y, rfl, by omega, ?_⟩⟩
        cases hw : wordsOf y with
        | none =>
          intro H13 e13
          refine ⟨_, rfl, _, .none, rfl, .non, rfl, rfl, (by decide +kernel), (by decide +kernel), ?_⟩
          refine ⟨_, rfl, y, rfl, by omega, ?_⟩
          rw [hw]
          intro H14 e14
          refine ⟨_, .none, rfl, .non, rfl, rfl, (by decide +kernel), (by decide +kernel), ?_⟩
          refine ne_self ⟨_, rfl, ?_⟩
          exact ⟨_, rfl, rfl, _, rfl, _, _, rfl, (e12'.trans e13).trans e14⟩
        | some ws =>
          intro p13 H13 n13 e13 h13
          refine ⟨_, rfl, ?_⟩
          refine words_repN hw hyo hy h13 ?_
          refine ⟨_, rfl, y, rfl, by omega, ?_⟩
          rw [hw]
          intro p14 H14 n14 e14 h14
          refine words_repN hw hyo hy h14 ?_
          refine ne_self ⟨_, rfl, ?_⟩
          refine ⟨_, rfl, rfl, _, rfl, ?_⟩
          refine ⟨_, rfl, .inl ⟨rfl, _, SqL.of (e14 _ _ h13)⟩, p13, _, _, rfl, rfl, e14 _ _ h13, ?_, ?_⟩
          · have := words_len hw
            rw [List.length_map, sizeLine_eq]
            omega
          · exact ⟨_, _, rfl, Ex.mut ((e12'.trans e13).trans e14) (fresh_back e12' n13)⟩
      · rintro σ H12 ⟨y11, y12, rfl, e12'⟩
        exact ⟨_, _, _, _, _, _, _, _, _, _, rfl, f11.trans e12', (B11.ex e12').mono (by omega)⟩
    cases hv : valL z.cps.toList with
    | none =>
      rw [hv] at hnear
      subst hnear
      exact ⟨_, rfl, rfl, _, rfl, go _⟩
    | some n =>
      rw [hv] at hnear
      subst hnear
      exact ⟨_, rfl, rfl, _, rfl, _, rfl, go _⟩
  · rintro σ H3 ⟨y1, y3, y5, y6, y7, y8, y9, y10, y11, y12, rfl, f3, B3⟩
    refine ⟨(by show 1 ≤ sizeLine; decide), fun q1 H18 n18 e18 h18 => ?_⟩
    refine ⟨(by show 1 ≤ sizeLine; decide), fun q2 H19 n19 e19 h19 => ?_⟩
    intro q3 n20
    refine fun q4 n21 => ⟨upd_same, [(Sum.inr "5", .int 5)], rfl, (by show 1 ≤ 15; decide), ?_⟩
    generalize hH20 : upd H19 q3 (.dK []) = H20 at n21
    have e20 : Ex H19 H20 := hH20 ▸ Ex.new n20
    have h20 : H20 q3 = some (.dK []) := hH20 ▸ upd_same
    generalize hH21 : upd (upd H20 q4 (.dK [])) q4 (.dK (mergeK [] [(Sum.inr "5", V.int 5)])) = H21
    have e21 : Ex H20 H21 := hH21 ▸ Ex.mut (Ex.new n21) n21
    have h21 : H21 q4 = some (.dK (mergeK [] [(Sum.inr "5", V.int 5)])) := hH21 ▸ upd_same
    refine ⟨(by show 2 ≤ sizeLine; decide), fun q5 H22 n22 e22 h22 => ?_⟩
    refine ⟨_, rfl, fun q7 dx n24 n25 nd => ?_⟩
    generalize hH24 : upd (upd H22 dx (exd dx [("value", V.str "5")])) q7 (exo q7 a.c_InvalidName (some dx)) = H24
    have e24 : Ex H22 H24 := by
      rw [← hH24]
      exact Ex.mut (Ex.new n25) n24
    have h24 : H24 q7 = some (exo q7 a.c_InvalidName (some dx)) := hH24 ▸ upd_same
    have h25 : H24 dx = some (exd dx [("value", V.str "5")]) := by
      rw [← hH24, upd_ne nd, upd_same]
    refine ⟨(by show 9 ≤ sizeLine; decide), fun p26 H26 n26 e26 h26 => ?_⟩
    have g22 : Ex H22 H26 := e24.trans e26
    have g21 : Ex H21 H26 := e22.trans g22
    have g20 : Ex H20 H26 := e21.trans g21
    have g19 : Ex H19 H26 := e20.trans g20
    have g18 : Ex H18 H26 := e19.trans g19
    have f26 : Ex H H26 := f3.trans (e18.trans g18)
    refine ⟨p26, rfl, ⟨_, SqL.of h26⟩, ?_⟩
    refine for_list (K := K) (a := p26) (xs := [V.non, V.int 5, V.bl true, V.ref q1, V.ref q2, V.ref q3, V.ref q4, V.ref q5, V.ref q7]) (fun j σ H' => ∃ y1 y4, σ = [some (.ref p0), y1, some (.ref b), y3, y4, y5, y6, y7, y8, y9, y10, y11, y12] ∧ Ex H26 H')
      ⟨_, _, rfl, Ex.refl H26⟩ (fun j σ H' _ ⟨_, _, _, e⟩ => SqL.of (e _ _ h26)) ?_ ?_
    · rintro j x σ H' hj ⟨y1, y4, rfl, e⟩
      have hx : NotI K H26 x "str" := by
        have hm := List.mem_of_getElem? hj
        simp only [List.mem_cons, List.not_mem_nil, or_false] at hm
        rcases hm with rfl | rfl | rfl | rfl | rfl | rfl | rfl | rfl | rfl
        · exact not_non (by decide +kernel)
        · exact not_int (by decide +kernel)
        · exact not_bl (by decide +kernel)
        · exact not_lst (g18 _ _ h18) (by decide +kernel)
        · exact not_tup (g19 _ _ h19) (by decide +kernel)
        · exact not_dct (g20 _ _ h20) (by decide +kernel)
        · exact not_dct (g21 _ _ h21) (by decide +kernel)
        · exact not_lst (g22 _ _ h22) (by decide +kernel)
        · exact not_exc (e26 _ _ h24) (e26 _ _ h25) T.e_InvalidName.ec hX
      refine ⟨_, rfl, rfl, rfl, x, 0, 9, .non, rfl, .inr ⟨hx.ex e, rfl⟩, fun H27 e27 => ?_⟩
      refine ⟨rfl, _, rfl, ?_⟩
      refine ⟨_, rfl, x, rfl, .inr ⟨hx.ex (e.trans e27), fun H28 e28 => ?_⟩⟩
      refine ⟨rfl, _, rfl, ?_⟩
      exact ⟨_, _, rfl, (e.trans e27).trans e28⟩
    · rintro σ H27 ⟨y1, y4, rfl, e27⟩
      exact ⟨_, _, _, _, _, _, _, _, _, _, _, _, rfl, f26.trans e27⟩
end K02

set_option Elab.async false
set_option linter.all false
set_option maxRecDepth 100000
set_option maxHeartbeats 8000000
namespace K02
open PySem PySem.Spec PyProof.Rows L2 CN Evl
section
variable {P : Program} {w : World} {K : PySem.W.Frag} {mg : Str → Option Value} {base : Heap} {a : Ad}
theorem kb1 (T : Txt K mg a) : ∃ g, KBn K a.d_parse_integer ["text", "low", "high"] 1 ["low", "high"] g gv_parse_integer_low_high := by
  obtain ⟨mv, h⟩ := T.F_parse_integer.kbinds0 (ps := ["text", "low", "high"]) 1 ["low", "high"] [] (fun us _ ws => us ++ ws) (by simp) (fun q hq => by cases hq) (fun r1 _ r3 => r1.append r3)
    (fun D doc pm an cdv ct us mv ws h1 h2 h3 => match us, mv, ws, h1, h2, h3 with | [_], [], [_, _], _, _, _ => rfl)
  exact ⟨_, h⟩
theorem kb2 (T : Txt K mg a) : ∃ g, KBn K a.d_parse_integer ["text", "low", "high"] 1 ["low"] g gv_parse_integer_low := by
  obtain ⟨mv, h⟩ := T.F_parse_integer.kbinds0 (ps := ["text", "low", "high"]) 1 ["low"] [("high", .int 999)] (fun us mv ws => us ++ (ws ++ mv)) (by simp) (fun q hq => by simp at hq; simp [hq]) (fun r1 r2 r3 => r1.append (r3.append r2))
    (fun D doc pm an cdv ct us mv ws h1 h2 h3 => match us, mv, ws, h1, h2, h3 with | [_], [_], [_], _, _, _ => ⟨_, _, _, _, _, _, rfl, rfl, rfl⟩)
  exact ⟨_, h⟩
theorem kb0 (T : Txt K mg a) : ∃ ds, Vals [V.int 0, V.int 999] ds ∧ Binds K a.d_parse_integer ["text", "low", "high"] ds :=
  T.F_parse_integer.binds0 (ps := ["text", "low", "high"]) 1 (by simp) rfl
    (fun D doc pm an cdv ct us ks h1 h2 => match us, ks, h1, h2 with | [_], [_, _], _, _ => ⟨_, _, _, _, _, _, rfl, rfl, ⟨_, _, _, _, _, _, rfl, rfl, rfl⟩⟩)
theorem ok_parse_integer (T : Txt K mg a) : FnOk P w K mg base CX0 1 a.f_parse_integer a.d_parse_integer ["text", "low", "high"] (sp_parse_integer K) := by
  refine T.F_parse_integer.ok sc_parse_integer (fun vs H Q E h => ?_) (fun cdv A outer s H vs Q E hr h => ⟨t_parse_integer K a, PSs.nox ?_, rd_parse_integer h⟩)
  · obtain ⟨_, _, _, _, rfl, _⟩ := h
    rfl
  exact (pss_cons (ps_if (PW.pt (pw_or (pt_not (pt_val (pe_callB call_isiU (by rfl) T.b_isinstance (by decide +kernel) (pa_cons (pv 0) (pa_cons (pe_bltn (by rfl) T.b_str (by decide +kernel) rfl) pa_nil))))) (pw_or (pt_cmpR (op_eqU hr.units) (pv 0) pe_str (nomark _)) (pw_or1 (pt_not (pt_val (pe_callB (call_allU rfl) (by rfl) T.b_all (by decide +kernel) (pa_cons (pe_lc (own := [("digit", 4)]) (g := (gName 4)) (tt := tYes) rfl sc_parse_integer.nd (pi_str (pv 0)) (blkOk_by (N := N_parse_integer) (sc := defScope s_parse_integer) (by decide +kernel)) (fun _ _ _ _ _ => (pg_name (i := 4) sc_parse_integer.nd rfl (Or.inl rfl))) (fun _ _ _ _ _ => pts_nil) (fun _ _ _ _ _ => (pe_cmpR op_inU (pv 4) (pe_glob (by rfl) T.g_DIGITS ⟨_, rfl⟩) (by rfl)))) pa_nil)))))))) (pss_one (ps_ret pe_non)) pss_nil)
      (pss_cons (ps_if (PW.pt (pw_or (PW.pt (pw_and (pt_cmpR (op_eqU hr.units) (pe_ix ix_seq (pv 0) pe_int (fun _ _ => rfl)) pe_str (nomark _)) (pw_and1 (pt_cmpR (op_neU hr.units) (pv 0) pe_str (nomark _))))) (pw_or1 (pt_cmpR op_gtU (pe_callB call_lenU (by rfl) T.b_len (by decide +kernel) (pa_cons (pv 0) pa_nil)) pe_int (nomark _))))) (pss_one (ps_ret pe_non)) pss_nil)
      (pss_cons (ps_set (i := 3) sc_parse_integer.nd rfl (Or.inl rfl) (pe_callTy call_intU (by rfl) T.b_int (by decide +kernel) (pa_cons (pv 0) pa_nil)))
      (pss_one (ps_ret (pe_ifExp (pt_chain op_leU op_leU (pv 1) (pv 3) (pv 2)) (pv 3) pe_non))))))
theorem ok_split_words (T : Txt K mg a) : FnOk P w K mg base CX0 1 a.f_split_words a.d_split_words ["text"] (sp_split_words K) := by
  refine T.F_split_words.ok sc_split_words (fun vs H Q E h => ?_) (fun cdv A outer s H vs Q E hr h => ⟨t_split_words K a, ?_, rd_split_words h⟩)
  · obtain ⟨_, rfl, _⟩ := h
    rfl
  exact (pss_cons (ps_if (PW.pt (pw_or (pt_not (pt_val (pe_callB call_isiU (by rfl) T.b_isinstance (by decide +kernel) (pa_cons (pv 0) (pa_cons (pe_bltn (by rfl) T.b_str (by decide +kernel) rfl) pa_nil))))) (pw_or1 (pt_cmpR op_inU pe_str (pv 0) (by rfl))))) (pss_one (ps_ret pe_non)) pss_nil)
      (pss_cons (ps_set (i := 1) sc_split_words.nd rfl (Or.inl rfl) (pe_m1 PySem.F.slot_str_split PySem.F.type_str_split mt_splitU (pv 0) pe_str))
      (pss_one (ps_ret (pe_ifExp (pt_cmpR op_inU pe_str (pv 1) (by rfl)) pe_non (pv 1))))))
theorem ok__law_words (T : Txt K mg a) : FnOk P w K mg base CX0 1 a.f__law_words a.d__law_words ["_law_text_here"] (sp__law_words K) := by
  refine T.F__law_words.ok sc__law_words (fun vs H Q E h => ?_) (fun cdv A outer s H vs Q E hr h => ⟨t__law_words K a, ?_, rd__law_words h⟩)
  · obtain ⟨_, rfl, _⟩ := h
    rfl
  exact (pss_cons (ps_par (by rfl) sc__law_words.nd rfl rfl (by decide) rfl rfl (pa_cons (pe_lstG pa_nil) (pa_cons pe_str pa_nil)) (by rfl))
      (pss_cons (ps_for PassesOwn.never rfl (pi_str (pv 0)) (pg_name (i := 3) sc__law_words.nd rfl (Or.inl rfl)) (pss_cons (ps_if (PW.pt (pw_or (pt_cmpR (op_eqU hr.units) (pv 3) pe_str (nomark _)) (pw_or1 (PW.pt (pw_and (pt_cmpR (op_eqU hr.units) (pv 3) pe_str (nomark _)) (pw_and1 (pt_cmpR (op_eqU hr.units) (pv 2) pe_str (nomark _)))))))) (pss_one (ps_ret pe_non)) pss_nil)
      (pss_one (ps_if (pt_cmpR (op_eqU hr.units) (pv 3) pe_str (nomark _)) (pss_cons (ps_expr (pe_bm PySem.F.plainAttrs_list PySem.F.slot_list_append PySem.F.type_list_append mt_append (pv 1) (pa_cons (pv 2) pa_nil)))
      (pss_one (ps_set (i := 2) sc__law_words.nd rfl (Or.inl rfl) pe_str))) (pss_one (ps_set (i := 2) sc__law_words.nd rfl (Or.inl rfl) (pe_op op_addU (pv 2) (pv 3))))))))
      (pss_one (ps_ret (pe_ifExp (pt_cmpR (op_eqU hr.units) (pv 2) pe_str (nomark _)) pe_non (pe_op op_addU (pv 1) (pe_lstG (pa_cons (pv 2) pa_nil))))))))
theorem ok__law_value (T : Txt K mg a) : FnOk P w K mg base CX0 1 a.f__law_value a.d__law_value ["_law_text_here"] (sp__law_value K) := by
  refine T.F__law_value.ok sc__law_value (fun vs H Q E h => ?_) (fun cdv A outer s H vs Q E hr h => ⟨t__law_value K a, ?_, rd__law_value h⟩)
  · obtain ⟨_, rfl, _⟩ := h
    rfl
  exact (pss_cons (ps_if (PW.pt (pw_or (pt_cmpR (op_eqU hr.units) (pv 0) pe_str (nomark _)) (pw_or1 (pt_cmpR (op_neU hr.units) (pe_lc (own := [("_law_sign", 2)]) (g := (gName 2)) (tt := (tTest (tOp (rNotInU K) (tVar 2) (tC (.str "0123456789"))))) rfl sc__law_value.nd (pi_str (pv 0)) (blkOk_by (N := N__law_value) (sc := defScope s__law_value) (by decide +kernel)) (fun _ _ _ _ _ => (pg_name (i := 2) sc__law_value.nd rfl (Or.inl rfl))) (fun _ _ _ _ _ => (pts_one (pt_cmpR op_notInU (pv 2) pe_str (by rfl)))) (fun _ _ _ _ _ => (pv 2))) (pe_lstG pa_nil) (nomark _))))) (pss_one (ps_ret pe_non)) pss_nil)
      (pss_cons (ps_if (PW.pt (pw_and (pt_cmpR (op_eqU hr.units) (pe_ix ix_seq (pv 0) pe_int (fun _ _ => rfl)) pe_str (nomark _)) (pw_and1 (pt_cmpR (op_neU hr.units) (pv 0) pe_str (nomark _))))) (pss_one (ps_ret pe_non)) pss_nil)
      (pss_cons (ps_set (i := 1) sc__law_value.nd rfl (Or.inl rfl) pe_int)
      (pss_cons (ps_for PassesOwn.never rfl (pi_str (pv 0)) (pg_name (i := 2) sc__law_value.nd rfl (Or.inl rfl)) (pss_one (ps_set (i := 1) sc__law_value.nd rfl (Or.inl rfl) (pe_op op_addU (pe_op op_mulU pe_int (pv 1)) (pe_m1 PySem.F.slot_str_index PySem.F.type_str_index mt_indexU pe_str (pv 2))))))
      (pss_one (ps_ret (pv 1)))))))
theorem ok__law_text (T : Txt K mg a) : FnOk P w K mg base CX0 2 a.f__law_text a.d__law_text ["_law_box_here"] (sp__law_text K) := by
  have G__law_take : FnOk P w K mg base CX0 1 a.f__law_take a.d__law_take ["_law_box_here", "_law_many"] spTake := ok__law_take T
  refine T.F__law_text.ok sc__law_text (fun vs H Q E h => ?_) (fun cdv A outer s H vs Q E hr h => ⟨t__law_text K a, ?_, rd__law_text h⟩)
  · obtain ⟨_, _, rfl, _⟩ := h
    rfl
  exact (pss_cons (ps_set (i := 1) sc__law_text.nd rfl (Or.inl rfl) (pe_lstG (pa_cons (pe_call G__law_take (hr.mono (by decide)) (by rfl) T.g__law_take T.F__law_take.kp T.bi__law_take .nil pass0 (pa_cons (pv 0) (pa_cons pe_int pa_nil))) (pa_cons (pe_call G__law_take (hr.mono (by decide)) (by rfl) T.g__law_take T.F__law_take.kp T.bi__law_take .nil pass0 (pa_cons (pv 0) (pa_cons pe_int pa_nil))) (pa_cons (pe_op op_addU (pe_op op_mulU (pe_call G__law_take (hr.mono (by decide)) (by rfl) T.g__law_take T.F__law_take.kp T.bi__law_take .nil pass0 (pa_cons (pv 0) (pa_cons (pe_op op_powI pe_int pe_int) pa_nil))) (pe_op op_powI pe_int pe_int)) (pe_call G__law_take (hr.mono (by decide)) (by rfl) T.g__law_take T.F__law_take.kp T.bi__law_take .nil pass0 (pa_cons (pv 0) (pa_cons (pe_op op_powI pe_int pe_int) pa_nil)))) pa_nil)))))
      (pss_cons (ps_set (i := 2) sc__law_text.nd rfl (Or.inl rfl) (pe_callTy call_strI (by rfl) T.b_str (by decide +kernel) (pa_cons (pe_ix ix_seq (pv 1) (pe_call G__law_take (hr.mono (by decide)) (by rfl) T.g__law_take T.F__law_take.kp T.bi__law_take .nil pass0 (pa_cons (pv 0) (pa_cons pe_int pa_nil))) (fun _ _ => rfl)) pa_nil)))
      (pss_cons (ps_set (i := 3) sc__law_text.nd rfl (Or.inl rfl) (pe_call G__law_take (hr.mono (by decide)) (by rfl) T.g__law_take T.F__law_take.kp T.bi__law_take .nil pass0 (pa_cons (pv 0) (pa_cons (pe_op op_addU (pe_callB call_lenU (by rfl) T.b_len (by decide +kernel) (pa_cons (pv 2) pa_nil)) pe_int) pa_nil))))
      (pss_cons (ps_set (i := 4) sc__law_text.nd rfl (Or.inl rfl) (pe_ix ix_seq pe_str (pe_call G__law_take (hr.mono (by decide)) (by rfl) T.g__law_take T.F__law_take.kp T.bi__law_take .nil pass0 (pa_cons (pv 0) (pa_cons pe_int pa_nil))) (fun _ _ => rfl)))
      (pss_cons (ps_set (i := 5) sc__law_text.nd rfl (Or.inl rfl) (pe_lstG (pa_cons (pv 2) (pa_cons (pv 2) (pa_cons (pe_op op_addU (pe_op op_addU (pe_slice sl_U (pv 2) po_none (po_some (pv 3))) (pv 4)) (pe_slice sl_U (pv 2) (po_some (pv 3)) po_none)) (pa_cons (pe_op op_addU (pe_op op_addU (pe_slice sl_U (pv 2) po_none (po_some (pv 3))) (pv 4)) (pe_slice sl_U (pv 2) (po_some (pe_op op_addU (pv 3) pe_int)) po_none)) (pa_cons (pe_op op_addU pe_str (pv 2)) (pa_cons (pe_op op_addU pe_str (pv 2)) (pa_cons pe_str pa_nil)))))))))
      (pss_one (ps_ret (pe_ix ix_seq (pv 5) (pe_call G__law_take (hr.mono (by decide)) (by rfl) T.g__law_take T.F__law_take.kp T.bi__law_take .nil pass0 (pa_cons (pv 0) (pa_cons pe_int pa_nil))) (fun _ _ => rfl)))))))))
theorem ok__law_line (T : Txt K mg a) : FnOk P w K mg base CX0 2 a.f__law_line a.d__law_line ["_law_box_here"] (sp__law_line K) := by
  have G__law_take : FnOk P w K mg base CX0 1 a.f__law_take a.d__law_take ["_law_box_here", "_law_many"] spTake := ok__law_take T
  refine T.F__law_line.ok sc__law_line (fun vs H Q E h => ?_) (fun cdv A outer s H vs Q E hr h => ⟨t__law_line K a, ?_, rd__law_line h⟩)
  · obtain ⟨_, _, rfl, _⟩ := h
    rfl
  exact (pss_cons (ps_set (i := 1) sc__law_line.nd rfl (Or.inr rfl) pe_str)
      (pss_cons (ps_set (i := 1) sc__law_line.nd rfl (Or.inr rfl) (pe_op op_addU (pe_op op_addU (pe_op op_addU (pv 1) pe_str) pe_str) pe_str))
      (pss_cons (ps_set (i := 2) sc__law_line.nd rfl (Or.inl rfl) (pe_lstG pa_nil))
      (pss_cons (ps_for PassesOwn.never rfl (pi_range1 (by rfl) T.b_range (pa_cons (pe_op op_addU pe_int (pe_call G__law_take (hr.mono (by decide)) (by rfl) T.g__law_take T.F__law_take.kp T.bi__law_take .nil pass0 (pa_cons (pv 0) (pa_cons pe_int pa_nil)))) pa_nil)) (pg_name (i := 3) sc__law_line.nd rfl (Or.inl rfl)) (pss_one (ps_expr (pe_bm PySem.F.plainAttrs_list PySem.F.slot_list_append PySem.F.type_list_append mt_append (pv 2) (pa_cons (pe_m1 PySem.F.slot_str_join PySem.F.type_str_join mt_joinU pe_str (pe_lc (own := [("_law_j", 7)]) (g := (gName 7)) (tt := tYes) rfl sc__law_line.nd (pi_range1 (by rfl) T.b_range (pa_cons (pe_op op_addU pe_int (pe_call G__law_take (hr.mono (by decide)) (by rfl) T.g__law_take T.F__law_take.kp T.bi__law_take .nil pass0 (pa_cons (pv 0) (pa_cons pe_int pa_nil)))) pa_nil)) (blkOk_by (N := N__law_line) (sc := defScope s__law_line) (by decide +kernel)) (fun _ _ _ _ _ => (pg_name (i := 7) sc__law_line.nd rfl (Or.inl rfl))) (fun _ _ _ _ _ => pts_nil) (fun _ _ _ _ _ => (pe_ix ix_seq (pv 1) (pe_call G__law_take (hr.mono (by decide)) (by rfl) T.g__law_take T.F__law_take.kp T.bi__law_take .nil pass0 (pa_cons (pv 0) (pa_cons (pe_callB call_lenU (by rfl) T.b_len (by decide +kernel) (pa_cons (pv 1) pa_nil)) pa_nil))) (fun _ _ => rfl))))) pa_nil)))))
      (pss_cons (ps_set (i := 4) sc__law_line.nd rfl (Or.inl rfl) (pe_m1 PySem.F.slot_str_join PySem.F.type_str_join mt_joinU pe_str (pv 2)))
      (pss_cons (ps_set (i := 5) sc__law_line.nd rfl (Or.inl rfl) (pe_call G__law_take (hr.mono (by decide)) (by rfl) T.g__law_take T.F__law_take.kp T.bi__law_take .nil pass0 (pa_cons (pv 0) (pa_cons (pe_op op_addU (pe_callB call_lenU (by rfl) T.b_len (by decide +kernel) (pa_cons (pv 4) pa_nil)) pe_int) pa_nil))))
      (pss_cons (ps_set (i := 6) sc__law_line.nd rfl (Or.inl rfl) (pe_lstG (pa_cons (pv 4) (pa_cons (pv 4) (pa_cons (pv 4) (pa_cons (pe_op op_addU pe_str (pv 4)) (pa_cons (pe_op op_addU (pv 4) pe_str) (pa_cons (pe_op op_addU (pe_op op_addU (pe_slice sl_U (pv 4) po_none (po_some (pv 5))) pe_str) (pe_slice sl_U (pv 4) (po_some (pv 5)) po_none)) (pa_cons (pe_op op_addU (pe_op op_addU (pe_slice sl_U (pv 4) po_none (po_some (pv 5))) pe_str) (pe_slice sl_U (pv 4) (po_some (pv 5)) po_none)) (pa_cons pe_str pa_nil))))))))))
      (pss_one (ps_ret (pe_ix ix_seq (pv 6) (pe_call G__law_take (hr.mono (by decide)) (by rfl) T.g__law_take T.F__law_take.kp T.bi__law_take .nil pass0 (pa_cons (pv 0) (pa_cons pe_int pa_nil))) (fun _ _ => rfl)))))))))))
theorem ok__law_number_right (T : Txt K mg a) : FnG P w K mg base CX0 2 a.f__law_number_right a.d__law_number_right ["_law_text_here", "_law_least", "_law_most"] (sp__law_number_right K) := by
  have G__law_value : FnOk P w K mg base CX0 1 a.f__law_value a.d__law_value ["_law_text_here"] (sp__law_value K) := ok__law_value T
  have G_parse_integer : FnOk P w K mg base CX0 1 a.f_parse_integer a.d_parse_integer ["text", "low", "high"] (sp_parse_integer K) := ok_parse_integer T
  obtain ⟨_, KB_parse_integer_low_high⟩ := kb1 T
  obtain ⟨_, KB_parse_integer_low⟩ := kb2 T
  obtain ⟨_, dv_parse_integer, bi_parse_integer⟩ := kb0 T
  refine CN.Fun.okG T.F__law_number_right sc__law_number_right (fun vs H Q E h => ?_) (fun cdv A outer s H vs Q E hr hgd h => ⟨t__law_number_right K a, ?_, rd__law_number_right h⟩)
  · obtain ⟨_, _, _, rfl, _⟩ := h
    rfl
  exact (pss_cons (ps_set (i := 3) sc__law_number_right.nd rfl (Or.inl rfl) (pe_call G__law_value (hr.mono (by decide)) (by rfl) T.g__law_value T.F__law_value.kp T.bi__law_value .nil pass0 (pa_cons (pv 0) pa_nil)))
      (pss_cons (ps_set (i := 4) sc__law_number_right.nd rfl (Or.inl rfl) (pe_ifExp (PW.pt (pw_and (pt_cmpR op_notNU (pv 3) pe_non (nomark _)) (pw_and1 (pt_chain op_leU op_leU (pv 1) (pv 3) (pv 2))))) (pv 3) pe_non))
      (pss_cons (ps_if (pt_cmpR (op_neU hr.units) (pe_callB (call_reprD hgd (room100 hr)) (by rfl) T.b_repr (by decide +kernel) (pa_cons (pe_callM G_parse_integer (hr.mono (by decide)) (by rfl) T.g_parse_integer T.F_parse_integer.kp KB_parse_integer_low_high pass0 (pa_cons (pv 0) pa_nil) (pk_cons (pv 1) (pk_cons (pv 2) pk_nil))) pa_nil)) (pe_callB (call_reprD hgd (room100 hr)) (by rfl) T.b_repr (by decide +kernel) (pa_cons (pv 4) pa_nil)) (nomark _)) (pss_one (ps_ret pe_bl)) pss_nil)
      (pss_cons (ps_set (i := 4) sc__law_number_right.nd rfl (Or.inl rfl) (pe_ifExp (PW.pt (pw_and (pt_cmpR op_notNU (pv 3) pe_non (nomark _)) (pw_and1 (pt_cmpR op_leU (pv 3) pe_int (nomark _))))) (pv 3) pe_non))
      (pss_cons (ps_if (pt_cmpR (op_neU hr.units) (pe_callB (call_reprD hgd (room100 hr)) (by rfl) T.b_repr (by decide +kernel) (pa_cons (pe_call G_parse_integer (hr.mono (by decide)) (by rfl) T.g_parse_integer T.F_parse_integer.kp bi_parse_integer dv_parse_integer pass0 (pa_cons (pv 0) pa_nil)) pa_nil)) (pe_callB (call_reprD hgd (room100 hr)) (by rfl) T.b_repr (by decide +kernel) (pa_cons (pv 4) pa_nil)) (nomark _)) (pss_one (ps_ret pe_bl)) pss_nil)
      (pss_cons (ps_set (i := 4) sc__law_number_right.nd rfl (Or.inl rfl) (pe_ifExp (PW.pt (pw_and (pt_cmpR op_notNU (pv 3) pe_non (nomark _)) (pw_and1 (pt_chain op_leU op_leU (pv 1) (pv 3) pe_int)))) (pv 3) pe_non))
      (pss_one (ps_ret (pe_cmpR (op_eqU hr.units) (pe_callB (call_reprD hgd (room100 hr)) (by rfl) T.b_repr (by decide +kernel) (pa_cons (pe_callM G_parse_integer (hr.mono (by decide)) (by rfl) T.g_parse_integer T.F_parse_integer.kp KB_parse_integer_low pass0 (pa_cons (pv 0) pa_nil) (pk_cons (pv 1) pk_nil)) pa_nil)) (pe_callB (call_reprD hgd (room100 hr)) (by rfl) T.b_repr (by decide +kernel) (pa_cons (pv 4) pa_nil)) (nomark _))))))))))
theorem ok_InvalidName___init__ (T : Txt K mg a) : FnOk P w K mg base CX0 1 a.f_InvalidName___init__ a.d_InvalidName___init__ ["self", "value"] (spXI a.c_InvalidName "value") := by
  refine T.F_InvalidName___init__.ok sc_InvalidName___init__ (fun vs H Q E h => ?_) (fun cdv A outer s H vs Q E hr h => ⟨tXI K "value" "not a name", ?_, rd_xi T.e_InvalidName rfl h⟩)
  · obtain ⟨_, _, rfl, _⟩ := h
    rfl
  exact pss_cons (ps_expr (pe_binit T.e_CaughtError (by rfl) T.g_CaughtError (pa_cons (pv 0) (pa_cons pe_str pa_nil)))) (pss_one (ps_ost (pv 0) (pv 1)))
theorem ok_law (T : Txt K mg a) : FnG P w K mg base CX0 9 a.f_law a.d_law ["_law_script"] (sp_law K) := by
  have G__law_value : FnOk P w K mg base CX0 1 a.f__law_value a.d__law_value ["_law_text_here"] (sp__law_value K) := ok__law_value T
  have G_parse_integer : FnOk P w K mg base CX0 1 a.f_parse_integer a.d_parse_integer ["text", "low", "high"] (sp_parse_integer K) := ok_parse_integer T
  obtain ⟨_, KB_parse_integer_low_high⟩ := kb1 T
  have G_split_words : FnOk P w K mg base CX0 1 a.f_split_words a.d_split_words ["text"] (sp_split_words K) := ok_split_words T
  have G__law_words : FnOk P w K mg base CX0 1 a.f__law_words a.d__law_words ["_law_text_here"] (sp__law_words K) := ok__law_words T
  have G__law_text : FnOk P w K mg base CX0 2 a.f__law_text a.d__law_text ["_law_box_here"] (sp__law_text K) := ok__law_text T
  have G__law_line : FnOk P w K mg base CX0 2 a.f__law_line a.d__law_line ["_law_box_here"] (sp__law_line K) := ok__law_line T
  have G__law_number_right : FnG P w K mg base CX0 2 a.f__law_number_right a.d__law_number_right ["_law_text_here", "_law_least", "_law_most"] (sp__law_number_right K) := ok__law_number_right T
  have G__law_take : FnOk P w K mg base CX0 1 a.f__law_take a.d__law_take ["_law_box_here", "_law_many"] spTake := ok__law_take T
  have G__law_cell : FnOk P w K mg base CX0 1 a.f__law_cell a.d__law_cell ["_law_script", "_law_k"] (spCell K) := ok__law_cell T
  have G__law_box : FnOk P w K mg base CX0 1 a.f__law_box a.d__law_box ["_law_cell_here"] spBox := ok__law_box T
  have G_InvalidName___init__ : FnOk P w K mg base CX0 1 a.f_InvalidName___init__ a.d_InvalidName___init__ ["self", "value"] (spXI a.c_InvalidName "value") := ok_InvalidName___init__ T
  refine CN.Fun.okG T.F_law sc_law (fun vs H Q E h => ?_) (fun cdv A outer s H vs Q E hr hgd h => ⟨t_law K a, ?_, rd_law T (kit_own (by decide +kernel) T.xs_InvalidName) h⟩)
  · obtain ⟨_, _, rfl, _⟩ := h
    rfl
  exact (pss_cons (ps_for PassesOwn.never rfl (pi_range1 (by rfl) T.b_range (pa_cons (pe_callB (call_maxI rfl) (by rfl) T.b_max (by decide +kernel) (pa_cons pe_int (pa_cons (pe_callB (call_minI rfl) (by rfl) T.b_min (by decide +kernel) (pa_cons pe_int (pa_cons (pe_callB call_lenU (by rfl) T.b_len (by decide +kernel) (pa_cons (pv 0) pa_nil)) pa_nil))) pa_nil))) pa_nil)) (pg_name (i := 1) sc_law.nd rfl (Or.inl rfl)) (pss_cons (ps_set (i := 2) sc_law.nd rfl (Or.inl rfl) (pe_call G__law_box (hr.mono (by decide)) (by rfl) T.g__law_box T.F__law_box.kp T.bi__law_box .nil pass0 (pa_cons (pe_call G__law_cell (hr.mono (by decide)) (by rfl) T.g__law_cell T.F__law_cell.kp T.bi__law_cell .nil pass0 (pa_cons (pv 0) (pa_cons (pv 1) pa_nil))) pa_nil)))
      (pss_cons (ps_for PassesOwn.never rfl (pi_range1 (by rfl) T.b_range (pa_cons pe_int pa_nil)) (pg_name (i := 3) sc_law.nd rfl (Or.inl rfl)) (pss_cons (ps_set (i := 5) sc_law.nd rfl (Or.inl rfl) (pe_call G__law_text (hr.mono (by decide)) (by rfl) T.g__law_text T.F__law_text.kp T.bi__law_text .nil pass0 (pa_cons (pv 2) pa_nil)))
      (pss_cons (ps_set (i := 6) sc_law.nd rfl (Or.inl rfl) (pe_call G__law_value (hr.mono (by decide)) (by rfl) T.g__law_value T.F__law_value.kp T.bi__law_value .nil pass0 (pa_cons (pv 5) pa_nil)))
      (pss_cons (ps_set (i := 7) sc_law.nd rfl (Or.inl rfl) (pe_ifExp (pt_cmpR op_isNU (pv 6) pe_non (nomark _)) pe_int (pv 6)))
      (pss_cons (ps_set (i := 8) sc_law.nd rfl (Or.inl rfl) (pe_ix ix_seq (pe_lstG (pa_cons pe_int (pa_cons (pe_op op_subI (pv 7) pe_int) (pa_cons (pv 7) (pa_cons (pe_op op_addU (pv 7) pe_int) (pa_cons (pe_un un_negI pe_int) pa_nil)))))) (pe_call G__law_take (hr.mono (by decide)) (by rfl) T.g__law_take T.F__law_take.kp T.bi__law_take .nil pass0 (pa_cons (pv 2) (pa_cons pe_int pa_nil))) (fun _ _ => rfl)))
      (pss_cons (ps_set (i := 9) sc_law.nd rfl (Or.inl rfl) (pe_ix ix_seq (pe_lstG (pa_cons (pv 7) (pa_cons (pe_op op_subI (pv 7) pe_int) (pa_cons (pe_op op_addU (pv 7) pe_int) (pa_cons (pe_op op_powI pe_int pe_int) (pa_cons pe_int pa_nil)))))) (pe_call G__law_take (hr.mono (by decide)) (by rfl) T.g__law_take T.F__law_take.kp T.bi__law_take .nil pass0 (pa_cons (pv 2) (pa_cons pe_int pa_nil))) (fun _ _ => rfl)))
      (pss_cons (ps_if (pt_not (pt_val (pe_callG G__law_number_right (hr.mono (by decide)) hgd (by rfl) T.g__law_number_right T.F__law_number_right.kp T.bi__law_number_right .nil pass0 (pa_cons (pv 5) (pa_cons (pv 8) (pa_cons (pv 9) pa_nil)))))) (pss_one (ps_ret pe_bl)) pss_nil)
      (pss_cons (ps_set (i := 10) sc_law.nd rfl (Or.inl rfl) (pe_call G__law_line (hr.mono (by decide)) (by rfl) T.g__law_line T.F__law_line.kp T.bi__law_line .nil pass0 (pa_cons (pv 2) pa_nil)))
      (pss_one (ps_for PassesOwn.never rfl (pi_range1 (by rfl) T.b_range (pa_cons pe_int pa_nil)) (pg_name (i := 11) sc_law.nd rfl (Or.inl rfl)) (pss_cons (ps_set (i := 12) sc_law.nd rfl (Or.inl rfl) (pe_call G_split_words (hr.mono (by decide)) (by rfl) T.g_split_words T.F_split_words.kp T.bi_split_words .nil pass0 (pa_cons (pv 10) pa_nil)))
      (pss_cons (ps_if (pt_cmpR (op_neU hr.units) (pe_callB (call_reprD hgd (room100 hr)) (by rfl) T.b_repr (by decide +kernel) (pa_cons (pv 12) pa_nil)) (pe_callB (call_reprD hgd (room100 hr)) (by rfl) T.b_repr (by decide +kernel) (pa_cons (pe_call G__law_words (hr.mono (by decide)) (by rfl) T.g__law_words T.F__law_words.kp T.bi__law_words .nil pass0 (pa_cons (pv 10) pa_nil)) pa_nil)) (nomark _)) (pss_one (ps_ret pe_bl)) pss_nil)
      (pss_one (ps_if (pt_cmpR op_notNU (pv 12) pe_non (nomark _)) (pss_one (ps_expr (pe_bm PySem.F.plainAttrs_list PySem.F.slot_list_append PySem.F.type_list_append mt_append (pv 12) (pa_cons pe_str pa_nil)))) pss_nil))))))))))))))
      (pss_one (ps_for PassesOwn.never rfl (pi_list (pe_lstG (pa_cons pe_non (pa_cons pe_int (pa_cons pe_bl (pa_cons (pe_lstG (pa_cons pe_str pa_nil)) (pa_cons (pe_tupG (pa_cons pe_str pa_nil)) (pa_cons pe_dnewK (pa_cons (pe_disp (pps_cons pe_str pe_int pps_nil) (by rfl) (by rfl) (fun z => by cases z) (by decide)) (pa_cons (pe_lstG (pa_cons pe_str (pa_cons pe_str pa_nil))) (pa_cons (pe_mkX T.e_InvalidName.ox T.i_InvalidName___init__ T.ty_InvalidName___init__ G_InvalidName___init__ (hr.mono (by decide)) T.bi_InvalidName___init__ pass0 (by rfl) T.g_InvalidName (pa_cons pe_str pa_nil)) pa_nil))))))))))) (pg_name (i := 4) sc_law.nd rfl (Or.inl rfl)) (pss_one (ps_if (PW.pt (pw_or (pt_cmpR op_notNU (pe_callM G_parse_integer (hr.mono (by decide)) (by rfl) T.g_parse_integer T.F_parse_integer.kp KB_parse_integer_low_high pass0 (pa_cons (pv 4) pa_nil) (pk_cons pe_int (pk_cons pe_int pk_nil))) pe_non (nomark _)) (pw_or1 (pt_cmpR op_notNU (pe_call G_split_words (hr.mono (by decide)) (by rfl) T.g_split_words T.F_split_words.kp T.bi_split_words .nil pass0 (pa_cons (pv 4) pa_nil)) pe_non (nomark _))))) (pss_one (ps_ret pe_bl)) pss_nil)))))))
      (pss_one (ps_ret pe_bl)))
end
end K02

set_option Elab.async false
set_option linter.all false
set_option maxRecDepth 100000
set_option maxHeartbeats 8000000
namespace K02
open PySem PySem.Spec PyProof.Rows L2 CN Evl
theorem txt_mk {K : PySem.W.Frag} {h : Heap} {mg : Str → Option Value} (X : K.In h) (G : h.Ns mainGlobals mg)
    {f1 dk1 : Addr} {od1 an1 : Option Addr} {sl1 : Array (Option Value)} {oc1 dc1 pm1 cd1 ct1 : Value} {tk1_low tk1_high : Tok}
    {f2 : Addr} {od2 an2 : Option Addr} {sl2 : Array (Option Value)} {oc2 kV2 dc2 pm2 cd2 ct2 : Value}
    {f3 : Addr} {od3 an3 : Option Addr} {sl3 : Array (Option Value)} {oc3 kV3 dc3 pm3 cd3 ct3 : Value}
    {f4 : Addr} {od4 an4 : Option Addr} {sl4 : Array (Option Value)} {oc4 kV4 dc4 pm4 cd4 ct4 : Value}
    {f5 : Addr} {od5 an5 : Option Addr} {sl5 : Array (Option Value)} {oc5 kV5 dc5 pm5 cd5 ct5 : Value}
    {f6 : Addr} {od6 an6 : Option Addr} {sl6 : Array (Option Value)} {oc6 kV6 dc6 pm6 cd6 ct6 : Value}
    {f7 : Addr} {od7 an7 : Option Addr} {sl7 : Array (Option Value)} {oc7 kV7 dc7 pm7 cd7 ct7 : Value}
    {f8 : Addr} {od8 an8 : Option Addr} {sl8 : Array (Option Value)} {oc8 kV8 dc8 pm8 cd8 ct8 : Value}
    {f9 : Addr} {od9 an9 : Option Addr} {sl9 : Array (Option Value)} {oc9 kV9 dc9 pm9 cd9 ct9 : Value}
    {f10 : Addr} {od10 an10 : Option Addr} {sl10 : Array (Option Value)} {oc10 kV10 dc10 pm10 cd10 ct10 : Value}
    {f11 : Addr} {od11 an11 : Option Addr} {sl11 : Array (Option Value)} {oc11 kV11 dc11 pm11 cd11 ct11 : Value}
    {f12 : Addr} {od12 an12 : Option Addr} {sl12 : Array (Option Value)} {oc12 kV12 dc12 pm12 cd12 ct12 : Value}
    {t_DIGITS : Tok}
    {z_CaughtError : Addr}
    {z_InvalidName : Addr}
    {nm_z_InvalidName q_z_InvalidName : Str} {N_z_InvalidName : Addr} {bs_z_InvalidName bm_z_InvalidName : List Value} {sn_z_InvalidName : List Str} {sub_z_InvalidName : List Value} {ab_z_InvalidName : Bool} {col_z_InvalidName : Option Bool} {dd_z_InvalidName : Option Addr} {k0_z_InvalidName k1_z_InvalidName k2_z_InvalidName k3_z_InvalidName k5_z_InvalidName : Option Value}
    (h_InvalidName : PySem.W.nsIn K mainGlobals "InvalidName" = some (some (.ref z_InvalidName)))
    (h_CaughtError : PySem.W.nsIn K mainGlobals "CaughtError" = some (some (.ref z_CaughtError)))
    (a1 : PySem.W.nsIn K mainGlobals "parse_integer" = some (some (.ref f1)))
    (l1 : K.lookup f1 = some ⟨oc1, od1, .func (PySem.W.fnOf "parse_integer" "parse_integer" (defArgs s_parse_integer) (defBody s_parse_integer) (defScope s_parse_integer) .none (.ref dk1) dc1 pm1 an1 cd1 ct1), sl1⟩)
    (c1 : PySem.W.codeIn K cd1 "parse_integer" = true)
    (k1 : PySem.W.keepIn K (.ref f1) = true)
    (kd1_low : PySem.W.nsIn K dk1 "low" = some (some (.int 0 tk1_low)))
    (kd1_high : PySem.W.nsIn K dk1 "high" = some (some (.int 999 tk1_high)))
    (a2 : PySem.W.nsIn K mainGlobals "split_words" = some (some (.ref f2)))
    (l2 : K.lookup f2 = some ⟨oc2, od2, .func (PySem.W.fnOf "split_words" "split_words" (defArgs s_split_words) (defBody s_split_words) (defScope s_split_words) .none kV2 dc2 pm2 an2 cd2 ct2), sl2⟩)
    (c2 : PySem.W.codeIn K cd2 "split_words" = true)
    (k2 : PySem.W.keepIn K (.ref f2) = true)
    (a3 : PySem.W.findIn K (.ref z_InvalidName) "__init__" = some (some (.ref f3)))
    (ty3 : PySem.W.typeIn K (.ref f3) = some (.type "function"))
    (l3 : K.lookup f3 = some ⟨oc3, od3, .func (PySem.W.fnOf "__init__" "InvalidName.__init__" (defArgs s_InvalidName___init__) (defBody s_InvalidName___init__) (defScope s_InvalidName___init__) .none kV3 dc3 pm3 an3 cd3 ct3), sl3⟩)
    (c3 : PySem.W.codeIn K cd3 "InvalidName.__init__" = true)
    (k3 : PySem.W.keepIn K (.ref f3) = true)
    (a4 : PySem.W.nsIn K mainGlobals "_law_cell" = some (some (.ref f4)))
    (l4 : K.lookup f4 = some ⟨oc4, od4, .func (PySem.W.fnOf "_law_cell" "_law_cell" (defArgs s__law_cell) (defBody s__law_cell) (defScope s__law_cell) .none kV4 dc4 pm4 an4 cd4 ct4), sl4⟩)
    (c4 : PySem.W.codeIn K cd4 "_law_cell" = true)
    (k4 : PySem.W.keepIn K (.ref f4) = true)
    (a5 : PySem.W.nsIn K mainGlobals "_law_box" = some (some (.ref f5)))
    (l5 : K.lookup f5 = some ⟨oc5, od5, .func (PySem.W.fnOf "_law_box" "_law_box" (defArgs s__law_box) (defBody s__law_box) (defScope s__law_box) .none kV5 dc5 pm5 an5 cd5 ct5), sl5⟩)
    (c5 : PySem.W.codeIn K cd5 "_law_box" = true)
    (k5 : PySem.W.keepIn K (.ref f5) = true)
    (a6 : PySem.W.nsIn K mainGlobals "_law_take" = some (some (.ref f6)))
    (l6 : K.lookup f6 = some ⟨oc6, od6, .func (PySem.W.fnOf "_law_take" "_law_take" (defArgs s__law_take) (defBody s__law_take) (defScope s__law_take) .none kV6 dc6 pm6 an6 cd6 ct6), sl6⟩)
    (c6 : PySem.W.codeIn K cd6 "_law_take" = true)
    (k6 : PySem.W.keepIn K (.ref f6) = true)
    (a7 : PySem.W.nsIn K mainGlobals "_law_text" = some (some (.ref f7)))
    (l7 : K.lookup f7 = some ⟨oc7, od7, .func (PySem.W.fnOf "_law_text" "_law_text" (defArgs s__law_text) (defBody s__law_text) (defScope s__law_text) .none kV7 dc7 pm7 an7 cd7 ct7), sl7⟩)
    (c7 : PySem.W.codeIn K cd7 "_law_text" = true)
    (k7 : PySem.W.keepIn K (.ref f7) = true)
    (a8 : PySem.W.nsIn K mainGlobals "_law_value" = some (some (.ref f8)))
    (l8 : K.lookup f8 = some ⟨oc8, od8, .func (PySem.W.fnOf "_law_value" "_law_value" (defArgs s__law_value) (defBody s__law_value) (defScope s__law_value) .none kV8 dc8 pm8 an8 cd8 ct8), sl8⟩)
    (c8 : PySem.W.codeIn K cd8 "_law_value" = true)
    (k8 : PySem.W.keepIn K (.ref f8) = true)
    (a9 : PySem.W.nsIn K mainGlobals "_law_number_right" = some (some (.ref f9)))
    (l9 : K.lookup f9 = some ⟨oc9, od9, .func (PySem.W.fnOf "_law_number_right" "_law_number_right" (defArgs s__law_number_right) (defBody s__law_number_right) (defScope s__law_number_right) .none kV9 dc9 pm9 an9 cd9 ct9), sl9⟩)
    (c9 : PySem.W.codeIn K cd9 "_law_number_right" = true)
    (k9 : PySem.W.keepIn K (.ref f9) = true)
    (a10 : PySem.W.nsIn K mainGlobals "_law_words" = some (some (.ref f10)))
    (l10 : K.lookup f10 = some ⟨oc10, od10, .func (PySem.W.fnOf "_law_words" "_law_words" (defArgs s__law_words) (defBody s__law_words) (defScope s__law_words) .none kV10 dc10 pm10 an10 cd10 ct10), sl10⟩)
    (c10 : PySem.W.codeIn K cd10 "_law_words" = true)
    (k10 : PySem.W.keepIn K (.ref f10) = true)
    (a11 : PySem.W.nsIn K mainGlobals "_law_line" = some (some (.ref f11)))
    (l11 : K.lookup f11 = some ⟨oc11, od11, .func (PySem.W.fnOf "_law_line" "_law_line" (defArgs s__law_line) (defBody s__law_line) (defScope s__law_line) .none kV11 dc11 pm11 an11 cd11 ct11), sl11⟩)
    (c11 : PySem.W.codeIn K cd11 "_law_line" = true)
    (k11 : PySem.W.keepIn K (.ref f11) = true)
    (a12 : PySem.W.nsIn K mainGlobals "law" = some (some (.ref f12)))
    (l12 : K.lookup f12 = some ⟨oc12, od12, .func (PySem.W.fnOf "law" "law" (defArgs s_law) (defBody s_law) (defScope s_law) .none kV12 dc12 pm12 an12 cd12 ct12), sl12⟩)
    (c12 : PySem.W.codeIn K cd12 "law" = true)
    (k12 : PySem.W.keepIn K (.ref f12) = true)
    (h_DIGITS : PySem.W.nsIn K mainGlobals "DIGITS" = some (some (.str "0123456789" t_DIGITS)))
    (x_CaughtError_sg : PySem.W.specialIn K (.ref z_CaughtError) "__getattribute__" = some (some (.builtin "type.__getattribute__")))
    (x_CaughtError_rd : PySem.W.readsIn K z_CaughtError (.type "type") = true)
    (x_CaughtError_fc : PySem.W.findCls K (.ref z_CaughtError) (.type "type") "__init__" = some (.val (.builtin "ValueError.__init__")))
    (x_InvalidName_cls : K.lookup z_InvalidName = some (excClassObj nm_z_InvalidName q_z_InvalidName z_InvalidName N_z_InvalidName bs_z_InvalidName bm_z_InvalidName true sn_z_InvalidName sub_z_InvalidName ab_z_InvalidName col_z_InvalidName dd_z_InvalidName k0_z_InvalidName k1_z_InvalidName k2_z_InvalidName k3_z_InvalidName k5_z_InvalidName "ValueError.__new__"))
    (x_InvalidName_bm : PySem.HandSPX.refsVE bm_z_InvalidName = true)
    (x_InvalidName_sa : PySem.W.findIn K (.ref z_InvalidName) "__setattr__" = some (some (.builtin "object.__setattr__")))
    (x_InvalidName_ga : PySem.W.findIn K (.ref z_InvalidName) "__getattribute__" = some (some (.builtin "BaseException.__getattribute__")))
    (x_InvalidName_gg : PySem.W.findIn K (.ref z_InvalidName) "__getattr__" = some none)
    (x_InvalidName_ex : PySem.W.subIn K (.ref z_InvalidName) (.type "BaseException") = some true)
    (x_InvalidName_ty : PySem.W.typeIn K (.ref z_InvalidName) = some (.type "type"))
    (x_InvalidName_kp : PySem.W.keepIn K (.ref z_InvalidName) = true)
    (x_InvalidName_hd : PySem.W.hasDictIn K z_InvalidName = true)
    (x_InvalidName_ca : PySem.W.findIn K (.ref z_InvalidName) "__class__" = some (some (.builtin "object.__class__")))
    (x_InvalidName_cg : PySem.W.specialIn K (.builtin "object.__class__") "__get__" = some (some (.builtin "getset_descriptor.__get__")))
    (x_InvalidName_ct : PySem.W.takesIn K (.builtin "object.__class__") = some true)
    (x_InvalidName_mo : PySem.W.mroIn K z_InvalidName (.type "object") = some true)
    (x_InvalidName_fv : PySem.W.findIn K (.ref z_InvalidName) "value" = some none)
    (u_xs_InvalidName : PySem.W.subIn K (.ref z_InvalidName) (.type "str") = some false)
    (b_len : PySem.W.nsIn K mainGlobals "len" = some none)
    (b_max : PySem.W.nsIn K mainGlobals "max" = some none)
    (b_min : PySem.W.nsIn K mainGlobals "min" = some none)
    (b_str : PySem.W.nsIn K mainGlobals "str" = some none)
    (b_int : PySem.W.nsIn K mainGlobals "int" = some none)
    (b_bool : PySem.W.nsIn K mainGlobals "bool" = some none)
    (b_isinstance : PySem.W.nsIn K mainGlobals "isinstance" = some none)
    (b_all : PySem.W.nsIn K mainGlobals "all" = some none)
    (b_range : PySem.W.nsIn K mainGlobals "range" = some none)
    (b_repr : PySem.W.nsIn K mainGlobals "repr" = some none) :
    ∃ a : Ad, Txt K mg a :=
  ⟨{ f_parse_integer := f1, d_parse_integer := PySem.W.fnOf "parse_integer" "parse_integer" (defArgs s_parse_integer) (defBody s_parse_integer) (defScope s_parse_integer) .none (.ref dk1) dc1 pm1 an1 cd1 ct1,
      f_split_words := f2, d_split_words := PySem.W.fnOf "split_words" "split_words" (defArgs s_split_words) (defBody s_split_words) (defScope s_split_words) .none kV2 dc2 pm2 an2 cd2 ct2,
      f_InvalidName___init__ := f3, d_InvalidName___init__ := PySem.W.fnOf "__init__" "InvalidName.__init__" (defArgs s_InvalidName___init__) (defBody s_InvalidName___init__) (defScope s_InvalidName___init__) .none kV3 dc3 pm3 an3 cd3 ct3,
      f__law_cell := f4, d__law_cell := PySem.W.fnOf "_law_cell" "_law_cell" (defArgs s__law_cell) (defBody s__law_cell) (defScope s__law_cell) .none kV4 dc4 pm4 an4 cd4 ct4,
      f__law_box := f5, d__law_box := PySem.W.fnOf "_law_box" "_law_box" (defArgs s__law_box) (defBody s__law_box) (defScope s__law_box) .none kV5 dc5 pm5 an5 cd5 ct5,
      f__law_take := f6, d__law_take := PySem.W.fnOf "_law_take" "_law_take" (defArgs s__law_take) (defBody s__law_take) (defScope s__law_take) .none kV6 dc6 pm6 an6 cd6 ct6,
      f__law_text := f7, d__law_text := PySem.W.fnOf "_law_text" "_law_text" (defArgs s__law_text) (defBody s__law_text) (defScope s__law_text) .none kV7 dc7 pm7 an7 cd7 ct7,
      f__law_value := f8, d__law_value := PySem.W.fnOf "_law_value" "_law_value" (defArgs s__law_value) (defBody s__law_value) (defScope s__law_value) .none kV8 dc8 pm8 an8 cd8 ct8,
      f__law_number_right := f9, d__law_number_right := PySem.W.fnOf "_law_number_right" "_law_number_right" (defArgs s__law_number_right) (defBody s__law_number_right) (defScope s__law_number_right) .none kV9 dc9 pm9 an9 cd9 ct9,
      f__law_words := f10, d__law_words := PySem.W.fnOf "_law_words" "_law_words" (defArgs s__law_words) (defBody s__law_words) (defScope s__law_words) .none kV10 dc10 pm10 an10 cd10 ct10,
      f__law_line := f11, d__law_line := PySem.W.fnOf "_law_line" "_law_line" (defArgs s__law_line) (defBody s__law_line) (defScope s__law_line) .none kV11 dc11 pm11 an11 cd11 ct11,
      f_law := f12, d_law := PySem.W.fnOf "law" "law" (defArgs s_law) (defBody s_law) (defScope s_law) .none kV12 dc12 pm12 an12 cd12 ct12,
      t_DIGITS := t_DIGITS,
      c_CaughtError := z_CaughtError,
      c_InvalidName := z_InvalidName },
   { F_parse_integer := ⟨⟨_, _, .none, .ref dk1, _, _, _, _, _, _, rfl, l1, c1, .inl ⟨rfl, rfl⟩, .inr ⟨dk1, rfl, fun q hq => by
        simp only [List.mem_cons, List.not_mem_nil, or_false] at hq
        rcases hq with rfl | rfl
        · exact ⟨_, kd1_low, ⟨_, rfl⟩⟩
        · exact ⟨_, kd1_high, ⟨_, rfl⟩⟩⟩⟩, k1⟩,
      g_parse_integer := PySem.W.mg_of X G a1,
      F_split_words := fun_mk (st := s_split_words) l2 c2 k2,
      bi_split_words := (fun_mk (st := s_split_words) l2 c2 k2).binds (ps := ["text"]) fun _ _ _ _ _ _ us hl => match us, hl with | [_], _ => rfl,
      g_split_words := PySem.W.mg_of X G a2,
      F_InvalidName___init__ := fun_mk (st := s_InvalidName___init__) l3 c3 k3,
      bi_InvalidName___init__ := (fun_mk (st := s_InvalidName___init__) l3 c3 k3).binds (ps := ["self", "value"]) fun _ _ _ _ _ _ us hl => match us, hl with | [_, _], _ => rfl,
      i_InvalidName___init__ := a3,
      ty_InvalidName___init__ := ty3,
      F__law_cell := fun_mk (st := s__law_cell) l4 c4 k4,
      bi__law_cell := (fun_mk (st := s__law_cell) l4 c4 k4).binds (ps := ["_law_script", "_law_k"]) fun _ _ _ _ _ _ us hl => match us, hl with | [_, _], _ => rfl,
      g__law_cell := PySem.W.mg_of X G a4,
      F__law_box := fun_mk (st := s__law_box) l5 c5 k5,
      bi__law_box := (fun_mk (st := s__law_box) l5 c5 k5).binds (ps := ["_law_cell_here"]) fun _ _ _ _ _ _ us hl => match us, hl with | [_], _ => rfl,
      g__law_box := PySem.W.mg_of X G a5,
      F__law_take := fun_mk (st := s__law_take) l6 c6 k6,
      bi__law_take := (fun_mk (st := s__law_take) l6 c6 k6).binds (ps := ["_law_box_here", "_law_many"]) fun _ _ _ _ _ _ us hl => match us, hl with | [_, _], _ => rfl,
      g__law_take := PySem.W.mg_of X G a6,
      F__law_text := fun_mk (st := s__law_text) l7 c7 k7,
      bi__law_text := (fun_mk (st := s__law_text) l7 c7 k7).binds (ps := ["_law_box_here"]) fun _ _ _ _ _ _ us hl => match us, hl with | [_], _ => rfl,
      g__law_text := PySem.W.mg_of X G a7,
      F__law_value := fun_mk (st := s__law_value) l8 c8 k8,
      bi__law_value := (fun_mk (st := s__law_value) l8 c8 k8).binds (ps := ["_law_text_here"]) fun _ _ _ _ _ _ us hl => match us, hl with | [_], _ => rfl,
      g__law_value := PySem.W.mg_of X G a8,
      F__law_number_right := fun_mk (st := s__law_number_right) l9 c9 k9,
      bi__law_number_right := (fun_mk (st := s__law_number_right) l9 c9 k9).binds (ps := ["_law_text_here", "_law_least", "_law_most"]) fun _ _ _ _ _ _ us hl => match us, hl with | [_, _, _], _ => rfl,
      g__law_number_right := PySem.W.mg_of X G a9,
      F__law_words := fun_mk (st := s__law_words) l10 c10 k10,
      bi__law_words := (fun_mk (st := s__law_words) l10 c10 k10).binds (ps := ["_law_text_here"]) fun _ _ _ _ _ _ us hl => match us, hl with | [_], _ => rfl,
      g__law_words := PySem.W.mg_of X G a10,
      F__law_line := fun_mk (st := s__law_line) l11 c11 k11,
      bi__law_line := (fun_mk (st := s__law_line) l11 c11 k11).binds (ps := ["_law_box_here"]) fun _ _ _ _ _ _ us hl => match us, hl with | [_], _ => rfl,
      g__law_line := PySem.W.mg_of X G a11,
      F_law := fun_mk (st := s_law) l12 c12 k12,
      bi_law := (fun_mk (st := s_law) l12 c12 k12).binds (ps := ["_law_script"]) fun _ _ _ _ _ _ us hl => match us, hl with | [_], _ => rfl,
      g_law := PySem.W.mg_of X G a12,
      lb := fun _ _ => .of_eq rfl,
      g_DIGITS := PySem.W.mg_of X G h_DIGITS,
      g_CaughtError := PySem.W.mg_of X G h_CaughtError,
      e_CaughtError := ⟨x_CaughtError_sg, x_CaughtError_rd, x_CaughtError_fc⟩,
      g_InvalidName := PySem.W.mg_of X G h_InvalidName,
      e_InvalidName := ⟨⟨⟨_, _, _, _, _, _, _, _, _, _, _, _, _, _, _, x_InvalidName_cls, x_InvalidName_bm⟩, x_InvalidName_sa, x_InvalidName_ex, x_InvalidName_ty, x_InvalidName_kp⟩, ⟨x_InvalidName_ga, x_InvalidName_gg, x_InvalidName_ex, x_InvalidName_hd, x_InvalidName_ca, x_InvalidName_cg, x_InvalidName_ct, x_InvalidName_mo⟩, x_InvalidName_fv⟩,
      xs_InvalidName := u_xs_InvalidName,
      b_len := PySem.W.mg_none_of X G b_len,
      b_max := PySem.W.mg_none_of X G b_max,
      b_min := PySem.W.mg_none_of X G b_min,
      b_str := PySem.W.mg_none_of X G b_str,
      b_int := PySem.W.mg_none_of X G b_int,
      b_bool := PySem.W.mg_none_of X G b_bool,
      b_isinstance := PySem.W.mg_none_of X G b_isinstance,
      b_all := PySem.W.mg_none_of X G b_all,
      b_range := PySem.W.mg_none_of X G b_range,
      b_repr := PySem.W.mg_none_of X G b_repr }⟩
theorem law_fn {P : Program} {w : World} {K : PySem.W.Frag} {mg : Str → Option Value} {fa : Addr} (ht : ∃ a : Ad, Txt K mg a) (hmg : mg "law" = some (.ref fa)) :
    ∃ fd : FuncData, (∀ (s : Shared) (u : Value), BindsTo s fd ⟨[u], []⟩ [("_law_script", u)]) ∧ ∀ base : Heap, K.In base → base.Ns mainGlobals mg → FnG P w K mg base CX0 9 fa fd ["_law_script"] (sp_law K) := by
  obtain ⟨a, T⟩ := ht
  have e := hmg.symm.trans T.g_law
  cases e
  exact ⟨a.d_law, T.lb, fun base _ _ => ok_law T⟩
end K02
open PySem PySem.W PyProof.Rows
set_option maxRecDepth 100000 in
set_option maxHeartbeats 0 in
theorem PySem.Challenge.cw_caughtnames_k02_numbers_and_words_of_tex_holds : PySem.Challenge.rw_caughtnames_k02_numbers_and_words_of_tex.Holds := by
  w_on; o_law; k_head; (case hw => w_witness2)
  k_fill
  refine CN.walk_G (l := PySem.Challenge.rw_caughtnames_k02_numbers_and_words_of_tex) (n := 63) (k := 9) (x := "_law_script") (sp := K02.sp_law) rfl (by decide) rfl ⟨rfl, by decide, by decide⟩ (fun w h Y => PySem.W.kIn_of Y) ?F (fun K H a ns hl hO hS => K02.sp_law_of hl hO hS)
  intro w mg fa h KX G hmg0
  have hmg : mg "law" = some (.ref fa) := hmg0
  clear hmg0
  refine K02.law_fn ?ht hmg
  case ht =>
    refine' K02.txt_mk KX G ?h_InvalidName ?h_CaughtError ?a1 ?l1 ?c1 ?k1 ?kd1_low ?kd1_high ?a2 ?l2 ?c2 ?k2 ?a3 ?ty3 ?l3 ?c3 ?k3 ?a4 ?l4 ?c4 ?k4 ?a5 ?l5 ?c5 ?k5 ?a6 ?l6 ?c6 ?k6 ?a7 ?l7 ?c7 ?k7 ?a8 ?l8 ?c8 ?k8 ?a9 ?l9 ?c9 ?k9 ?a10 ?l10 ?c10 ?k10 ?a11 ?l11 ?c11 ?k11 ?a12 ?l12 ?c12 ?k12 ?h_DIGITS ?x_CaughtError_sg ?x_CaughtError_rd ?x_CaughtError_fc ?x_InvalidName_cls ?x_InvalidName_bm ?x_InvalidName_sa ?x_InvalidName_ga ?x_InvalidName_gg ?x_InvalidName_ex ?x_InvalidName_ty ?x_InvalidName_kp ?x_InvalidName_hd ?x_InvalidName_ca ?x_InvalidName_cg ?x_InvalidName_ct ?x_InvalidName_mo ?x_InvalidName_fv ?u_xs_InvalidName ?b_len ?b_max ?b_min ?b_str ?b_int ?b_bool ?b_isinstance ?b_all ?b_range ?b_repr
    (case h_InvalidName => k_is)
    (case h_CaughtError => k_is)
    (case a1 => k_is)
    (case l1 => k_is)
    (case c1 => k_is)
    (case k1 => k_is)
    (case kd1_low => k_is)
    (case kd1_high => k_is)
    (case a2 => k_is)
    (case l2 => k_is)
    (case c2 => k_is)
    (case k2 => k_is)
    (case a3 => k_is)
    (case ty3 => k_is)
    (case l3 => k_is)
    (case c3 => k_is)
    (case k3 => k_is)
    (case a4 => k_is)
    (case l4 => k_is)
    (case c4 => k_is)
    (case k4 => k_is)
    (case a5 => k_is)
    (case l5 => k_is)
    (case c5 => k_is)
    (case k5 => k_is)
    (case a6 => k_is)
    (case l6 => k_is)
    (case c6 => k_is)
    (case k6 => k_is)
    (case a7 => k_is)
    (case l7 => k_is)
    (case c7 => k_is)
    (case k7 => k_is)
    (case a8 => k_is)
    (case l8 => k_is)
    (case c8 => k_is)
    (case k8 => k_is)
    (case a9 => k_is)
    (case l9 => k_is)
    (case c9 => k_is)
    (case k9 => k_is)
    (case a10 => k_is)
    (case l10 => k_is)
    (case c10 => k_is)
    (case k10 => k_is)
    (case a11 => k_is)
    (case l11 => k_is)
    (case c11 => k_is)
    (case k11 => k_is)
    (case a12 => k_is)
    (case l12 => k_is)
    (case c12 => k_is)
    (case k12 => k_is)
    (case h_DIGITS => k_is)
    (case x_CaughtError_sg => k_is)
    (case x_CaughtError_rd => k_is)
    (case x_CaughtError_fc => k_is)
    (case x_InvalidName_cls => k_is)
    (case x_InvalidName_bm => decide +kernel)
    (case x_InvalidName_sa => k_is)
    (case x_InvalidName_ga => k_is)
    (case x_InvalidName_gg => k_is)
    (case x_InvalidName_ex => k_is)
    (case x_InvalidName_ty => k_is)
    (case x_InvalidName_kp => k_is)
    (case x_InvalidName_hd => k_is)
    (case x_InvalidName_ca => k_is)
    (case x_InvalidName_cg => k_is)
    (case x_InvalidName_ct => k_is)
    (case x_InvalidName_mo => k_is)
    (case x_InvalidName_fv => k_is)
    (case u_xs_InvalidName => k_is)
    (case b_len => k_is)
    (case b_max => k_is)
    (case b_min => k_is)
    (case b_str => k_is)
    (case b_int => k_is)
    (case b_bool => k_is)
    (case b_isinstance => k_is)
    (case b_all => k_is)
    (case b_range => k_is)
    (case b_repr => k_is)

