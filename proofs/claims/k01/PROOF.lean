import PyProof.Rows.All
import Wide.All
import OpenK.AllK
import Wide.FinOn
import PyProof.EqAt
import PyProof.EqKinds
import PyProof.TupleCall
import HandS.ForMost
import HandS.Exc
import HandS.WordsExc
import HandS.IsInst
import HandS.EndBits
import HandS.Evl
import HandS.Walk
import HandS.ExcInit
import HandS.ExcIs
import KE.KExcIs
import KE.KxText
import PySem.Challenge.RW_caughtnames_k01_kinds_of_words
set_option Elab.async false
set_option linter.all false
set_option maxRecDepth 100000
set_option maxHeartbeats 4000000
/-! The words of our own: readings of the operators by the values' kinds, and steps of readings. -/
namespace CN
open PySem PySem.Spec PyProof.Rows L2 Evl

/-! ### new objects: the heap behind is told by what it keeps -/
def nwL (xs : List V) (H : Hp) (Q : VK) : Prop := ∀ p H', H p = none → Ex H H' → H' p = some (.lst xs) → Q (.ref p) H'
def nwT (xs : List V) (H : Hp) (Q : VK) : Prop := ∀ p H', H p = none → Ex H H' → H' p = some (.tup xs) → Q (.ref p) H'
theorem nwL.up {xs : List V} {H : Hp} {Q : VK} (h : nwL xs H Q) {p : Addr} (hp : H p = none) : Q (.ref p) (upd H p (.lst xs)) := h p _ hp (Ex.new hp) upd_same
theorem nwT.up {xs : List V} {H : Hp} {Q : VK} (h : nwT xs H Q) {p : Addr} (hp : H p = none) : Q (.ref p) (upd H p (.tup xs)) := h p _ hp (Ex.new hp) upd_same
def tLstG (t : TA) : TE := fun σ H Q => t σ H fun xs H1 => xs.length ≤ sizeLine ∧ nwL xs H1 Q
def tTupG (t : TA) : TE := fun σ H Q => t σ H fun xs H1 => xs.length ≤ sizeLine ∧ nwT xs H1 Q
section
variable {X : Cx} {es : List Expr} {t : TA} {pos : Pos}
theorem pe_lstG (h : PA X es t) : PE X (.List es pos) (tLstG t) := by
  constructor
  intro pins s σ H Q I hq
  refine wpAny_List_spliced (thn (h.run pos pins s σ H _ I hq) fun us s1 q1 => ?_)
  obtain ⟨xs, H1, I1, r, z, q⟩ := q1
  have hf : H1 s1.heap.objs.size = none := I1.hok.fresh (Nat.le_refl _)
  have hz : us.length ≤ sizeLine := r.length ▸ z
  have J := I1.laid (t' := s1.toks) (a := s1.heap.objs.size) (o := .lst xs) (h' := s1.heap.push { cls := .type "list", data := .seq us.toArray 0 }) (fun b u e => Heap.get?_push_of_some _ e) (Nat.le_refl _) ⟨z, us, 0, r, Heap.get?_push_size _ rfl⟩
  exact ⟨hz, .ref s1.heap.objs.size, _, J, rfl, q.up hf⟩
theorem pe_tupG {x1} (h : PA X es t) : PE X (.Tuple es x1 pos) (tTupG t) := by
  constructor
  intro pins s σ H Q I hq
  refine wpAny_Tuple_spliced (thn (h.run pos pins s σ H _ I hq) fun us s1 q1 => ?_)
  obtain ⟨xs, H1, I1, r, z, q⟩ := q1
  have hf : H1 s1.heap.objs.size = none := I1.hok.fresh (Nat.le_refl _)
  have hz : us.length ≤ sizeLine := r.length ▸ z
  refine ⟨hz, .ref s1.heap.objs.size, upd H1 s1.heap.objs.size (.tup xs), ?_, rfl, q.up hf⟩
  refine I1.laid (t' := s1.toks) (fun b u e => Heap.get?_push_of_some _ e) (Nat.le_refl _) ?_
  exact ⟨z, us, r, _, Heap.get?_push_size _ rfl, rfl, _, rfl⟩
end
/-! ### operators -/
def rCatG : R2 := fun x y H Q => ∃ l b xs zs, x = .ref l ∧ y = .ref b ∧ H l = some (.lst xs) ∧ H b = some (.lst zs) ∧ xs.length + zs.length ≤ sizeLine ∧ nwL (xs ++ zs) H Q
def rCatTG (K : PySem.W.Frag) : R2 := fun x y H Q => ∃ a b xs ys, x = .ref a ∧ y = .ref b ∧ SqT K H a xs ∧ SqT K H b ys ∧ xs ≠ [] ∧ xs.length + ys.length ≤ sizeLine ∧ (ys = [] → Q (.ref a) H) ∧ (ys ≠ [] → nwT (xs ++ ys) H Q)
def rRepG : R2 := fun x y H Q => ∃ l k xs, x = .ref l ∧ y = .int k ∧ H l = some (.lst xs) ∧ -(2 ^ 63) ≤ k ∧ k < 2 ^ 63 ∧ xs.length * k.toNat ≤ sizeLine ∧ nwL (List.replicate k.toNat xs).flatten H Q
def rSlLG (K : PySem.W.Frag) : V → Option Int → Option Int → Hp → VK → Prop := fun x lo hi H Q => ∃ a xs, x = .ref a ∧ SqL K H a xs ∧ nwL (cutV xs lo hi) H Q
def rSlTG (K : PySem.W.Frag) : V → Option Int → Option Int → Hp → VK → Prop := fun x lo hi H Q => ∃ a xs, x = .ref a ∧ SqT K H a xs ∧
  ¬ (HT.sIx xs.length 0 lo = 0 ∧ HT.sIx xs.length xs.length hi = xs.length) ∧ nwT (cutV xs lo hi) H Q
def rAddU (K : PySem.W.Frag) : R2 := fun x y H Q => match x, y with
  | .int i, .int j => Q (.int (i + j)) H
  | .str a, .str b => a.length + b.length ≤ sizeLine ∧ Q (.str (a ++ b)) H
  | .ref _, .ref _ => rCatG x y H Q ∨ rCatTG K x y H Q
  | _, _ => False
def rMulU : R2 := fun x y H Q => match x, y with
  | .int i, .int j => CMul i j ∧ Q (.int (i * j)) H
  | .ref _, .int _ => rRepG x y H Q
  | _, _ => False
def rSubI : R2 := fun x y H Q => match x, y with
  | .int i, .int j => Q (.int (i - j)) H
  | _, _ => False
def rDivI : R2 := fun x y H Q => match x, y with
  | .int i, .int j => CDiv i j ∧ Q (.int (i / j)) H
  | _, _ => False
def rModI : R2 := fun x y H Q => match x, y with
  | .int i, .int j => 0 < j ∧ Q (.int (i % j)) H
  | _, _ => False
def rPowI : R2 := fun x y H Q => match x, y with
  | .int i, .int j => CPow i j ∧ Q (.int (i ^ j.toNat)) H
  | _, _ => False
def rEqU (K : PySem.W.Frag) : R2 := fun x y H Q => (scal x y = true ∧ Q (.bl (decide (x = y))) H) ∨ rEqD K x y H Q
def rNeU (K : PySem.W.Frag) : R2 := fun x y H Q => (scal x y = true ∧ Q (.bl (!decide (x = y))) H) ∨ rNeD K x y H Q
def rLtU : R2 := fun x y H Q => match x, y with
  | .int i, .int j => Q (.bl (decide (i < j))) H
  | .str a, .str b => Q (.bl (decide (a.cps.toList < b.cps.toList))) H
  | _, _ => False
def rLeU : R2 := fun x y H Q => match x, y with
  | .int i, .int j => Q (.bl (decide (i ≤ j))) H
  | .str a, .str b => Q (.bl (!decide (b.cps.toList < a.cps.toList))) H
  | _, _ => False
def rGtU : R2 := fun x y H Q => match x, y with
  | .int i, .int j => Q (.bl (decide (j < i))) H
  | .str a, .str b => Q (.bl (decide (b.cps.toList < a.cps.toList))) H
  | _, _ => False
def rGeU : R2 := fun x y H Q => match x, y with
  | .int i, .int j => Q (.bl (decide (j ≤ i))) H
  | .str a, .str b => Q (.bl (!decide (a.cps.toList < b.cps.toList))) H
  | _, _ => False
def rInU (K : PySem.W.Frag) : R2 := fun x y H Q => match y with
  | .str z => ∃ c : Nat, x = .str ⟨#[c]⟩ ∧ Q (.bl (decide (c ∈ z.cps.toList))) H
  | _ => rIn K false x y H Q
def rNotInU (K : PySem.W.Frag) : R2 := fun x y H Q => match y with
  | .str z => ∃ c : Nat, x = .str ⟨#[c]⟩ ∧ Q (.bl (!decide (c ∈ z.cps.toList))) H
  | _ => rIn K true x y H Q
def rIsNU : R2 := fun x y H Q => y = .non ∧ Q (.bl (decide (x = .non))) H
def rNotNU : R2 := fun x y H Q => y = .non ∧ Q (.bl (!decide (x = .non))) H
def rNegI : V → Hp → VK → Prop := fun x H Q => match x with
  | .int i => Q (.int (-i)) H
  | _ => False
def rSlU (K : PySem.W.Frag) : V → Option Int → Option Int → Hp → VK → Prop := fun x lo hi H Q => match x with
  | .str z => z.length ≤ sizeLine ∧ Q (.str (cutS z lo hi)) H
  | _ => rSlLG K x lo hi H Q ∨ rSlTG K x lo hi H Q
section
variable {X : Cx}
theorem op_addU : OpR X (binaryOp .Add) (rAddU X.K) := by
  intro pins s σ H x y v u Q I rx ry h
  unfold rAddU at h
  split at h
  · exact op_add pins s σ H _ _ v u Q I rx ry ⟨_, _, rfl, rfl, h⟩
  · exact op_add_str pins s σ H _ _ v u Q I rx ry ⟨_, _, rfl, rfl, h.1, h.2⟩
  · rcases h with h | h
    · obtain ⟨l, b, xs, zs, e1, e2, h1, h2, h3, h4⟩ := h
      exact op_cat pins s σ H _ _ v u Q I rx ry ⟨l, b, xs, zs, e1, e2, h1, h2, h3, fun p hp => h4.up hp⟩
    · obtain ⟨l, b, xs, zs, e1, e2, h1, h2, h3, h4, h5, h6⟩ := h
      exact op_catT pins s σ H _ _ v u Q I rx ry ⟨l, b, xs, zs, e1, e2, h1, h2, h3, h4, h5, fun e p hp => (h6 e).up hp⟩
  · exact h.elim
theorem op_mulU : OpR X (binaryOp .Mult) rMulU := by
  intro pins s σ H x y v u Q I rx ry h
  unfold rMulU at h
  split at h
  · exact op_mul pins s σ H _ _ v u Q I rx ry ⟨_, _, rfl, rfl, h.1, h.2⟩
  · obtain ⟨l, k, xs, e1, e2, h1, h2, h3, h4, h5⟩ := h
    exact op_rep pins s σ H _ _ v u Q I rx ry ⟨l, k, xs, e1, e2, h1, h2, h3, h4, fun p hp => h5.up hp⟩
  · exact h.elim
theorem op_subI : OpR X (binaryOp .Sub) rSubI := by
  intro pins s σ H x y v u Q I rx ry h
  unfold rSubI at h
  split at h
  · exact op_sub pins s σ H _ _ v u Q I rx ry ⟨_, _, rfl, rfl, h⟩
  · exact h.elim
theorem op_divI : OpR X (binaryOp .FloorDiv) rDivI := by
  intro pins s σ H x y v u Q I rx ry h
  unfold rDivI at h
  split at h
  · exact op_fdiv pins s σ H _ _ v u Q I rx ry ⟨_, _, rfl, rfl, h.1, h.2⟩
  · exact h.elim
theorem op_modI : OpR X (binaryOp .Mod) rModI := by
  intro pins s σ H x y v u Q I rx ry h
  unfold rModI at h
  split at h
  · exact op_mod pins s σ H _ _ v u Q I rx ry ⟨_, _, rfl, rfl, h.1, h.2⟩
  · exact h.elim
theorem op_powI : OpR X (binaryOp .Pow) rPowI := by
  intro pins s σ H x y v u Q I rx ry h
  unfold rPowI at h
  split at h
  · exact op_pow pins s σ H _ _ v u Q I rx ry ⟨_, _, rfl, rfl, h.1, h.2⟩
  · exact h.elim
theorem op_eqU (hu : X.A.units + 64 < cLine) : OpR X (compareOp .Eq) (rEqU X.K) := op_eq.or (op_eqD hu)
theorem op_neU (hu : X.A.units + 64 < cLine) : OpR X (compareOp .NotEq) (rNeU X.K) := op_ne.or (op_neD hu)
theorem op_ltU : OpR X (compareOp .Lt) rLtU := by
  intro pins s σ H x y v u Q I rx ry h
  unfold rLtU at h
  split at h
  · exact op_lt pins s σ H _ _ v u Q I rx ry ⟨_, _, rfl, rfl, h⟩
  · exact op_lt_str pins s σ H _ _ v u Q I rx ry ⟨_, _, rfl, rfl, h⟩
  · exact h.elim
theorem op_leU : OpR X (compareOp .LtE) rLeU := by
  intro pins s σ H x y v u Q I rx ry h
  unfold rLeU at h
  split at h
  · exact op_le pins s σ H _ _ v u Q I rx ry ⟨_, _, rfl, rfl, h⟩
  · exact op_le_str pins s σ H _ _ v u Q I rx ry ⟨_, _, rfl, rfl, h⟩
  · exact h.elim
theorem op_gtU : OpR X (compareOp .Gt) rGtU := by
  intro pins s σ H x y v u Q I rx ry h
  unfold rGtU at h
  split at h
  · exact op_gt pins s σ H _ _ v u Q I rx ry ⟨_, _, rfl, rfl, h⟩
  · exact op_gt_str pins s σ H _ _ v u Q I rx ry ⟨_, _, rfl, rfl, h⟩
  · exact h.elim
theorem op_geU : OpR X (compareOp .GtE) rGeU := by
  intro pins s σ H x y v u Q I rx ry h
  unfold rGeU at h
  split at h
  · exact op_ge pins s σ H _ _ v u Q I rx ry ⟨_, _, rfl, rfl, h⟩
  · exact op_ge_str pins s σ H _ _ v u Q I rx ry ⟨_, _, rfl, rfl, h⟩
  · exact h.elim
theorem op_inU : OpR X (compareOp .In) (rInU X.K) := by
  intro pins s σ H x y v u Q I rx ry h
  unfold rInU at h
  split at h
  · obtain ⟨c, rfl, q⟩ := h
    exact op_in_sign pins s σ H _ _ v u Q I rx ry ⟨c, _, rfl, rfl, q⟩
  · exact op_in_seq pins s σ H _ _ v u Q I rx ry h
theorem op_notInU : OpR X (compareOp .NotIn) (rNotInU X.K) := by
  intro pins s σ H x y v u Q I rx ry h
  unfold rNotInU at h
  split at h
  · obtain ⟨c, rfl, q⟩ := h
    exact op_notIn_sign pins s σ H _ _ v u Q I rx ry ⟨c, _, rfl, rfl, q⟩
  · exact op_notIn_seq pins s σ H _ _ v u Q I rx ry h
theorem op_isNU : OpR X (compareOp .Is) rIsNU := op_isN
theorem op_notNU : OpR X (compareOp .IsNot) rNotNU := op_notN
theorem un_negI : UnR X (unaryOp .USub) rNegI := by
  intro pins s σ H x v Q I rx h
  unfold rNegI at h
  split at h
  · exact un_neg pins s σ H _ v Q I rx ⟨_, rfl, h⟩
  · exact h.elim
theorem sl_U : SlR X (rSlU X.K) := by
  intro pins s σ H x v vl vu lo hi sl Q I rx hs pl pu q
  unfold rSlU at q
  split at q
  · exact sl_str pins s σ H _ v vl vu lo hi sl Q I rx hs pl pu ⟨_, rfl, q.1, q.2⟩
  · rcases q with q | q
    · obtain ⟨a, xs, e1, h1, h2⟩ := q
      exact sl_list pins s σ H _ v vl vu lo hi sl Q I rx hs pl pu ⟨a, xs, e1, h1, fun p hp => h2.up hp⟩
    · obtain ⟨a, xs, e1, h1, h2, h3⟩ := q
      exact sl_tup pins s σ H _ v vl vu lo hi sl Q I rx hs pl pu ⟨a, xs, e1, h1, h2, fun p hp => h3.up hp⟩
end

/-! ### calls of built-ins -/
def rLenU (K : PySem.W.Frag) : List V → Hp → VK → Prop := fun xs H Q => match xs with
  | [.str z] => z.length ≤ sizeLine ∧ Q (.int z.length) H
  | [.ref p] => (∃ ys, (SqL K H p ys ∨ SqT K H p ys) ∧ Q (.int ys.length) H) ∨ ∃ kvs, H p = some (.dK kvs) ∧ Q (.int kvs.length) H
  | _ => False
def rMaxI : List V → Hp → VK → Prop := fun xs H Q => match xs with
  | [.int i, .int j] => Q (.int (if j > i then j else i)) H
  | _ => False
def rMinI : List V → Hp → VK → Prop := fun xs H Q => match xs with
  | [.int i, .int j] => Q (.int (if j < i then j else i)) H
  | _ => False
def rStrI : List V → Hp → VK → Prop := fun xs H Q => match xs with
  | [.int i] => i.natAbs.log2 < 1920 ∧ Q (.str (toString i)) H
  | _ => False
def rIntU : List V → Hp → VK → Prop := fun xs H Q => match xs with
  | [.int i] => Q (.int i) H
  | [.bl k] => Q (.int (if k then 1 else 0)) H
  | [.str a] => ∃ n, PySem.intText? a = some n ∧ a.length ≤ 640 ∧ Q (.int n) H
  | _ => False
def rTupleU (K : PySem.W.Frag) : List V → Hp → VK → Prop := fun xs H Q => ∃ p ys, xs = [.ref p] ∧ ((SqL K H p ys ∧ nwT ys H Q) ∨ (SqT K H p ys ∧ Q (.ref p) H))
def rListU (K : PySem.W.Frag) : List V → Hp → VK → Prop := fun xs H Q => ∃ p ys, xs = [.ref p] ∧ (SqL K H p ys ∨ SqT K H p ys) ∧ nwL ys H Q
def rJoinU (K : PySem.W.Frag) : V → List V → Hp → VK → Prop := fun x xs H Q => ∃ a p, ∃ ys : List Str, x = .str a ∧ xs = [.ref p] ∧ (SqL K H p (ys.map V.str) ∨ SqT K H p (ys.map V.str)) ∧
  (ys.map (·.length)).sum + ys.length * a.length ≤ 16777216 ∧ Q (.str (Txt.join a ys)) H
section
variable {X : Cx}
theorem mt_joinU : MtR X "str.join" (rJoinU X.K) := mt_join
theorem call_lenU : CallR X (.builtin "len") (rLenU X.K) := by
  intro pins s σ H xs us Q I r h
  unfold rLenU at h
  split at h
  · exact call_len_str pins s σ H _ us Q I r ⟨_, rfl, h.1, h.2⟩
  · rcases h with ⟨ys, a, b⟩ | ⟨kvs, a, b⟩
    · exact call_len_seq pins s σ H _ us Q I r ⟨_, ys, rfl, a, b⟩
    · exact call_lenD pins s σ H _ us Q I r ⟨_, kvs, rfl, a, b⟩
  · exact h.elim
theorem call_maxI (hc : X.calm = true) : CallR X (.builtin "max") rMaxI := by
  intro pins s σ H xs us Q I r h
  unfold rMaxI at h
  split at h
  · exact call_max2 hc pins s σ H _ us Q I r ⟨_, _, rfl, h⟩
  · exact h.elim
theorem call_minI (hc : X.calm = true) : CallR X (.builtin "min") rMinI := by
  intro pins s σ H xs us Q I r h
  unfold rMinI at h
  split at h
  · exact call_min2 hc pins s σ H _ us Q I r ⟨_, _, rfl, h⟩
  · exact h.elim
theorem call_strI : CallR X (.type "str") rStrI := by
  intro pins s σ H xs us Q I r h
  unfold rStrI at h
  split at h
  · exact call_str_int pins s σ H _ us Q I r ⟨_, rfl, h.1, h.2⟩
  · exact h.elim
theorem call_intU : CallR X (.type "int") rIntU := by
  intro pins s σ H xs us Q I r h
  unfold rIntU at h
  split at h
  · exact call_int1 pins s σ H _ us Q I r (.inl ⟨_, rfl, h⟩)
  · exact call_int1 pins s σ H _ us Q I r (.inr ⟨_, rfl, h⟩)
  · obtain ⟨n, a, b, c⟩ := h
    exact call_int_str pins s σ H _ us Q I r ⟨_, n, rfl, a, b, c⟩
  · exact h.elim
theorem call_tupleU : CallR X (.type "tuple") (rTupleU X.K) := by
  intro pins s σ H xs us Q I r h
  obtain ⟨p, ys, e, h1⟩ := h
  refine call_tuple_of pins s σ H _ us Q I r ⟨p, ys, e, ?_⟩
  rcases h1 with ⟨h1, h2⟩ | h1
  · exact .inl ⟨h1, fun l hl => h2.up hl⟩
  · exact .inr h1
theorem call_listU : CallR X (.type "list") (rListU X.K) := by
  intro pins s σ H xs us Q I r h
  obtain ⟨p, ys, e, h1, h2⟩ := h
  exact call_list_of pins s σ H _ us Q I r ⟨p, ys, e, h1, fun l hl => h2.up hl⟩
theorem call_allU (hc : X.calm = true) : CallR X (.builtin "all") (rAll X.K) := cr_all hc
end
end CN

set_option Elab.async false
set_option linter.all false
set_option maxRecDepth 100000
set_option maxHeartbeats 4000000
namespace CN
open PySem PySem.Spec PyProof.Rows L2

/-! ### own exceptions over ValueError: Base.__init__(self, text), self.value = value, made as a value, asked by isinstance -/
/-- what the written part says of the class at C -/
structure ExT (K : PySem.W.Frag) (C : Addr) (fl : Str) : Prop where
  ox : OexC K C
  ec : ExcC K C
  fv : PySem.W.findIn K (.ref C) fl = some none
/-- and of a base, whose own __init__ is that of ValueError -/
structure ExB0 (K : PySem.W.Frag) (B : Addr) : Prop where
  sg : PySem.W.specialIn K (.ref B) "__getattribute__" = some (some (.builtin "type.__getattribute__"))
  rd : PySem.W.readsIn K B (.type "type") = true
  fc : PySem.W.findCls K (.ref B) (.type "type") "__init__" = some (.val (.builtin "ValueError.__init__"))
section
variable {X : Cx} {e : Expr} {es : List Expr} {ta : TA} {p1 p2 pos : Pos}
theorem pe_binit {b : Str} {B : Addr} {pl : Sem Bool} (Z : ExB0 X.K B) (hg : Gl X b) (hm : X.mg b = some (.ref B)) (ha : PA X (e :: es) ta) (hdb : (b == ("__debug__" : Str)) = false := by decide)
    (hc : eval (.Call (.Attribute (.Name b p1) "__init__" p2) (e :: es) [] pos) X.env = (do
      let ov ← eval (.Name b p1) X.env
      standAt p2.atName
      let (f, first) ← holding [ov] (getMethod ov "__init__" pl)
      callWith pos f first (backTo pos (starEach (e :: es) X.env)) (backToKw pos (keywordEach [] X.env))) := by rfl)
    (he : starEach (e :: es) X.env = (false, eval e X.env) :: starEach es X.env := by rfl) (hpl : (backTo pos (starEach es X.env)).any (·.1) = false := by rfl) :
    PE X (.Call (.Attribute (.Name b p1) "__init__" p2) (e :: es) [] pos) (tVeI X.K ta) := by
  constructor
  intro pins s σ H Q I h
  refine PySem.W.methodCall_KW (ld_glob I hg hm ?_ hdb) hc
  refine PySem.W.method_cls I.kIn Z.sg (PySem.W.cls_value I.kIn Z.rd Z.fc (by decide +kernel) ?_)
  show wpAny _ _ (callWith pos (Value.builtin "ValueError.__init__") [] (backTo pos (starEach (e :: es) X.env)) []) _ _ _
  refine PyProof.Rows.callWith_method1 (thn (ha.run pos pins _ σ H _ (I.tok _) h) fun us s1 q1 => ?_) he hpl
  obtain ⟨vs, H1, I1, r1, a, C, ws, ev, hl, T, ea, q⟩ := q1
  subst ev
  cases r1 with
  | @cons _ u0 _ ur ra rw' =>
    have e0 : u0 = Value.ref a := ra
    subst e0
    have hn : ur.length ≤ sizeLine := by
      have hq := Paired.length rw'
      have hs := sizeLine_eq
      omega
    exact oinit_ok T I1 ea hn (fun s' J => ⟨.non, H1, J, rfl, q⟩)
/-- C(v) as a value: a new exception at x, its dict at dx -/
def tMkX (C : Addr) (fl : Str) (ta : TA) : TE := fun σ H Q => ta σ H fun vs H1 => ∃ v, vs = [v] ∧ ∀ x dx, H1 x = none → H1 dx = none → dx ≠ x →
  Q (.ref x) (upd (upd H1 dx (exd dx [(fl, v)])) x (exo x C (some dx)))
/-- the promise of such an __init__ -/
def spXI (C : Addr) (fl : Str) : Sp := fun vs H Q _ => ∃ x v, vs = [.ref x, v] ∧ H x = some (exo x C none) ∧
  ∀ dx, H dx = none → dx ≠ x → Q .non (upd (upd H dx (exd dx [(fl, v)])) x (exo x C (some dx)))
theorem upd2 {H : Hp} {x d : Addr} {o o' u : HO} (h : d ≠ x) : upd (upd (upd H x o) d u) x o' = upd (upd H d u) x o' := by
  funext b
  by_cases h1 : b = x
  · rw [h1, upd_same, upd_same]
  · rw [upd_ne h1, upd_ne h1]
    by_cases h2 : b = d
    · rw [h2, upd_same, upd_same]
    · rw [upd_ne h2, upd_ne h2, upd_ne h1]
theorem pe_mkX {CX : CXT} {x fl : Str} {C fI : Addr} {k : Nat} {fd : FuncData} {ps : List Str} (T : OexC X.K C) (iC : PySem.W.findIn X.K (.ref C) "__init__" = some (some (.ref fI))) (tI : PySem.W.typeIn X.K (.ref fI) = some (.type "function"))
    (F1 : FnOk X.prog X.w X.K X.mg X.base CX k fI fd ps (spXI C fl)) (hr : Room (k + 1) X.A) (hb : Binds X.K fd ps []) (hx : Passes CX X (fun _ _ _ => False)) (hg : Gl X x) (hm : X.mg x = some (.ref C)) (ha : PA X [e] ta)
    (hdb : (x == ("__debug__" : Str)) = false := by decide) (he : starEach [e] X.env = (false, eval e X.env) :: starEach [] X.env := by rfl) (hpl : (backTo pos (starEach [] X.env)).any (·.1) = false := by rfl) :
    PE X (.Call (.Name x p1) [e] [] pos) (tMkX C fl ta) := by
  constructor
  intro pins s σ H Q I h
  obtain ⟨nm, q, N, bs, bm, sn, sub, ab, col, dd, k0, k1, k2, k3, k5, hC, hbm⟩ := T.cls
  refine wpAny_Call_Name_kw (ld_glob I hg hm ?_ hdb)
  refine PySem.W.callWith_K (h₀ := X.base) I.ok.mod.kin T.kC (thn (ha.run pos pins s σ H _ I h) fun us s1 h1 => ?_) he hpl
  obtain ⟨vs, H1, I1, r1, v, ev, q1⟩ := h1
  subst ev
  refine ⟨I1.kIn, ?_⟩
  cases r1 with
  | cons rv rn =>
    rename_i u us'
    cases rn
    show wpAny _ _ (call (.ref C) [u]) _ _ _
    obtain ⟨hp, g, dr, tk, os⟩ := s1
    have hsz : hp.objs.size ≤ hp.objs.size + 1 := Nat.le_succ _
    have hn : H1 (hp.objs.size + 1) = none := I1.hok.fresh hsz
    have kk : ∀ b o, hp.get? b = some o → ((hp.push (PySem.W.kdv_tup [u])).push (PySem.HandSPX.excO C hp.objs.size)).get? b = some o := fun b o e0 => Heap.get?_push_of_some _ (Heap.get?_push_of_some _ e0)
    have hget : ((hp.push (PySem.W.kdv_tup [u])).push (PySem.HandSPX.excO C hp.objs.size)).get? (hp.objs.size + 1) = some (PySem.HandSPX.excO C hp.objs.size) := by heap_get
    have I2 : Inv X pins σ (upd H1 (hp.objs.size + 1) (exo (hp.objs.size + 1) C none)) ⟨(hp.push (PySem.W.kdv_tup [u])).push (PySem.HandSPX.excO C hp.objs.size), g, dr, tk, os⟩ :=
      I1.laid (t' := tk) kk hsz (exo_ok hget)
    have r2 : Vals [V.ref (hp.objs.size + 1), v] [Value.ref (hp.objs.size + 1), u] := .cons rfl (.cons rv .nil)
    have hq : spXI C fl [V.ref (hp.objs.size + 1), v] (upd H1 (hp.objs.size + 1) (exo (hp.objs.size + 1) C none)) (fun w0 H2 => w0 = .non ∧ Q (.ref (hp.objs.size + 1)) H2) (fun _ _ _ => False) := by
      refine ⟨_, v, rfl, upd_same, fun dx hd hne => ⟨rfl, ?_⟩⟩
      rw [upd2 hne]
      rw [upd_ne hne] at hd
      exact q1 _ dx hn hd hne
    have hl : [Value.ref (hp.objs.size + 1), u].length = ps.length := F1.len _ _ _ _ hq
    refine wpAny_call (PySem.HandSPX.call_own F.excBase_ValueError (fun Y => PySem.HandSPX.refsVE_contains Y bm hbm) (I1.kIn _ _ hC) (PySem.W.looks_findIn I1.kIn iC) (fun self => PySem.W.bind_fn I1.kIn self tI) (by rw [sizeLine_eq]; show 1 ≤ 16777216; decide)
      (codeAny_mono (F1.run _ X.stack _ _ ⟨[Value.ref (hp.objs.size + 1), u], []⟩ [Value.ref (hp.objs.size + 1), u] _ _ (fun _ _ _ => False) (hr.make C [u] []) (I2.env0.make C [u] []) (hb _ [Value.ref (hp.objs.size + 1), u] I2.kIn (by rw [List.append_nil]; exact hl)) r2 hq) fun r s' hq' => ?_))
    cases r with
    | error er => exact hx pins σ _ _ er s' I2 hq'
    | ok fl =>
      cases fl with
      | ret u0 =>
        obtain ⟨v0, H2, J, rz, ez, q2⟩ := I2.after hq'
        subst ez
        exact ⟨rz, .ref (hp.objs.size + 1), H2, J, rfl, q2⟩
      | next => exact False.elim hq'
      | brk => exact False.elim hq'
      | cont => exact False.elim hq'
end
/-- the reading of such an __init__ -/
def tXI (K : PySem.W.Frag) (fl : Str) (tx : Str) : TS := tSeq (tDrop (tVeI K (tCons (tVar 0) (tCons (tC (.str tx)) tNil)))) (tOst K fl (tVar 0) (tVar 1))
theorem rd_xi {K : PySem.W.Frag} {C : Addr} {fl tx : Str} (T : ExT K C fl) {N : List Str} (hN : N.length = 2) {vs : List V} {H : Hp} {Q : VK} {E : XK} (h : spXI C fl vs H Q E) :
    tXI K fl tx { nx := fun _ H' => Q .non H', rt := Q } (L2.start N vs) H := by
  obtain ⟨x, v, rfl, hx, q⟩ := h
  have es : L2.start N [.ref x, v] = [some (.ref x), some v] := by
    unfold L2.start
    rw [hN]
    rfl
  rw [es]
  exact ⟨_, rfl, x, C, _, rfl, (by show 1 ≤ 1000; decide), T.ox, hx, _, rfl, _, rfl, x, C, rfl, T.ox, T.fv, .inl ⟨hx, fun dx h1 h2 => q dx h1 h2⟩⟩
/-- an own class against a built-in type, against an own class -/
theorem kit_own {K : PySem.W.Frag} {C : Addr} {n : String} {b : Bool} (hm : PySem.W.kitMeta n = true) (h : PySem.W.subIn K (.ref C) (.type n) = some b) : PySem.W.kitOne K (.ref C) (.type n) = some b := by
  have e : (Value.ref C == Value.type n) = false := rfl
  unfold PySem.W.kitOne
  rw [e, if_neg Bool.false_ne_true]
  unfold PySem.W.kitCls
  simp only [hm, if_true]
  exact h
/-- isinstance of an exception that stands as a value -/
def rIsiX (K : PySem.W.Frag) : List V → Hp → VK → Prop := fun xs H Q => ∃ (x C : Addr) (d : Option Addr) (c : V) (u : Value) (b : Bool), xs = [.ref x, c] ∧ ClsV c u ∧ H x = some (exo x C d) ∧ (∀ dx, d = some dx → ∃ fs, H dx = some (exd dx fs)) ∧ ExcC K C ∧
  PySem.W.kitOne K (.ref C) u = some b ∧ Q (.bl b) H
def rIsiU (K : PySem.W.Frag) : List V → Hp → VK → Prop := fun xs H Q => rIsi K xs H Q ∨ rIsiX K xs H Q
section
variable {X : Cx}
theorem call_isiX : CallR X (.builtin "isinstance") (rIsiX X.K) := by
  intro pins s σ H xs us Q I r h
  obtain ⟨x, C, d, c, u, b, rfl, hc, hx, hd, T, e, q⟩ := h
  obtain ⟨u1, u2, rfl, r1, r2⟩ := vals2 r
  have e2 := hc.eq r2
  subst e2
  have e1 : u1 = Value.ref x := r1
  subst e1
  obtain ⟨t1, ho⟩ := exo_at I.hok hx
  have hcl : (PySem.W.clsIn X.K C).isSome = true := by
    obtain ⟨cd, h1, _⟩ := PySem.W.any_some T.hd
    rw [h1]
    rfl
  have J : ∃ od, PySem.W.InstAt s.heap x { cls := .ref C, dict := d, data := .fields #[.ref t1, .none, .none, .none, .bool false, .none] } C od := by
    cases d with
    | none => exact ⟨none, ho, rfl, rfl, trivial⟩
    | some dx =>
      obtain ⟨fs, h3⟩ := hd dx rfl
      obtain ⟨mA, ⟨o, es, ep, h4, _⟩, _⟩ := exd_at I.hok h3
      exact ⟨some o, ho, rfl, rfl, h4⟩
  obtain ⟨od, J⟩ := J
  exact PySem.W.kia_one (PySem.W.kitx_exc (od := od) hcl T.hg T.hk T.hs T.ha T.hn T.ht T.hm) I.kIn J e (fun z => nomatch z) fun tk => ⟨.bl b, H, I.tok tk, rfl, q⟩
theorem call_isiU : CallR X (.builtin "isinstance") (rIsiU X.K) := call_isi.or call_isiX
end
end CN

set_option Elab.async false
set_option linter.all false
set_option maxRecDepth 100000
set_option maxHeartbeats 4000000
namespace CN
open PySem PySem.Spec PyProof.Rows L2 Evl

/-! ### the box of draws -/
/-- all but the box at b is as it was -/
def ExBx (b : Addr) (H H' : Hp) : Prop := ∀ x o, x ≠ b → H x = some o → H' x = some o
theorem ExBx.refl (b : Addr) (H : Hp) : ExBx b H H := fun _ _ _ h => h
theorem ExBx.trans {b : Addr} {H H1 H2 : Hp} (e : ExBx b H H1) (f : ExBx b H1 H2) : ExBx b H H2 := fun x o n h => f x o n (e x o n h)
theorem ExBx.ex {b : Addr} {H H1 H2 : Hp} (e : ExBx b H H1) (f : Ex H1 H2) : ExBx b H H2 := fun x o n h => f x o (e x o n h)
theorem ExBx.of {b : Addr} {H H1 : Hp} (f : Ex H H1) : ExBx b H H1 := fun x o _ h => f x o h
theorem ExBx.upd {b : Addr} {H : Hp} {o : HO} : ExBx b H (L2.upd H b o) := fun x u n h => by rw [upd_ne n]; exact h
/-- the box: three ints, the last one at most m -/
def BoxAt (H : Hp) (b : Addr) (m : Int) : Prop := ∃ n r c : Int, H b = some (.lst [.int n, .int r, .int c]) ∧ 0 ≤ n ∧ 0 ≤ r ∧ r < 2147483629 ∧ 0 ≤ c ∧ c ≤ m
theorem BoxAt.ex {H H' : Hp} {b : Addr} {m : Int} (h : BoxAt H b m) (e : Ex H H') : BoxAt H' b m := by
  obtain ⟨n, r, c, h0, h1⟩ := h
  exact ⟨n, r, c, e _ _ h0, h1⟩
theorem BoxAt.mono {H : Hp} {b : Addr} {m m' : Int} (h : BoxAt H b m) (e : m ≤ m') : BoxAt H b m' := by
  obtain ⟨n, r, c, h0, h1, h2, h3, h4, h5⟩ := h
  exact ⟨n, r, c, h0, h1, h2, h3, h4, by omega⟩
theorem BoxAt.ne {H : Hp} {b p : Addr} {m : Int} (B : BoxAt H b m) (h : H p = none) : p ≠ b := by
  obtain ⟨n, r, c, h0, _⟩ := B
  exact (ne_of_none h0 h).symm
/-- a draw below many -/
def spTake : Sp := fun vs H Q _ => ∃ (b : Addr) (many m : Int), vs = [.ref b, .int many] ∧ BoxAt H b m ∧ m ≤ 1099511627776 ∧ 0 < many ∧ many < 1073741824 ∧
  ∀ (d : Int) (H' : Hp), 0 ≤ d → d < many → ExBx b H H' → BoxAt H' b (m + 1) → Q (.int d) H'
/-- the cell: some int -/
def spCell (K : PySem.W.Frag) : Sp := fun vs H Q _ => ∃ (a : Addr) (ns : List Int) (k : Nat), vs = [.ref a, .int k] ∧ SqL K H a (ns.map V.int) ∧ k ≤ 63 ∧ ∀ c : Int, Q (.int c) H
/-- a new box -/
def spBox : Sp := fun vs H Q _ => ∃ c : Int, vs = [.int c] ∧ ∀ (b : Addr) (H' : Hp), H b = none → Ex H H' → BoxAt H' b 0 → Q (.ref b) H'

/-! ### readings step by step -/
section
variable {K : PySem.W.Frag} {H : Hp} {Q : VK} {σ : L2.St}
theorem ix_l {b : Addr} {xs : List V} {i : Int} {v : V} (h : H b = some (.lst xs)) (e : atI xs i = some v) (q : Q v H) : rIx K (.ref b) (.int i) H Q := .inl ⟨b, xs, i, v, rfl, rfl, SqL.of h, e, q⟩
theorem ix_L {b : Addr} {xs : List V} {i : Int} {v : V} (h : SqL K H b xs) (e : atI xs i = some v) (q : Q v H) : rIx K (.ref b) (.int i) H Q := .inl ⟨b, xs, i, v, rfl, rfl, h, e, q⟩
theorem ix_T {b : Addr} {xs : List V} {i : Int} {v : V} (h : SqT K H b xs) (e : atI xs i = some v) (q : Q v H) : rIx K (.ref b) (.int i) H Q := .inr (.inl ⟨b, xs, i, v, rfl, rfl, h, e, q⟩)
theorem ix_S {z : Str} {i : Int} {c : Nat} (h : z.length ≤ sizeLine) (e : atI z.cps.toList i = some c) (q : Q (.str ⟨#[c]⟩) H) : rIx K (.str z) (.int i) H Q := .inr (.inr ⟨z, i, c, rfl, rfl, h, e, q⟩)
/-- a drawn place of a list that is not empty -/
theorem atI_some {α : Type} {xs : List α} {i : Int} (h0 : 0 ≤ i) (h1 : i < xs.length) : ∃ v, atI xs i = some v ∧ v ∈ xs := by
  have hn : i.toNat < xs.length := by omega
  refine ⟨xs[i.toNat], ?_, List.getElem_mem hn⟩
  unfold atI ixN
  rw [if_pos h0, if_pos h1]
  show xs[i.toNat]? = _
  rw [List.getElem?_eq_getElem hn]
theorem line_ge {n : Nat} (h : n ≤ 10000000) : n ≤ sizeLine := by
  rw [sizeLine_eq]
  omega
end
/-! ### a comprehension over the signs of a text: what it tests and tells is told of each sign -/
theorem lcSD {σ : L2.St} {H : Hp} {Qd : Hp → Prop} {j : Nat} {vs : List Nat} {tt : TT} {te : TE} {z : Str} {D : Addr} (f : Nat → Bool) (g : Nat → V) (hl : z.length ≤ 1000000) (hD : H D = none)
    (hw : ∀ x, wipe ((wipe σ vs).set j (some x)) vs = wipe σ vs)
    (ht : ∀ (c : Nat) (H1 : Hp) (R : Bool → Hp → Prop), Ex H H1 → (∀ H2, Ex H1 H2 → R (f c) H2) → tt ((wipe σ vs).set j (some (.str ⟨#[c]⟩))) H1 R)
    (he : ∀ (c : Nat) (H1 : Hp) (R : VK), Ex H H1 → f c = true → (∀ H2, Ex H1 H2 → R (g c) H2) → te ((wipe σ vs).set j (some (.str ⟨#[c]⟩))) H1 R)
    (q : ∀ H', Ex H H' → H' D = some (.lst ((z.cps.toList.filter f).map g)) → Qd H') :
    ∃ W : Nat → Nat → Hp → Prop, (∃ m, W 0 m (upd H D (.lst []))) ∧ ∀ i m H, W i m H →
      ((Its z).stop i H ∧ Qd H) ∨ ((Its z).go i H ∧ ∃ Nx : Hp → Prop, (∀ H', Nx H' → ∃ m', m' < m ∧ W (i + 1) m' H') ∧
        ∀ x H', (Its z).yld i H x H' → gName j x (wipe σ vs) H' fun σ2 H2 => wipe σ2 vs = wipe σ vs ∧ tt σ2 H2 fun b H3 =>
          if b = true then te σ2 H3 fun y H4 => ∃ acc, H4 D = some (.lst acc) ∧ acc.length < sizeLine ∧ Nx (upd H4 D (.lst (acc ++ [y]))) else Nx H3) := by
  refine lc_it walk_str (fun k H' => Ex H H' ∧ H' D = some (.lst (((z.cps.toList.take k).filter f).map g))) ⟨Ex.new hD, upd_same⟩ (fun _ _ _ _ => trivial) ?_ ?_
  · rintro k x H1 H2 hk ⟨e1, h1⟩ ⟨rfl, c, hc, rfl⟩
    refine ⟨hw _, ht c H2 _ e1 fun H3 e3 => ?_⟩
    have hc' : z.cps.toList[k]? = some c := by
      rw [Array.getElem?_toList]
      exact hc
    have et : z.cps.toList.take (k + 1) = z.cps.toList.take k ++ [c] := by
      rw [List.take_add_one, hc']
      rfl
    cases hf : f c with
    | true =>
      refine he c H3 _ (e1.trans e3) hf fun H4 e4 => ⟨_, e4 _ _ (e3 _ _ h1), ?_, ?_, ?_⟩
      · rw [List.length_map]
        have h5 := List.length_filter_le f (z.cps.toList.take k)
        rw [List.length_take] at h5
        have h6 : k < z.length := hk
        rw [sizeLine_eq]
        omega
      · exact Ex.mut ((e1.trans e3).trans e4) hD
      · rw [upd_same, et, List.filter_append, List.map_append]
        simp [hf]
    | false =>
      show Ex H H3 ∧ _
      refine ⟨e1.trans e3, ?_⟩
      rw [et, List.filter_append]
      have e9 : List.filter f [c] = [] := by simp [hf]
      rw [e9, List.append_nil]
      exact e3 _ _ h1
  · rintro H1 ⟨e1, h1⟩
    refine q H1 e1 ?_
    have e2 : z.cps.toList.take z.cps.size = z.cps.toList := by
      rw [← Array.length_toList]
      exact List.take_length
    rw [e2] at h1
    exact h1
end CN

set_option Elab.async false
set_option linter.all false
set_option maxRecDepth 100000
set_option maxHeartbeats 4000000
namespace CN
open PySem PySem.Spec PyProof.Rows L2 Evl

/-! ### texts as lists of signs -/
theorem str_ext {x y : Str} (h : x.cps.toList = y.cps.toList) : x = y := by
  obtain ⟨⟨a⟩⟩ := x
  obtain ⟨⟨b⟩⟩ := y
  have e : a = b := h
  rw [e]
theorem cps_app (x y : Str) : (x ++ y).cps.toList = x.cps.toList ++ y.cps.toList := by
  show (x.cps ++ y.cps).toList = _
  simp
theorem len_cps (x : Str) : x.cps.toList.length = x.length := by simp [Str.length]
theorem cps_one (c : Nat) : (⟨#[c]⟩ : Str).cps.toList = [c] := rfl
theorem cps_cut (z : Str) (lo hi : Option Int) : (cutS z lo hi).cps.toList = (z.cps.toList.drop (HT.sIx z.length 0 lo)).take (HT.sIx z.length z.length hi - HT.sIx z.length 0 lo) := rfl
theorem cutS_le (z : Str) (lo hi : Option Int) : (cutS z lo hi).length ≤ z.length := by
  rw [← len_cps, cps_cut, List.length_take, List.length_drop, len_cps]
  omega
theorem app_len (x y : Str) : (x ++ y).length = x.length + y.length := by
  rw [← len_cps, cps_app, List.length_append, len_cps, len_cps]
/-- z[:k], z[k:] -/
theorem cps_upto (z : Str) {k : Int} (h : 0 ≤ k) : (cutS z none (some k)).cps.toList = z.cps.toList.take k.toNat := by
  rw [cps_cut]
  have e1 : HT.sIx z.length 0 none = 0 := rfl
  obtain ⟨n, rfl⟩ := Int.eq_ofNat_of_zero_le h
  rw [e1, HT.sIx_nat, List.drop_zero, Nat.sub_zero]
  show _ = List.take n _
  rw [← len_cps]
  by_cases hn : n ≤ z.cps.toList.length
  · rw [Nat.min_eq_left hn]
  · rw [Nat.min_eq_right (by omega), List.take_length, List.take_of_length_le (by omega)]
theorem cps_from (z : Str) {k : Int} (h : 0 ≤ k) : (cutS z (some k) none).cps.toList = z.cps.toList.drop k.toNat := by
  rw [cps_cut]
  obtain ⟨n, rfl⟩ := Int.eq_ofNat_of_zero_le h
  have e2 : HT.sIx z.length z.length none = z.length := rfl
  rw [e2, HT.sIx_nat]
  show _ = List.drop n _
  rw [← len_cps]
  by_cases hn : n ≤ z.cps.toList.length
  · rw [Nat.min_eq_left hn, List.take_of_length_le (by rw [List.length_drop]; exact Nat.le_refl _)]
  · rw [Nat.min_eq_right (by omega), Nat.sub_self, List.take_zero, List.drop_of_length_le (by omega)]
/-- the texts of the model's own range -/
def OkS (z : Str) : Prop := ∀ c ∈ z.cps.toList, c < 1114112
theorem okS_of {z : Str} (h : OkS z) : PyData.strOk z = true := by
  unfold PyData.strOk
  rw [Array.all_eq_true]
  intro i hi
  exact decide_eq_true (h _ (by rw [Array.mem_toList_iff]; exact Array.getElem_mem hi))
theorem okS_app {x y : Str} (hx : OkS x) (hy : OkS y) : OkS (x ++ y) := fun c hc => by
  rw [cps_app] at hc
  rcases List.mem_append.mp hc with h | h
  · exact hx c h
  · exact hy c h
theorem okS_cut {z : Str} {lo hi : Option Int} (h : OkS z) : OkS (cutS z lo hi) := fun c hc => by
  rw [cps_cut] at hc
  exact h c (List.mem_of_mem_drop (List.mem_of_mem_take hc))
theorem okS_one {c : Nat} (h : c < 1114112) : OkS ⟨#[c]⟩ := fun d hd => by
  rw [cps_one] at hd
  rw [List.mem_singleton.mp hd]
  exact h
theorem okS_dec {z : Str} (h : (z.cps.toList.all fun c => decide (c < 1114112)) = true) : OkS z := fun c hc => of_decide_eq_true (List.all_eq_true.mp h c hc)
/-- the empty text between texts of one sign -/
theorem cps_join1 : ∀ ys : List Str, (Txt.join (Str.ofString "") ys).cps.toList = (ys.map fun y => y.cps.toList).flatten := by
  intro ys
  rw [TL.join_eq]
  have e0 : (Str.ofString "") = ⟨#[]⟩ := by decide +kernel
  rw [e0]
  induction ys with
  | nil => rfl
  | cons y r ih =>
    cases r with
    | nil => simp [Str.join]
    | cons w r =>
      have e1 : Str.join ⟨#[]⟩ (y :: w :: r) = y ++ ⟨#[]⟩ ++ Str.join ⟨#[]⟩ (w :: r) := rfl
      rw [e1, cps_app, cps_app, ih]
      simp
theorem okS_join {ys : List Str} (h : ∀ y ∈ ys, OkS y) : OkS (Txt.join (Str.ofString "") ys) := fun c hc => by
  rw [cps_join1] at hc
  obtain ⟨l, hl, hc⟩ := List.mem_flatten.mp hc
  obtain ⟨y, hy, rfl⟩ := List.mem_map.mp hl
  exact h y hy c hc
/-- data of one kind -/
theorem dpAll_str {K : PySem.W.Frag} {H : Hp} : ∀ ys : List Str, DpAll K H (ys.map V.str) (ys.map PyData.str)
  | [] => .nil
  | y :: r => .cons (.str y) (dpAll_str r)
theorem canLay_strs : ∀ ys : List Str, (∀ y ∈ ys, OkS y) → PyData.canLayAll0 (ys.map PyData.str) = true
  | [], _ => rfl
  | y :: r, h => by
    show (PyData.canLay0 (.str y) && PyData.canLayAll0 (r.map PyData.str)) = true
    rw [Bool.and_eq_true]
    exact ⟨okS_of (h y (List.mem_cons_self ..)), canLay_strs r fun z hz => h z (List.mem_cons_of_mem _ hz)⟩
theorem depth_strs : ∀ ys : List Str, (PyData.depthAll (ys.map PyData.str)) ≤ 1
  | [] => by decide
  | y :: r => by
    have := depth_strs r
    show max (PyData.depth (.str y)) (PyData.depthAll (r.map PyData.str)) ≤ 1
    have e : PyData.depth (.str y) ≤ 1 := by
      show (0 : Nat) ≤ 1
      decide
    omega
end CN

set_option Elab.async false
set_option linter.all false
set_option maxRecDepth 100000
set_option maxHeartbeats 4000000
namespace K01
open PySem PySem.Spec PyProof.Rows L2 CN
def top (i : Nat) : Stmt := PySem.Challenge.pw_caughtnames_k01_kinds_of_words.main.body.getD i (.Pass ⟨0, 0, 0, 0⟩)
abbrev s_is_integer : Stmt := (top 4)
abbrev N_is_integer : List Str := ["value", "low", "high"]
theorem sc_is_integer : FnScope N_is_integer ["value", "low", "high"] (defScope s_is_integer) := ⟨rfl, rfl, rfl, by decide +kernel, rfl, by decide +kernel, by decide +kernel⟩
abbrev s_is_name : Stmt := (top 5)
abbrev N_is_name : List Str := ["value", "letter"]
theorem sc_is_name : FnScope N_is_name ["value"] (defScope s_is_name) := ⟨rfl, rfl, rfl, by decide +kernel, rfl, by decide +kernel, by decide +kernel⟩
abbrev s_is_parameter : Stmt := (top 6)
abbrev N_is_parameter : List Str := ["value"]
theorem sc_is_parameter : FnScope N_is_parameter ["value"] (defScope s_is_parameter) := ⟨rfl, rfl, rfl, by decide +kernel, rfl, by decide +kernel, by decide +kernel⟩
abbrev s_InvalidName___init__ : Stmt := (inClass (top 9) 0)
abbrev N_InvalidName___init__ : List Str := ["self", "value"]
theorem sc_InvalidName___init__ : FnScope N_InvalidName___init__ ["self", "value"] (defScope s_InvalidName___init__) := ⟨rfl, rfl, rfl, by decide +kernel, rfl, by decide +kernel, by decide +kernel⟩
abbrev s__law_cell : Stmt := (top 11)
abbrev N__law_cell : List Str := ["_law_script", "_law_k"]
theorem sc__law_cell : FnScope N__law_cell ["_law_script", "_law_k"] (defScope s__law_cell) := ⟨rfl, rfl, rfl, by decide +kernel, rfl, by decide +kernel, by decide +kernel⟩
abbrev s__law_box : Stmt := (top 12)
abbrev N__law_box : List Str := ["_law_cell_here"]
theorem sc__law_box : FnScope N__law_box ["_law_cell_here"] (defScope s__law_box) := ⟨rfl, rfl, rfl, by decide +kernel, rfl, by decide +kernel, by decide +kernel⟩
abbrev s__law_take : Stmt := (top 13)
abbrev N__law_take : List Str := ["_law_box_here", "_law_many", "_law_digit", "_law_number_here"]
theorem sc__law_take : FnScope N__law_take ["_law_box_here", "_law_many"] (defScope s__law_take) := ⟨rfl, rfl, rfl, by decide +kernel, rfl, by decide +kernel, by decide +kernel⟩
abbrev s__law_number : Stmt := (top 14)
abbrev N__law_number : List Str := ["_law_box_here", "_law_far", "_law_some"]
theorem sc__law_number : FnScope N__law_number ["_law_box_here"] (defScope s__law_number) := ⟨rfl, rfl, rfl, by decide +kernel, rfl, by decide +kernel, by decide +kernel⟩
abbrev s__law_string : Stmt := (top 15)
abbrev N__law_string : List Str := ["_law_box_here", "_law_letters", "_law_some", "_law_text", "_law_at", "_law_sign", "_law_k"]
theorem sc__law_string : FnScope N__law_string ["_law_box_here"] (defScope s__law_string) := ⟨rfl, rfl, rfl, by decide +kernel, rfl, by decide +kernel, by decide +kernel⟩
abbrev s__law_is_name : Stmt := (top 16)
abbrev N__law_is_name : List Str := ["_law_text", "_law_sign"]
theorem sc__law_is_name : FnScope N__law_is_name ["_law_text"] (defScope s__law_is_name) := ⟨rfl, rfl, rfl, by decide +kernel, rfl, by decide +kernel, by decide +kernel⟩
abbrev s__law_is : Stmt := (top 17)
abbrev N__law_is : List Str := ["_law_found", "_law_due"]
theorem sc__law_is : FnScope N__law_is ["_law_found", "_law_due"] (defScope s__law_is) := ⟨rfl, rfl, rfl, by decide +kernel, rfl, by decide +kernel, by decide +kernel⟩
abbrev s_law : Stmt := (top 18)
abbrev N_law : List Str := ["_law_script", "_law_k", "_law_box_here", "_law_low", "_law_high", "_law_number_here", "_law_odd", "_law_turn", "_law_text"]
theorem sc_law : FnScope N_law ["_law_script"] (defScope s_law) := ⟨rfl, rfl, rfl, by decide +kernel, rfl, by decide +kernel, by decide +kernel⟩
structure Ad where
  mk ::
  (f_is_integer : Addr) (d_is_integer : FuncData)
  (f_is_name : Addr) (d_is_name : FuncData)
  (f_is_parameter : Addr) (d_is_parameter : FuncData)
  (f_InvalidName___init__ : Addr) (d_InvalidName___init__ : FuncData)
  (f__law_cell : Addr) (d__law_cell : FuncData)
  (f__law_box : Addr) (d__law_box : FuncData)
  (f__law_take : Addr) (d__law_take : FuncData)
  (f__law_number : Addr) (d__law_number : FuncData)
  (f__law_string : Addr) (d__law_string : FuncData)
  (f__law_is_name : Addr) (d__law_is_name : FuncData)
  (f__law_is : Addr) (d__law_is : FuncData)
  (f_law : Addr) (d_law : FuncData)
  (c_OWN_WORDS : Addr)
  (t_LETTERS : Tok)
  (t_MOST_LETTERS : Tok)
  (c_CaughtError : Addr)
  (c_InvalidName : Addr)
/-- what the top has written -/
structure Txt (K : PySem.W.Frag) (mg : Str → Option Value) (a : Ad) : Prop where
  F_is_integer : Fun K "is_integer" "is_integer" s_is_integer a.f_is_integer a.d_is_integer
  bi_is_integer : Binds K a.d_is_integer ["value", "low", "high"] []
  g_is_integer : mg "is_integer" = some (.ref a.f_is_integer)
  F_is_name : Fun K "is_name" "is_name" s_is_name a.f_is_name a.d_is_name
  bi_is_name : Binds K a.d_is_name ["value"] []
  g_is_name : mg "is_name" = some (.ref a.f_is_name)
  F_is_parameter : Fun K "is_parameter" "is_parameter" s_is_parameter a.f_is_parameter a.d_is_parameter
  bi_is_parameter : Binds K a.d_is_parameter ["value"] []
  g_is_parameter : mg "is_parameter" = some (.ref a.f_is_parameter)
  F_InvalidName___init__ : Fun K "__init__" "InvalidName.__init__" s_InvalidName___init__ a.f_InvalidName___init__ a.d_InvalidName___init__
  bi_InvalidName___init__ : Binds K a.d_InvalidName___init__ ["self", "value"] []
  i_InvalidName___init__ : PySem.W.findIn K (.ref a.c_InvalidName) "__init__" = some (some (.ref a.f_InvalidName___init__))
  ty_InvalidName___init__ : PySem.W.typeIn K (.ref a.f_InvalidName___init__) = some (.type "function")
  F__law_cell : Fun K "_law_cell" "_law_cell" s__law_cell a.f__law_cell a.d__law_cell
  bi__law_cell : Binds K a.d__law_cell ["_law_script", "_law_k"] []
  g__law_cell : mg "_law_cell" = some (.ref a.f__law_cell)
  F__law_box : Fun K "_law_box" "_law_box" s__law_box a.f__law_box a.d__law_box
  bi__law_box : Binds K a.d__law_box ["_law_cell_here"] []
  g__law_box : mg "_law_box" = some (.ref a.f__law_box)
  F__law_take : Fun K "_law_take" "_law_take" s__law_take a.f__law_take a.d__law_take
  bi__law_take : Binds K a.d__law_take ["_law_box_here", "_law_many"] []
  g__law_take : mg "_law_take" = some (.ref a.f__law_take)
  F__law_number : Fun K "_law_number" "_law_number" s__law_number a.f__law_number a.d__law_number
  bi__law_number : Binds K a.d__law_number ["_law_box_here"] []
  g__law_number : mg "_law_number" = some (.ref a.f__law_number)
  F__law_string : Fun K "_law_string" "_law_string" s__law_string a.f__law_string a.d__law_string
  bi__law_string : Binds K a.d__law_string ["_law_box_here"] []
  g__law_string : mg "_law_string" = some (.ref a.f__law_string)
  F__law_is_name : Fun K "_law_is_name" "_law_is_name" s__law_is_name a.f__law_is_name a.d__law_is_name
  bi__law_is_name : Binds K a.d__law_is_name ["_law_text"] []
  g__law_is_name : mg "_law_is_name" = some (.ref a.f__law_is_name)
  F__law_is : Fun K "_law_is" "_law_is" s__law_is a.f__law_is a.d__law_is
  bi__law_is : Binds K a.d__law_is ["_law_found", "_law_due"] []
  g__law_is : mg "_law_is" = some (.ref a.f__law_is)
  F_law : Fun K "law" "law" s_law a.f_law a.d_law
  bi_law : Binds K a.d_law ["_law_script"] []
  g_law : mg "law" = some (.ref a.f_law)
  lb : ∀ (s : Shared) (u : Value), BindsTo s a.d_law ⟨[u], []⟩ [("_law_script", u)]
  g_OWN_WORDS : mg "OWN_WORDS" = some (.ref a.c_OWN_WORDS)
  k_OWN_WORDS : ∀ H, SqT K H a.c_OWN_WORDS [V.str "let", V.str "in", V.str "each", V.str "of", V.str "want"]
  g_LETTERS : mg "LETTERS" = some (.str "abcdefghijklmnopqrstuvwxyz" a.t_LETTERS)
  g_MOST_LETTERS : mg "MOST_LETTERS" = some (.int 6 a.t_MOST_LETTERS)
  g_CaughtError : mg "CaughtError" = some (.ref a.c_CaughtError)
  e_CaughtError : ExB0 K a.c_CaughtError
  g_InvalidName : mg "InvalidName" = some (.ref a.c_InvalidName)
  e_InvalidName : ExT K a.c_InvalidName "value"
  xs_InvalidName : PySem.W.subIn K (.ref a.c_InvalidName) (.type "str") = some false
  b_len : mg "len" = none
  b_max : mg "max" = none
  b_min : mg "min" = none
  b_str : mg "str" = none
  b_int : mg "int" = none
  b_bool : mg "bool" = none
  b_isinstance : mg "isinstance" = none
  b_all : mg "all" = none
  b_range : mg "range" = none
end K01

set_option Elab.async false
set_option linter.all false
set_option maxRecDepth 100000
set_option maxHeartbeats 4000000
namespace K01
open PySem PySem.Spec PyProof.Rows L2 CN Evl
def t__law_cell (K : PySem.W.Frag) (a : Ad) : TS :=
  (tSeq (tIfS (tTest (tOp rLtU (tVar 1) (tCB (rLenU K) (tCons (tVar 0) tNil)))) (tRet (tOp (rIx K) (tVar 0) (tVar 1))) tNext)
  (tRet (tOp (rAddU K) (tOp rMulU (tC (.int 7919)) (tVar 1)) (tC (.int 131)))))
def t__law_box (K : PySem.W.Frag) (a : Ad) : TS :=
  (tRet (tLstG (tCons (tCB rMaxI (tCons (tC (.int 0)) (tCons (tOp rSubI (tVar 0) (tOp rPowI (tC (.int 10)) (tC (.int 18)))) tNil))) (tCons (tOp rModI (tVar 0) (tC (.int 2147483629))) (tCons (tC (.int 0)) tNil)))))
def t__law_take (K : PySem.W.Frag) (a : Ad) : TS :=
  (tSeq (tIfS (tTest (tOp rGtU (tOp (rIx K) (tVar 0) (tC (.int 0))) (tC (.int 0)))) (tSeq (tAsg (tOp rModI (tOp (rIx K) (tVar 0) (tC (.int 0))) (tVar 1)) (gName 2))
  (tSeq (tAsg (tOp rDivI (tOp (rIx K) (tVar 0) (tC (.int 0))) (tVar 1)) (gSub (tVar 0) (tC (.int 0)) rSetL))
  (tRet (tVar 2)))) tNext)
  (tSeq (tAsg (tOp (rAddU K) (tOp (rIx K) (tVar 0) (tC (.int 2))) (tC (.int 1))) (gSub (tVar 0) (tC (.int 2)) rSetL))
  (tSeq (tAsg (tOp rModI (tOp rPowI (tOp (rAddU K) (tOp (rAddU K) (tOp (rIx K) (tVar 0) (tC (.int 1))) (tOp rMulU (tC (.int 7919)) (tOp (rIx K) (tVar 0) (tC (.int 2))))) (tC (.int 43))) (tC (.int 5))) (tC (.int 2147483647))) (gName 3))
  (tSeq (tAsg (tOp rModI (tOp rPowI (tOp (rAddU K) (tVar 3) (tOp rMulU (tC (.int 104729)) (tOp (rIx K) (tVar 0) (tC (.int 2))))) (tC (.int 3))) (tC (.int 2147483587))) (gName 3))
  (tRet (tOp rModI (tOp rDivI (tVar 3) (tC (.int 8))) (tVar 1)))))))
theorem pow_pos_le {x y : Int} (h0 : 0 ≤ x) (h1 : x ≤ y) : x.natAbs ≤ y.natAbs := by omega
theorem rd__law_take {K : PySem.W.Frag} {a : Ad} {vs : List V} {H : Hp} {Q : VK} {E : XK} (h : spTake vs H Q E) :
    t__law_take K a { nx := fun _ H' => Q .non H', rt := Q } (L2.start N__law_take vs) H := by
  obtain ⟨b, many, m, rfl, ⟨n, r, c, hb, h1, h2, h3, h4, h5⟩, hm, hp, hq, k⟩ := h
  refine ⟨_, rfl, ix_l hb rfl ⟨_, rfl, ?_⟩⟩
  refine ite2 (fun hn => ?_) (fun hn => ?_)
  · have hn' : 0 < n := of_decide_eq_true hn
    refine ⟨_, rfl, ix_l hb rfl ⟨_, rfl, hp, ?_⟩⟩
    refine ⟨_, rfl, ix_l hb rfl ⟨_, rfl, ⟨hp, hq⟩, ?_⟩⟩
    refine ⟨_, rfl, b, _, 0, 0, rfl, rfl, hb, rfl, ?_⟩
    refine ⟨_, rfl, ?_⟩
    refine k _ _ (Int.emod_nonneg _ (by omega)) (Int.emod_lt_of_pos _ hp) ExBx.upd ?_
    exact ⟨n / many, r, c, upd_same, Int.ediv_nonneg h1 (by omega), h2, h3, h4, by omega⟩
  · refine ⟨_, rfl, ix_l hb rfl ?_⟩
    refine ⟨_, rfl, b, _, 2, 2, rfl, rfl, hb, rfl, ?_⟩
    have hb2 : (upd H b (.lst [.int n, .int r, .int (c + 1)])) b = some (.lst [.int n, .int r, .int (c + 1)]) := upd_same
    refine ⟨_, rfl, ix_l hb2 rfl ⟨_, rfl, ix_l hb2 rfl ⟨.inl ⟨by decide, by decide⟩, ?_⟩⟩⟩
    refine ⟨⟨by decide, by decide, ?_⟩, by decide, ?_⟩
    · show (r + 7919 * (c + 1) + 43).natAbs < 2 ^ 64
      omega
    · generalize hx : (r + 7919 * (c + 1) + 43) ^ (5 : Int).toNat % 2147483647 = x
      have x0 : 0 ≤ x := by
        rw [← hx]
        exact Int.emod_nonneg _ (by decide)
      have x1 : x < 2147483647 := by
        rw [← hx]
        exact Int.emod_lt_of_pos _ (by decide)
      refine ⟨_, rfl, _, rfl, ix_l hb2 rfl ⟨.inl ⟨by decide, by decide⟩, ?_⟩⟩
      refine ⟨⟨by decide, by decide, ?_⟩, by decide, ?_⟩
      · show (x + 104729 * (c + 1)).natAbs < 2 ^ 64
        omega
      · refine ⟨_, rfl, ⟨by decide, by decide⟩, _, rfl, hp, ?_⟩
        refine k _ _ (Int.emod_nonneg _ (by omega)) (Int.emod_lt_of_pos _ hp) ExBx.upd ?_
        exact ⟨n, r, c + 1, upd_same, h1, h2, h3, by omega, by omega⟩
theorem rd__law_cell {K : PySem.W.Frag} {a : Ad} {vs : List V} {H : Hp} {Q : VK} {E : XK} (h : spCell K vs H Q E) :
    t__law_cell K a { nx := fun _ H' => Q .non H', rt := Q } (L2.start N__law_cell vs) H := by
  obtain ⟨p, ns, k, rfl, hS, hk, q⟩ := h
  refine ⟨_, rfl, _, rfl, .inl ⟨_, .inl hS, _, rfl, ?_⟩⟩
  refine ite2 (fun hn => ?_) (fun hn => ?_)
  · have hn' : (k : Int) < (ns.map V.int).length := of_decide_eq_true hn
    obtain ⟨v, e, hv⟩ := atI_some (xs := ns.map V.int) (i := k) (by omega) hn'
    obtain ⟨z, _, rfl⟩ := List.mem_map.mp hv
    exact ⟨_, rfl, _, rfl, ix_L hS e (q z)⟩
  · exact ⟨_, rfl, .inl ⟨by decide, by decide⟩, q _⟩
theorem rd__law_box {K : PySem.W.Frag} {a : Ad} {vs : List V} {H : Hp} {Q : VK} {E : XK} (h : spBox vs H Q E) :
    t__law_box K a { nx := fun _ H' => Q .non H', rt := Q } (L2.start N__law_box vs) H := by
  obtain ⟨c, rfl, q⟩ := h
  refine ⟨_, rfl, ⟨by decide, by decide, by decide⟩, ?_⟩
  refine ⟨_, rfl, by decide, ?_⟩
  refine ⟨(by show 3 ≤ sizeLine; decide), fun p H' hp e h' => q p H' hp e ⟨_, _, _, h', ?_, Int.emod_nonneg _ (by decide), Int.emod_lt_of_pos _ (by decide), by decide, by decide⟩⟩
  split <;> omega
section
variable {P : Program} {w : World} {K : PySem.W.Frag} {mg : Str → Option Value} {base : Heap} {a : Ad}
theorem ok__law_take (T : Txt K mg a) : FnOk P w K mg base CX0 1 a.f__law_take a.d__law_take ["_law_box_here", "_law_many"] spTake := by
  refine T.F__law_take.ok sc__law_take (fun vs H Q E h => ?_) (fun cdv A outer s H vs Q E hr h => ⟨t__law_take K a, ?_, rd__law_take h⟩)
  · obtain ⟨b, many, m, rfl, _⟩ := h
    rfl
  exact (pss_cons (ps_if (pt_cmpR op_gtU (pe_ix ix_seq (pv 0) pe_int (fun _ _ => rfl)) pe_int (nomark _)) (pss_cons (ps_set (i := 2) sc__law_take.nd rfl (Or.inl rfl) (pe_op op_modI (pe_ix ix_seq (pv 0) pe_int (fun _ _ => rfl)) (pv 1)))
      (pss_cons (ps_asg (pe_op op_divI (pe_ix ix_seq (pv 0) pe_int (fun _ _ => rfl)) (pv 1)) (pg_sub (pv 0) pe_int set_list))
      (pss_one (ps_ret (pv 2))))) pss_nil)
      (pss_cons (ps_asg (pe_op op_addU (pe_ix ix_seq (pv 0) pe_int (fun _ _ => rfl)) pe_int) (pg_sub (pv 0) pe_int set_list))
      (pss_cons (ps_set (i := 3) sc__law_take.nd rfl (Or.inl rfl) (pe_op op_modI (pe_op op_powI (pe_op op_addU (pe_op op_addU (pe_ix ix_seq (pv 0) pe_int (fun _ _ => rfl)) (pe_op op_mulU pe_int (pe_ix ix_seq (pv 0) pe_int (fun _ _ => rfl)))) pe_int) pe_int) pe_int))
      (pss_cons (ps_set (i := 3) sc__law_take.nd rfl (Or.inl rfl) (pe_op op_modI (pe_op op_powI (pe_op op_addU (pv 3) (pe_op op_mulU pe_int (pe_ix ix_seq (pv 0) pe_int (fun _ _ => rfl)))) pe_int) pe_int))
      (pss_one (ps_ret (pe_op op_modI (pe_op op_divI (pv 3) pe_int) (pv 1))))))))
theorem ok__law_cell (T : Txt K mg a) : FnOk P w K mg base CX0 1 a.f__law_cell a.d__law_cell ["_law_script", "_law_k"] (spCell K) := by
  refine T.F__law_cell.ok sc__law_cell (fun vs H Q E h => ?_) (fun cdv A outer s H vs Q E hr h => ⟨t__law_cell K a, ?_, rd__law_cell h⟩)
  · obtain ⟨b, many, m, rfl, _⟩ := h
    rfl
  exact (pss_cons (ps_if (pt_cmpR op_ltU (pv 1) (pe_callB call_lenU (by rfl) T.b_len (by decide +kernel) (pa_cons (pv 0) pa_nil)) (nomark _)) (pss_one (ps_ret (pe_ix ix_seq (pv 0) (pv 1) (fun _ _ => rfl)))) pss_nil)
      (pss_one (ps_ret (pe_op op_addU (pe_op op_mulU pe_int (pv 1)) pe_int))))
theorem ok__law_box (T : Txt K mg a) : FnOk P w K mg base CX0 1 a.f__law_box a.d__law_box ["_law_cell_here"] spBox := by
  refine T.F__law_box.ok sc__law_box (fun vs H Q E h => ?_) (fun cdv A outer s H vs Q E hr h => ⟨t__law_box K a, ?_, rd__law_box h⟩)
  · obtain ⟨b, rfl, _⟩ := h
    rfl
  exact (pss_one (ps_ret (pe_lstG (pa_cons (pe_callB (call_maxI rfl) (by rfl) T.b_max (by decide +kernel) (pa_cons pe_int (pa_cons (pe_op op_subI (pv 0) (pe_op op_powI pe_int pe_int)) pa_nil))) (pa_cons (pe_op op_modI (pv 0) pe_int) (pa_cons pe_int pa_nil))))))
end
end K01

set_option Elab.async false
set_option linter.all false
set_option maxRecDepth 100000
set_option maxHeartbeats 4000000
namespace K01
open PySem PySem.Spec PyProof.Rows L2 CN Evl
abbrev sp__law_take (K : PySem.W.Frag) : Sp := spTake
theorem w_take {H : Hp} {Q : VK} {E : XK} {b : Addr} {many m : Int} (B : BoxAt H b m) (hm : m ≤ 1099511627776) (h0 : 0 < many) (h1 : many < 1073741824)
    (k : ∀ (d : Int) (H' : Hp), 0 ≤ d → d < many → ExBx b H H' → BoxAt H' b (m + 1) → Q (.int d) H') : spTake [.ref b, .int many] H Q E := ⟨b, many, m, rfl, B, hm, h0, h1, k⟩
/-- a number of up to thirty digits -/
def spNumber : Sp := fun vs H Q _ => ∃ (b : Addr) (m : Int), vs = [.ref b] ∧ BoxAt H b m ∧ m + 100 ≤ 1099511627776 ∧
  ∀ (z : Int) (H' : Hp), z.natAbs ≤ 10 ^ 31 → ExBx b H H' → BoxAt H' b (m + 20) → Q (.int z) H'
def t__law_number (K : PySem.W.Frag) (a : Ad) : TS :=
  (tSeq (tAsg (tOp (rAddU K) (tOp (rAddU K) (tOp rMulU (tCall (sp__law_take K) [] E0 (tCons (tVar 0) (tCons (tOp rPowI (tC (.int 10)) (tC (.int 8))) tNil))) (tOp rPowI (tC (.int 10)) (tC (.int 22)))) (tOp rMulU (tCall (sp__law_take K) [] E0 (tCons (tVar 0) (tCons (tOp rPowI (tC (.int 10)) (tC (.int 8))) tNil))) (tOp rPowI (tC (.int 10)) (tC (.int 11))))) (tCall (sp__law_take K) [] E0 (tCons (tVar 0) (tCons (tOp rPowI (tC (.int 10)) (tC (.int 8))) tNil)))) (gName 1))
  (tSeq (tAsg (tLstG (tCons (tCall (sp__law_take K) [] E0 (tCons (tVar 0) (tCons (tC (.int 41)) tNil))) (tCons (tCall (sp__law_take K) [] E0 (tCons (tVar 0) (tCons (tOp rPowI (tC (.int 10)) (tC (.int 8))) tNil))) (tCons (tVar 1) (tCons (tOp rSubI (tOp rSubI (tOp rPowI (tC (.int 10)) (tC (.int 30))) (tC (.int 9))) (tCall (sp__law_take K) [] E0 (tCons (tVar 0) (tCons (tC (.int 3)) tNil)))) tNil))))) (gName 2))
  (tRet (tOp rMulU (tOp (rIx K) (tVar 2) (tCall (sp__law_take K) [] E0 (tCons (tVar 0) (tCons (tC (.int 4)) tNil)))) (tOp (rIx K) (tLstG (tCons (tC (.int 1)) (tCons (tUn rNegI (tC (.int 1))) tNil))) (tCall (sp__law_take K) [] E0 (tCons (tVar 0) (tCons (tC (.int 2)) tNil))))))))
theorem p8 : (10 : Int) ^ (8 : Int).toNat = 100000000 := by decide
theorem p11 : (10 : Int) ^ (11 : Int).toNat = 100000000000 := by decide
theorem p22 : (10 : Int) ^ (22 : Int).toNat = 10000000000000000000000 := by decide
theorem p30 : (10 : Int) ^ (30 : Int).toNat = 1000000000000000000000000000000 := by decide
theorem rd__law_number {K : PySem.W.Frag} {a : Ad} {vs : List V} {H : Hp} {Q : VK} {E : XK} (h : spNumber vs H Q E) :
    t__law_number K a { nx := fun _ H' => Q .non H', rt := Q } (L2.start N__law_number vs) H := by
  obtain ⟨b, m, rfl, B, hm, k⟩ := h
  -- the far number
  refine ⟨_, rfl, ⟨by decide, by decide, by decide⟩, ?_⟩
  refine ⟨b, _, _, rfl, B, by omega, by decide, by decide, fun d1 H1 a1 b1 e1 B1 => ?_⟩
  rw [p8] at b1
  refine ⟨⟨by decide, by decide, by decide⟩, .inl ⟨by omega, by omega⟩, ?_⟩
  refine ⟨_, rfl, ⟨by decide, by decide, by decide⟩, ?_⟩
  refine ⟨b, _, _, rfl, B1, by omega, by decide, by decide, fun d2 H2 a2 b2 e2 B2 => ?_⟩
  rw [p8] at b2
  refine ⟨⟨by decide, by decide, by decide⟩, .inl ⟨by omega, by omega⟩, ?_⟩
  refine ⟨_, rfl, ⟨by decide, by decide, by decide⟩, ?_⟩
  refine ⟨b, _, _, rfl, B2, by omega, by decide, by decide, fun d3 H3 a3 b3 e3 B3 => ?_⟩
  rw [p8] at b3
  -- some
  refine ⟨_, rfl, ⟨b, _, _, rfl, B3, by omega, by decide, by decide, fun d4 H4 a4 b4 e4 B4 => ?_⟩⟩
  refine ⟨_, rfl, ⟨by decide, by decide, by decide⟩, ?_⟩
  refine ⟨b, _, _, rfl, B4, by omega, by decide, by decide, fun d5 H5 a5 b5 e5 B5 => ?_⟩
  rw [p8] at b5
  refine ⟨_, rfl, ⟨by decide, by decide, by decide⟩, _, rfl, ?_⟩
  refine ⟨b, _, _, rfl, B5, by omega, by decide, by decide, fun d6 H6 a6 b6 e6 B6 => ?_⟩
  refine ⟨(by show 4 ≤ sizeLine; decide), fun p H7 n7 e7 h7 => ?_⟩
  have B7 := B6.ex e7
  have np : p ≠ b := B6.ne n7
  refine ⟨_, rfl, _, rfl, ⟨b, _, _, rfl, B7, by omega, by decide, by decide, fun d8 H8 a8 b8 e8 B8 => ?_⟩⟩
  obtain ⟨v, ev, hv⟩ := atI_some (xs := [V.int d4, V.int d5, V.int (d1 * 10 ^ (22 : Int).toNat + d2 * 10 ^ (11 : Int).toNat + d3), V.int (10 ^ (30 : Int).toNat - 9 - d6)]) (i := d8) a8 b8
  have hz : ∃ z : Int, v = .int z ∧ z.natAbs ≤ 10 ^ 31 := by
    rw [p22, p11, p30] at hv
    simp only [List.mem_cons, List.not_mem_nil, or_false] at hv
    rcases hv with rfl | rfl | rfl | rfl
    · exact ⟨_, rfl, by omega⟩
    · exact ⟨_, rfl, by omega⟩
    · exact ⟨_, rfl, by omega⟩
    · exact ⟨_, rfl, by omega⟩
  obtain ⟨z, rfl, hz⟩ := hz
  refine ix_l (e8 _ _ np h7) ev ?_
  refine ⟨(by show 2 ≤ sizeLine; decide), fun q H9 n9 e9 h9 => ?_⟩
  have B9 := B8.ex e9
  have nq : q ≠ b := B8.ne n9
  refine ⟨_, rfl, ⟨b, _, _, rfl, B9, by omega, by decide, by decide, fun d10 H10 a10 b10 e10 B10 => ?_⟩⟩
  obtain ⟨y, ey, hy⟩ := atI_some (xs := [V.int 1, V.int (-1)]) (i := d10) a10 b10
  have hy' : ∃ z : Int, y = .int z ∧ (z = 1 ∨ z = -1) := by
    simp only [List.mem_cons, List.not_mem_nil, or_false] at hy
    rcases hy with rfl | rfl
    · exact ⟨_, rfl, .inl rfl⟩
    · exact ⟨_, rfl, .inr rfl⟩
  obtain ⟨y, rfl, hyy⟩ := hy'
  refine ix_l (e10 _ _ nq h9) ey ⟨.inr ⟨by omega, by omega⟩, ?_⟩
  refine k _ _ ?_ ?_ (B10.mono (by omega))
  · rcases hyy with rfl | rfl
    · rw [Int.mul_one]
      exact hz
    · rw [Int.mul_neg, Int.mul_one, Int.natAbs_neg]
      exact hz
  · exact (((((((e1.trans e2).trans e3).trans e4).trans e5).trans e6).ex e7).trans e8).ex e9 |>.trans e10
section
variable {P : Program} {w : World} {K : PySem.W.Frag} {mg : Str → Option Value} {base : Heap} {a : Ad}
theorem ok__law_number (T : Txt K mg a) : FnOk P w K mg base CX0 2 a.f__law_number a.d__law_number ["_law_box_here"] spNumber := by
  have G__law_take : FnOk P w K mg base CX0 1 a.f__law_take a.d__law_take ["_law_box_here", "_law_many"] spTake := ok__law_take T
  refine T.F__law_number.ok sc__law_number (fun vs H Q E h => ?_) (fun cdv A outer s H vs Q E hr h => ⟨t__law_number K a, ?_, rd__law_number h⟩)
  · obtain ⟨b, m, rfl, _⟩ := h
    rfl
  exact (pss_cons (ps_set (i := 1) sc__law_number.nd rfl (Or.inl rfl) (pe_op op_addU (pe_op op_addU (pe_op op_mulU (pe_call G__law_take (hr.mono (by decide)) (by rfl) T.g__law_take T.F__law_take.kp T.bi__law_take .nil pass0 (pa_cons (pv 0) (pa_cons (pe_op op_powI pe_int pe_int) pa_nil))) (pe_op op_powI pe_int pe_int)) (pe_op op_mulU (pe_call G__law_take (hr.mono (by decide)) (by rfl) T.g__law_take T.F__law_take.kp T.bi__law_take .nil pass0 (pa_cons (pv 0) (pa_cons (pe_op op_powI pe_int pe_int) pa_nil))) (pe_op op_powI pe_int pe_int))) (pe_call G__law_take (hr.mono (by decide)) (by rfl) T.g__law_take T.F__law_take.kp T.bi__law_take .nil pass0 (pa_cons (pv 0) (pa_cons (pe_op op_powI pe_int pe_int) pa_nil)))))
      (pss_cons (ps_set (i := 2) sc__law_number.nd rfl (Or.inl rfl) (pe_lstG (pa_cons (pe_call G__law_take (hr.mono (by decide)) (by rfl) T.g__law_take T.F__law_take.kp T.bi__law_take .nil pass0 (pa_cons (pv 0) (pa_cons pe_int pa_nil))) (pa_cons (pe_call G__law_take (hr.mono (by decide)) (by rfl) T.g__law_take T.F__law_take.kp T.bi__law_take .nil pass0 (pa_cons (pv 0) (pa_cons (pe_op op_powI pe_int pe_int) pa_nil))) (pa_cons (pv 1) (pa_cons (pe_op op_subI (pe_op op_subI (pe_op op_powI pe_int pe_int) pe_int) (pe_call G__law_take (hr.mono (by decide)) (by rfl) T.g__law_take T.F__law_take.kp T.bi__law_take .nil pass0 (pa_cons (pv 0) (pa_cons pe_int pa_nil)))) pa_nil))))))
      (pss_one (ps_ret (pe_op op_mulU (pe_ix ix_seq (pv 2) (pe_call G__law_take (hr.mono (by decide)) (by rfl) T.g__law_take T.F__law_take.kp T.bi__law_take .nil pass0 (pa_cons (pv 0) (pa_cons pe_int pa_nil))) (fun _ _ => rfl)) (pe_ix ix_seq (pe_lstG (pa_cons pe_int (pa_cons (pe_un un_negI pe_int) pa_nil))) (pe_call G__law_take (hr.mono (by decide)) (by rfl) T.g__law_take T.F__law_take.kp T.bi__law_take .nil pass0 (pa_cons (pv 0) (pa_cons pe_int pa_nil))) (fun _ _ => rfl)))))))
end
end K01

set_option Elab.async false
set_option linter.all false
set_option maxRecDepth 100000
set_option maxHeartbeats 4000000
namespace K01
open PySem PySem.Spec PyProof.Rows L2 CN Evl
/-- some text -/
def spString : Sp := fun vs H Q _ => ∃ (b : Addr) (m : Int), vs = [.ref b] ∧ BoxAt H b m ∧ m + 200 ≤ 1099511627776 ∧
  ∀ (z : Str) (H' : Hp), z.length ≤ 1000 → OkS z → ExBx b H H' → BoxAt H' b (m + 100) → Q (.str z) H'
def t__law_string (K : PySem.W.Frag) (a : Ad) : TS :=
  (tSeq (tAsg (tC (.str "abcdefghijklmnopqrstuvwxyz")) (gName 1))
  (tSeq (tAsg (tLstG (tCons (tC (.str "let")) (tCons (tC (.str "in")) (tCons (tC (.str "each")) (tCons (tC (.str "of")) (tCons (tC (.str "want")) (tCons (tC (.str "le")) (tCons (tC (.str "lets")) (tCons (tC (.str "i")) (tCons (tC (.str "inn")) (tCons (tC (.str "eac")) (tCons (tC (.str "eachs")) (tCons (tC (.str "o")) (tCons (tC (.str "off")) (tCons (tC (.str "wan")) tNil))))))))))))))) (gName 2))
  (tSeq (tAsg (tOp (rAddU K) (tVar 2) (tLstG (tCons (tC (.str "wants")) (tCons (tC (.str "tel")) tNil)))) (gName 2))
  (tSeq (tAsg (tM1 (rJoinU K) (tC (.str "")) (tLc (iRng1 (tCons (tCall (sp__law_take K) [] E0 (tCons (tVar 0) (tCons (tC (.int 9)) tNil))) tNil)) (gName 6) tYes (tOp (rIx K) (tVar 1) (tCall (sp__law_take K) [] E0 (tCons (tVar 0) (tCons (tC (.int 26)) tNil)))) [6])) (gName 3))
  (tSeq (tAsg (tOp (rIx K) (tLstG (tCons (tVar 3) (tCons (tVar 3) (tCons (tOp (rIx K) (tVar 2) (tCall (sp__law_take K) [] E0 (tCons (tVar 0) (tCons (tC (.int 16)) tNil)))) tNil)))) (tCall (sp__law_take K) [] E0 (tCons (tVar 0) (tCons (tC (.int 3)) tNil)))) (gName 3))
  (tSeq (tIfS (tTest (tOp (rEqU K) (tCall (sp__law_take K) [] E0 (tCons (tVar 0) (tCons (tC (.int 3)) tNil))) (tC (.int 0)))) (tSeq (tAsg (tCall (sp__law_take K) [] E0 (tCons (tVar 0) (tCons (tOp (rAddU K) (tCB (rLenU K) (tCons (tVar 3) tNil)) (tC (.int 1))) tNil))) (gName 4))
  (tSeq (tAsg (tOp (rIx K) (tC (.str "ABZ019 _-.?$!\n,@{")) (tCall (sp__law_take K) [] E0 (tCons (tVar 0) (tCons (tC (.int 17)) tNil)))) (gName 5))
  (tAsg (tOp (rIx K) (tLstG (tCons (tOp (rAddU K) (tOp (rAddU K) (tSl (rSlU K) (tVar 3) tNoPart (tPart (tVar 4))) (tVar 5)) (tSl (rSlU K) (tVar 3) (tPart (tOp (rAddU K) (tVar 4) (tC (.int 1)))) tNoPart)) (tCons (tOp (rAddU K) (tOp (rAddU K) (tSl (rSlU K) (tVar 3) tNoPart (tPart (tVar 4))) (tVar 5)) (tSl (rSlU K) (tVar 3) (tPart (tVar 4)) tNoPart)) tNil))) (tCall (sp__law_take K) [] E0 (tCons (tVar 0) (tCons (tC (.int 2)) tNil)))) (gName 3)))) tNext)
  (tRet (tOp (rAddU K) (tOp (rIx K) (tLstG (tCons (tC (.str "")) (tCons (tC (.str "")) (tCons (tC (.str "?")) (tCons (tC (.str "$")) (tCons (tC (.str "??")) (tCons (tC (.str "$?")) tNil))))))) (tCall (sp__law_take K) [] E0 (tCons (tVar 0) (tCons (tC (.int 6)) tNil)))) (tVar 3)))))))))
def lets : Str := "abcdefghijklmnopqrstuvwxyz"
theorem lets_len : lets.cps.toList.length = 26 := by decide +kernel
theorem lets_ok : OkS lets := okS_dec (by decide +kernel)
theorem signs17_ok : OkS ("ABZ019 _-.?$!\n,@{" : Str) := okS_dec (by decide +kernel)
theorem lets_le : lets.length ≤ sizeLine := by decide +kernel
def signs17 : Str := "ABZ019 _-.?$!\n,@{"
theorem signs17_len : signs17.cps.toList.length = 17 := by decide +kernel
theorem signs17_le : signs17.length ≤ sizeLine := by decide +kernel
def words14 : List V := [.str "let", .str "in", .str "each", .str "of", .str "want", .str "le", .str "lets", .str "i", .str "inn", .str "eac", .str "eachs", .str "o", .str "off", .str "wan"]
theorem words16_ok : ∀ v ∈ words14 ++ [V.str "wants", V.str "tel"], ∃ z : Str, v = .str z ∧ z.length ≤ 9 ∧ OkS z := by
  intro v hv
  simp only [words14, List.cons_append, List.nil_append, List.mem_cons, List.not_mem_nil, or_false] at hv
  rcases hv with h | h | h | h | h | h | h | h | h | h | h | h | h | h | h | h <;> exact ⟨_, h, by decide +kernel, okS_dec (by decide +kernel)⟩
theorem heads6_ok : ∀ v ∈ [V.str "", V.str "", V.str "?", V.str "$", V.str "??", V.str "$?"], ∃ z : Str, v = .str z ∧ z.length ≤ 9 ∧ OkS z := by
  intro v hv
  simp only [List.mem_cons, List.not_mem_nil, or_false] at hv
  rcases hv with h | h | h | h | h | h <;> exact ⟨_, h, by decide +kernel, okS_dec (by decide +kernel)⟩
/-- the end of the text: a head, and the text -/
theorem str_end {K : PySem.W.Frag} {a : Ad} {b : Addr} {m m' : Int} {H H' : Hp} {Q : VK} {z : Str} {x1 x2 x4 x5 x6 : Option V} (hz : z.length ≤ 100) (hk : OkS z) (B : BoxAt H' b m') (e : ExBx b H H') (hm : m' + 5 ≤ m + 100) (hm2 : m + 200 ≤ 1099511627776)
    (k : ∀ (z : Str) (H' : Hp), z.length ≤ 1000 → OkS z → ExBx b H H' → BoxAt H' b (m + 100) → Q (.str z) H') :
    tRet (tOp (rAddU K) (tOp (rIx K) (tLstG (tCons (tC (.str "")) (tCons (tC (.str "")) (tCons (tC (.str "?")) (tCons (tC (.str "$")) (tCons (tC (.str "??")) (tCons (tC (.str "$?")) tNil))))))) (tCall (sp__law_take K) [] E0 (tCons (tVar 0) (tCons (tC (.int 6)) tNil)))) (tVar 3))
      { nx := fun _ H' => Q .non H', rt := Q } [some (.ref b), x1, x2, some (.str z), x4, x5, x6] H' := by
  refine ⟨(by show 6 ≤ sizeLine; decide), fun p H1 n1 e1 h1 => ?_⟩
  have B1 := B.ex e1
  have np : p ≠ b := B.ne n1
  refine ⟨_, rfl, b, _, _, rfl, B1, by omega, by decide, by decide, fun d H2 a2 b2 e2 B2 => ?_⟩
  obtain ⟨v, ev, hv⟩ := atI_some (xs := [V.str "", V.str "", V.str "?", V.str "$", V.str "??", V.str "$?"]) (i := d) a2 b2
  obtain ⟨y, rfl, hy, hy2⟩ := heads6_ok v hv
  refine ix_l (e2 _ _ np h1) ev ?_
  refine ⟨_, rfl, line_ge (by omega), ?_⟩
  exact k _ _ (by rw [app_len]; omega) (okS_app hy2 hk) ((e.ex e1).trans e2) (B2.mono (by omega))
theorem rd__law_string {K : PySem.W.Frag} {a : Ad} {vs : List V} {H : Hp} {Q : VK} {E : XK} (h : spString vs H Q E) :
    t__law_string K a { nx := fun _ H' => Q .non H', rt := Q } (L2.start N__law_string vs) H := by
  obtain ⟨b, m, rfl, B, hm, k⟩ := h
  -- letters, some
  refine ⟨(by show 14 ≤ sizeLine; decide), fun p1 H1 n1 e1 h1 => ?_⟩
  have B1 := B.ex e1
  refine ⟨_, rfl, (by show 2 ≤ sizeLine; decide), fun p2 H2 n2 e2 h2 => ?_⟩
  have B2 := B1.ex e2
  refine .inl ⟨p1, p2, words14, [V.str "wants", V.str "tel"], rfl, rfl, e2 _ _ h1, h2, (by show 16 ≤ sizeLine; decide), fun p3 H3 n3 e3 h3 => ?_⟩
  have B3 := B2.ex e3
  have np3 : p3 ≠ b := B2.ne n3
  -- the text
  refine ⟨⟨_, rfl⟩, _, rfl, b, _, _, rfl, B3, by omega, by decide, by decide, fun d4 H4 a4 b4 e4 B4 => ?_⟩
  refine ⟨d4, rfl, by omega, by omega, fun Dl nD => ?_⟩
  have nDb : Dl ≠ b := B4.ne nD
  have nD3 : p3 ≠ Dl := ne_of_none (e4 _ _ np3 h3) nD
  refine lc_range (lo := 0) (n := d4.toNat) (fun i H' => ∃ ys : List Str, H' Dl = some (.lst (ys.map V.str)) ∧ (∀ y ∈ ys, y.length = 1 ∧ OkS y) ∧ ys.length = i ∧ BoxAt H' b (m + 1 + i) ∧ (∀ x o, x ≠ b → x ≠ Dl → H4 x = some o → H' x = some o))
    ⟨[], upd_same, by simp, rfl, ?_, fun x o nb nx hx => by rw [upd_ne nx]; exact hx⟩ ?_ ?_
  · exact (B4.ex (Ex.new nD)).mono (by omega)
  · rintro i H5 hi ⟨ys, g1, g2, g3, B5, e5⟩
    refine ⟨rfl, _, rfl, _, rfl, b, _, _, rfl, B5, by omega, by decide, by decide, fun d6 H6 a6 b6 e6 B6 => ?_⟩
    obtain ⟨c, ec, mc⟩ := atI_some (xs := lets.cps.toList) (i := d6) a6 (by rw [lets_len]; exact b6)
    refine ix_S (z := lets) lets_le ec ⟨_, e6 _ _ nDb g1, by rw [List.length_map]; exact Nat.lt_of_lt_of_le (show ys.length < 100 by omega) (by decide), ?_⟩
    refine ⟨ys ++ [⟨#[c]⟩], by rw [upd_same, List.map_append]; rfl, ?_, by rw [List.length_append, g3]; rfl, ?_, ?_⟩
    · intro y hy
      rcases List.mem_append.mp hy with hy | hy
      · exact g2 y hy
      · rw [List.mem_singleton.mp hy]
        exact ⟨rfl, okS_one (lets_ok c mc)⟩
    · obtain ⟨n, r, c', q0, q1, q2, q3, q4, q5⟩ := B6
      exact ⟨n, r, c', by rw [upd_ne nDb.symm]; exact q0, q1, q2, q3, q4, by omega⟩
    · intro x o nb nx hx
      rw [upd_ne nx]
      exact e6 _ _ nb (e5 x o nb nx hx)
  · rintro H5 ⟨ys, g1, g2, g3, B5, e5⟩
    have hl : ys.length ≤ 8 := by omega
    have hj : (Txt.join (Str.ofString "") ys).length = ys.length := PySem.W.KT.join_ones ys fun y hy => (g2 y hy).1
    have hjo : OkS (Txt.join (Str.ofString "") ys) := okS_join fun y hy => (g2 y hy).2
    have hs : (ys.map (·.length)).sum + ys.length * (Str.ofString "").length ≤ 16777216 := by
      have e : ys.map (·.length) = ys.map fun _ => 1 := List.map_congr_left fun y hy => (g2 y hy).1
      rw [e, List.map_const', List.sum_replicate_nat, Nat.mul_one]
      have z : (Str.ofString "").length = 0 := by decide +kernel
      rw [z]
      omega
    refine ⟨_, Dl, ys, rfl, rfl, .inl (SqL.of g1), hs, ?_⟩
    have h35 : H5 p3 = some (.lst (words14 ++ [V.str "wants", V.str "tel"])) := e5 _ _ np3 nD3 (e4 _ _ np3 h3)
    have ee : ExBx b H H5 := fun x o nb hx => e5 x o nb (ne_of_none (e4 x o nb (e3 x o (e2 x o (e1 x o hx)))) nD) (e4 x o nb (e3 x o (e2 x o (e1 x o hx))))
    generalize hT : Txt.join (Str.ofString "") ys = tx at hj hjo
    -- one of three
    refine ⟨_, rfl, _, rfl, _, rfl, _, rfl, b, _, _, rfl, B5, by omega, by decide, by decide, fun d7 H7 a7 b7 e7 B7 => ?_⟩
    obtain ⟨v, ev, hv⟩ := atI_some (xs := words14 ++ [V.str "wants", V.str "tel"]) (i := d7) a7 b7
    obtain ⟨wd, rfl, hw, hw2⟩ := words16_ok v hv
    refine ix_l (e7 _ _ np3 h35) ev ?_
    refine ⟨(by show 3 ≤ sizeLine; decide), fun p8 H8 n8 e8 h8 => ?_⟩
    have B8 := B7.ex e8
    have np8 : p8 ≠ b := B7.ne n8
    refine ⟨_, rfl, b, _, _, rfl, B8, by omega, by decide, by decide, fun d9 H9 a9 b9 e9 B9 => ?_⟩
    obtain ⟨v, ev, hv⟩ := atI_some (xs := [V.str tx, V.str tx, V.str wd]) (i := d9) a9 b9
    have hv' : ∃ z : Str, v = .str z ∧ z.length ≤ 9 ∧ OkS z := by
      simp only [List.mem_cons, List.not_mem_nil, or_false] at hv
      rcases hv with h | h | h
      · exact ⟨_, h, by omega, hjo⟩
      · exact ⟨_, h, by omega, hjo⟩
      · exact ⟨_, h, hw, hw2⟩
    obtain ⟨z, rfl, hz, hzo⟩ := hv'
    refine ix_l (e9 _ _ np8 h8) ev ?_
    -- another sign
    refine ⟨_, rfl, b, _, _, rfl, B9, by omega, by decide, by decide, fun d10 H10 a10 b10 e10 B10 => .inl ⟨rfl, _, rfl, ?_⟩⟩
    have eA : ExBx b H H10 := (((ee.trans e7).ex e8).trans e9).trans e10
    refine ite2 (fun _ => ?_) (fun _ => ?_)
    · refine ⟨_, rfl, _, rfl, line_ge (by omega), b, _, _, rfl, B10, by omega, by omega, by omega, fun d11 H11 a11 b11 e11 B11 => ?_⟩
      refine ⟨_, rfl, b, _, _, rfl, B11, by omega, by decide, by decide, fun d12 H12 a12 b12 e12 B12 => ?_⟩
      obtain ⟨c, ec, mc⟩ := atI_some (xs := signs17.cps.toList) (i := d12) a12 (by rw [signs17_len]; exact b12)
      refine ix_S (z := signs17) signs17_le ec ?_
      have hc : (⟨#[c]⟩ : Str).length = 1 := rfl
      have c1 := cutS_le z none (some d11)
      have c2 := cutS_le z (some (d11 + 1)) none
      have c3 := cutS_le z (some d11) none
      refine ⟨_, rfl, _, rfl, _, rfl, line_ge (by omega), ?_⟩
      refine ⟨_, rfl, line_ge (by omega), ?_⟩
      refine ⟨_, rfl, _, rfl, _, rfl, line_ge (by omega), line_ge (by rw [app_len]; omega), ?_⟩
      refine ⟨_, rfl, _, rfl, _, rfl, line_ge (by omega), ?_⟩
      refine ⟨_, rfl, line_ge (by omega), ?_⟩
      refine ⟨_, rfl, _, rfl, _, rfl, line_ge (by omega), line_ge (by rw [app_len]; omega), ?_⟩
      refine ⟨(by show 2 ≤ sizeLine; decide), fun p13 H13 n13 e13 h13 => ?_⟩
      have B13 := B12.ex e13
      have np13 : p13 ≠ b := B12.ne n13
      refine ⟨_, rfl, b, _, _, rfl, B13, by omega, by decide, by decide, fun d14 H14 a14 b14 e14 B14 => ?_⟩
      obtain ⟨v, ev, hv⟩ := atI_some (xs := [V.str (cutS z none (some d11) ++ ⟨#[c]⟩ ++ cutS z (some (d11 + 1)) none), V.str (cutS z none (some d11) ++ ⟨#[c]⟩ ++ cutS z (some d11) none)]) (i := d14) a14 b14
      have hco : OkS ⟨#[c]⟩ := okS_one (signs17_ok c mc)
      have hv' : ∃ z : Str, v = .str z ∧ z.length ≤ 100 ∧ OkS z := by
        simp only [List.mem_cons, List.not_mem_nil, or_false] at hv
        rcases hv with h | h
        · exact ⟨_, h, by rw [app_len, app_len]; omega, okS_app (okS_app (okS_cut hzo) hco) (okS_cut hzo)⟩
        · exact ⟨_, h, by rw [app_len, app_len]; omega, okS_app (okS_app (okS_cut hzo) hco) (okS_cut hzo)⟩
      obtain ⟨z2, rfl, hz2, hz2o⟩ := hv'
      refine ix_l (e14 _ _ np13 h13) ev ?_
      exact str_end (a := a) hz2 hz2o B14 ((((eA.trans e11).trans e12).ex e13).trans e14) (by omega) hm k
    · exact str_end (a := a) (by omega) hzo B10 eA (by omega) hm k
section
variable {P : Program} {w : World} {K : PySem.W.Frag} {mg : Str → Option Value} {base : Heap} {a : Ad}
theorem ok__law_string (T : Txt K mg a) : FnOk P w K mg base CX0 2 a.f__law_string a.d__law_string ["_law_box_here"] spString := by
  have G__law_take : FnOk P w K mg base CX0 1 a.f__law_take a.d__law_take ["_law_box_here", "_law_many"] spTake := ok__law_take T
  refine T.F__law_string.ok sc__law_string (fun vs H Q E h => ?_) (fun cdv A outer s H vs Q E hr h => ⟨t__law_string K a, ?_, rd__law_string h⟩)
  · obtain ⟨b, m, rfl, _⟩ := h
    rfl
  exact (pss_cons (ps_set (i := 1) sc__law_string.nd rfl (Or.inr rfl) pe_str)
      (pss_cons (ps_set (i := 2) sc__law_string.nd rfl (Or.inl rfl) (pe_lstG (pa_cons pe_str (pa_cons pe_str (pa_cons pe_str (pa_cons pe_str (pa_cons pe_str (pa_cons pe_str (pa_cons pe_str (pa_cons pe_str (pa_cons pe_str (pa_cons pe_str (pa_cons pe_str (pa_cons pe_str (pa_cons pe_str (pa_cons pe_str pa_nil))))))))))))))))
      (pss_cons (ps_set (i := 2) sc__law_string.nd rfl (Or.inl rfl) (pe_op op_addU (pv 2) (pe_lstG (pa_cons pe_str (pa_cons pe_str pa_nil)))))
      (pss_cons (ps_set (i := 3) sc__law_string.nd rfl (Or.inl rfl) (pe_m1 PySem.F.slot_str_join PySem.F.type_str_join mt_joinU pe_str (pe_lc (own := [("_law_k", 6)]) (g := (gName 6)) (tt := tYes) rfl sc__law_string.nd (pi_range1 (by rfl) T.b_range (pa_cons (pe_call G__law_take (hr.mono (by decide)) (by rfl) T.g__law_take T.F__law_take.kp T.bi__law_take .nil pass0 (pa_cons (pv 0) (pa_cons pe_int pa_nil))) pa_nil)) (blkOk_by (N := N__law_string) (sc := defScope s__law_string) (by decide +kernel)) (fun _ _ _ _ _ => (pg_name (i := 6) sc__law_string.nd rfl (Or.inl rfl))) (fun _ _ _ _ _ => pts_nil) (fun _ _ _ _ _ => (pe_ix ix_seq (pv 1) (pe_call G__law_take (hr.mono (by decide)) (by rfl) T.g__law_take T.F__law_take.kp T.bi__law_take .nil pass0 (pa_cons (pv 0) (pa_cons pe_int pa_nil))) (fun _ _ => rfl))))))
      (pss_cons (ps_set (i := 3) sc__law_string.nd rfl (Or.inl rfl) (pe_ix ix_seq (pe_lstG (pa_cons (pv 3) (pa_cons (pv 3) (pa_cons (pe_ix ix_seq (pv 2) (pe_call G__law_take (hr.mono (by decide)) (by rfl) T.g__law_take T.F__law_take.kp T.bi__law_take .nil pass0 (pa_cons (pv 0) (pa_cons pe_int pa_nil))) (fun _ _ => rfl)) pa_nil)))) (pe_call G__law_take (hr.mono (by decide)) (by rfl) T.g__law_take T.F__law_take.kp T.bi__law_take .nil pass0 (pa_cons (pv 0) (pa_cons pe_int pa_nil))) (fun _ _ => rfl)))
      (pss_cons (ps_if (pt_cmpR (op_eqU hr.units) (pe_call G__law_take (hr.mono (by decide)) (by rfl) T.g__law_take T.F__law_take.kp T.bi__law_take .nil pass0 (pa_cons (pv 0) (pa_cons pe_int pa_nil))) pe_int (nomark _)) (pss_cons (ps_set (i := 4) sc__law_string.nd rfl (Or.inl rfl) (pe_call G__law_take (hr.mono (by decide)) (by rfl) T.g__law_take T.F__law_take.kp T.bi__law_take .nil pass0 (pa_cons (pv 0) (pa_cons (pe_op op_addU (pe_callB call_lenU (by rfl) T.b_len (by decide +kernel) (pa_cons (pv 3) pa_nil)) pe_int) pa_nil))))
      (pss_cons (ps_set (i := 5) sc__law_string.nd rfl (Or.inl rfl) (pe_ix ix_seq pe_str (pe_call G__law_take (hr.mono (by decide)) (by rfl) T.g__law_take T.F__law_take.kp T.bi__law_take .nil pass0 (pa_cons (pv 0) (pa_cons pe_int pa_nil))) (fun _ _ => rfl)))
      (pss_one (ps_set (i := 3) sc__law_string.nd rfl (Or.inl rfl) (pe_ix ix_seq (pe_lstG (pa_cons (pe_op op_addU (pe_op op_addU (pe_slice sl_U (pv 3) po_none (po_some (pv 4))) (pv 5)) (pe_slice sl_U (pv 3) (po_some (pe_op op_addU (pv 4) pe_int)) po_none)) (pa_cons (pe_op op_addU (pe_op op_addU (pe_slice sl_U (pv 3) po_none (po_some (pv 4))) (pv 5)) (pe_slice sl_U (pv 3) (po_some (pv 4)) po_none)) pa_nil))) (pe_call G__law_take (hr.mono (by decide)) (by rfl) T.g__law_take T.F__law_take.kp T.bi__law_take .nil pass0 (pa_cons (pv 0) (pa_cons pe_int pa_nil))) (fun _ _ => rfl)))))) pss_nil)
      (pss_one (ps_ret (pe_op op_addU (pe_ix ix_seq (pe_lstG (pa_cons pe_str (pa_cons pe_str (pa_cons pe_str (pa_cons pe_str (pa_cons pe_str (pa_cons pe_str pa_nil))))))) (pe_call G__law_take (hr.mono (by decide)) (by rfl) T.g__law_take T.F__law_take.kp T.bi__law_take .nil pass0 (pa_cons (pv 0) (pa_cons pe_int pa_nil))) (fun _ _ => rfl)) (pv 3))))))))))
end
end K01

set_option Elab.async false
set_option linter.all false
set_option maxRecDepth 100000
set_option maxHeartbeats 4000000
namespace K01
open PySem PySem.Spec PyProof.Rows L2 CN Evl
/-! ### the mathematics -/
def own5 : List V := [V.str "let", V.str "in", V.str "each", V.str "of", V.str "want"]
def letB (c : Nat) : Bool := decide (c ∈ lets.cps.toList)
def azB (c : Nat) : Bool := (!decide (([c] : List Nat) < ("a" : Str).cps.toList)) && (!decide (("z" : Str).cps.toList < ([c] : List Nat)))
theorem lets_list : lets.cps.toList = List.range' 97 26 := by decide +kernel
theorem a_list : ("a" : Str).cps.toList = [97] := by decide +kernel
theorem z_list : ("z" : Str).cps.toList = [122] := by decide +kernel
theorem one_lt (a b : Nat) : (([a] : List Nat) < [b]) ↔ a < b := by
  constructor
  · intro h
    rcases List.cons_lt_cons_iff.mp h with h | ⟨_, h⟩
    · exact h
    · exact absurd h (List.lt_irrefl _)
  · intro h
    exact List.cons_lt_cons_iff.mpr (.inl h)
theorem let_az (c : Nat) : letB c = azB c := by
  unfold letB azB
  rw [lets_list, a_list, z_list, Bool.eq_iff_iff]
  simp only [decide_eq_true_eq, Bool.and_eq_true, Bool.not_eq_true', decide_eq_false_iff_not, one_lt, List.mem_range'_1]
  omega
/-- as the program reckons it -/
def isNm (z : Str) : Bool := decide (1 ≤ z.length) && decide (z.length ≤ 6) && !inV (.str z) own5 && z.cps.toList.all letB
/-- as the law reckons it -/
def lawNm (z : Str) : Bool := (z.cps.toList.filter fun c => !azB c).isEmpty && (decide (0 < z.length) && decide (z.length < 7)) && !inV (.str z) own5
theorem nm_eq (z : Str) : lawNm z = isNm z := by
  unfold lawNm isNm
  have e1 : (z.cps.toList.filter fun c => !azB c).isEmpty = z.cps.toList.all letB := by
    rw [Bool.eq_iff_iff, List.isEmpty_iff, List.filter_eq_nil_iff, List.all_eq_true]
    constructor
    · intro h c hc
      have := h c hc
      rw [let_az]
      simpa using this
    · intro h c hc
      have := h c hc
      rw [let_az] at this
      simp [this]
  rw [e1]
  have e2 : (decide (0 < z.length)) = decide (1 ≤ z.length) := rfl
  have e3 : (decide (z.length < 7)) = decide (z.length ≤ 6) := by
    rw [decide_eq_decide]
    omega
  rw [e2, e3]
  cases z.cps.toList.all letB <;> cases decide (1 ≤ z.length) <;> cases decide (z.length ≤ 6) <;> cases inV (V.str z) own5 <;> rfl
/-- a parameter -/
def isPm (z : Str) : Bool := inV (.str (cutS z none (some 1))) [V.str "?", V.str "$"] && isNm (cutS z (some 1) none)

/-! ### what is asked of a thing of another kind -/
def NotI (K : PySem.W.Frag) (H : Hp) (v : V) (n : String) : Prop := ∀ (H' : Hp) (Q : VK), Ex H H' → Q (.bl false) H' → rIsiU K [v, .ty n] H' Q
theorem isi_ty {K : PySem.W.Frag} {H : Hp} {Q : VK} {v : V} {m n : String} {b : Bool} (ty : TyX K H v (.type m)) (h : kitB m n = some b) (q : Q (.bl b) H) : rIsiU K [v, .ty n] H Q := .inl ⟨v, .ty n, .type m, .type n, b, rfl, .ty n, ty, kit_ty h, q⟩
theorem ty_int {K : PySem.W.Frag} {H : Hp} {i : Int} : TyX K H (.int i) (.type "int") := .base (.int i)
theorem ty_bl {K : PySem.W.Frag} {H : Hp} {b : Bool} : TyX K H (.bl b) (.type "bool") := .base (.bl b)
theorem ty_str {K : PySem.W.Frag} {H : Hp} {z : Str} : TyX K H (.str z) (.type "str") := .base (.str z)
theorem not_of {K : PySem.W.Frag} {H : Hp} {v : V} {m n : String} (ty : ∀ H', Ex H H' → TyX K H' v (.type m)) (h : kitB m n = some false) : NotI K H v n := fun H' Q e q => isi_ty (ty H' e) h q
theorem NotI.ex {K : PySem.W.Frag} {H H1 : Hp} {v : V} {n : String} (h : NotI K H v n) (e : Ex H H1) : NotI K H1 v n := fun H' Q e' q => h H' Q (e.trans e') q
theorem not_non {K : PySem.W.Frag} {H : Hp} {n : String} (h : kitB "NoneType" n = some false) : NotI K H .non n := not_of (fun _ _ => .base .non) h
theorem not_str {K : PySem.W.Frag} {H : Hp} {z : Str} {n : String} (h : kitB "str" n = some false) : NotI K H (.str z) n := not_of (fun _ _ => ty_str) h
theorem not_int {K : PySem.W.Frag} {H : Hp} {i : Int} {n : String} (h : kitB "int" n = some false) : NotI K H (.int i) n := not_of (fun _ _ => ty_int) h
theorem not_bl {K : PySem.W.Frag} {H : Hp} {b : Bool} {n : String} (h : kitB "bool" n = some false) : NotI K H (.bl b) n := not_of (fun _ _ => ty_bl) h
theorem not_lst {K : PySem.W.Frag} {H : Hp} {p : Addr} {xs : List V} {n : String} (hp : H p = some (.lst xs)) (h : kitB "list" n = some false) : NotI K H (.ref p) n := not_of (fun _ e => .base (.lst (e _ _ hp))) h
theorem not_tup {K : PySem.W.Frag} {H : Hp} {p : Addr} {xs : List V} {n : String} (hp : H p = some (.tup xs)) (h : kitB "tuple" n = some false) : NotI K H (.ref p) n := not_of (fun _ e => .base (.tup (e _ _ hp))) h
theorem not_dct {K : PySem.W.Frag} {H : Hp} {p : Addr} {xs : List (Key × V)} {n : String} (hp : H p = some (.dK xs)) (h : kitB "dict" n = some false) : NotI K H (.ref p) n := not_of (fun _ e => .base (.dK (e _ _ hp))) h

/-! ### promises -/
def sp_is_integer (K : PySem.W.Frag) : Sp := fun vs H Q _ => ∃ (v : V) (lo hi : Int) (r : Bool), vs = [v, .int lo, .int hi] ∧
  ((∃ i, v = .int i ∧ r = (decide (lo ≤ i) && decide (i ≤ hi))) ∨ (∃ b, v = .bl b ∧ r = false) ∨ (NotI K H v "int" ∧ r = false)) ∧ Q (.bl r) H
def sp_is_name (K : PySem.W.Frag) : Sp := fun vs H Q _ => ∃ (v : V) (r : Bool), vs = [v] ∧ ((∃ z : Str, v = .str z ∧ z.length ≤ 100000 ∧ r = isNm z) ∨ (NotI K H v "str" ∧ r = false)) ∧ ∀ H', Ex H H' → Q (.bl r) H'
def sp_is_parameter (K : PySem.W.Frag) : Sp := fun vs H Q _ => ∃ (v : V) (r : Bool), vs = [v] ∧ ((∃ z : Str, v = .str z ∧ z.length ≤ 100000 ∧ r = isPm z) ∨ (NotI K H v "str" ∧ r = false)) ∧ ∀ H', Ex H H' → Q (.bl r) H'
def sp__law_is_name (K : PySem.W.Frag) : Sp := fun vs H Q _ => ∃ z : Str, vs = [.str z] ∧ z.length ≤ 100000 ∧ OkS z ∧ ∀ H', Ex H H' → Q (.bl (isNm z)) H'
def sp__law_is (K : PySem.W.Frag) : Sp := fun vs H Q _ => ∃ b c : Bool, vs = [.bl b, .bl c] ∧ Q (.bl (b == c)) H
def t_is_integer (K : PySem.W.Frag) (a : Ad) : TS :=
  (tRet (tAndV (tCB (rIsiU K) (tCons (tVar 0) (tCons (tC (.ty "int")) tNil))) (tAndV (tNotV (tCB (rIsiU K) (tCons (tVar 0) (tCons (tC (.ty "bool")) tNil)))) (tChain rLeU rLeU (tVar 1) (tVar 0) (tVar 2)))))
def t_is_name (K : PySem.W.Frag) (a : Ad) : TS :=
  (tSeq (tIfS (tOr (tNot (tB (tCB (rIsiU K) (tCons (tVar 0) (tCons (tC (.ty "str")) tNil))))) (tNot (tTest (tChain rLeU rLeU (tC (.int 1)) (tCB (rLenU K) (tCons (tVar 0) tNil)) (tC (.int 6)))))) (tRet (tC (.bl false))) tNext)
  (tRet (tAndV (tOp (rNotInU K) (tVar 0) (tC (.ref a.c_OWN_WORDS))) (tCB (rAll K) (tCons (tLc (iStr (tVar 0)) (gName 1) tYes (tOp (rInU K) (tVar 1) (tC (.str "abcdefghijklmnopqrstuvwxyz"))) [1]) tNil)))))
def t_is_parameter (K : PySem.W.Frag) (a : Ad) : TS :=
  (tRet (tAndV (tCB (rIsiU K) (tCons (tVar 0) (tCons (tC (.ty "str")) tNil))) (tAndV (tOp (rInU K) (tSl (rSlU K) (tVar 0) tNoPart (tPart (tC (.int 1)))) (tTupG (tCons (tC (.str "?")) (tCons (tC (.str "$")) tNil)))) (tCall (sp_is_name K) [] E0 (tCons (tSl (rSlU K) (tVar 0) (tPart (tC (.int 1))) tNoPart) tNil)))))
def t__law_is_name (K : PySem.W.Frag) (a : Ad) : TS :=
  (tSeq (tIfS (tOr (tTest (tOp (rNeU K) (tLc (iStr (tVar 0)) (gName 1) (tNot (tTest (tChain rLeU rLeU (tC (.str "a")) (tVar 1) (tC (.str "z"))))) (tVar 1) [1]) (tLstG tNil))) (tNot (tTest (tChain rLtU rLtU (tC (.int 0)) (tCB (rLenU K) (tCons (tVar 0) tNil)) (tC (.int 7)))))) (tRet (tC (.bl false))) tNext)
  (tRet (tOp (rNotInU K) (tVar 0) (tTupG (tCons (tC (.str "let")) (tCons (tC (.str "in")) (tCons (tC (.str "each")) (tCons (tC (.str "of")) (tCons (tC (.str "want")) tNil)))))))))
def t__law_is (K : PySem.W.Frag) (a : Ad) : TS :=
  (tRet (tAndV (tCB (rIsiU K) (tCons (tVar 0) (tCons (tC (.ty "bool")) tNil))) (tOp (rEqU K) (tVar 0) (tVar 1))))
theorem rd_is_integer {K : PySem.W.Frag} {a : Ad} {vs : List V} {H : Hp} {Q : VK} {E : XK} (h : sp_is_integer K vs H Q E) :
    t_is_integer K a { nx := fun _ H' => Q .non H', rt := Q } (L2.start N_is_integer vs) H := by
  obtain ⟨v, lo, hi, r, rfl, h, q⟩ := h
  refine ⟨_, rfl, ?_⟩
  rcases h with ⟨i, rfl, rfl⟩ | ⟨b, rfl, rfl⟩ | ⟨h, rfl⟩
  · refine isi_ty (b := true) ty_int (by decide +kernel) ⟨_, rfl, iteT ?_⟩
    refine ⟨_, rfl, isi_ty (b := false) ty_int (by decide +kernel) ⟨_, rfl, _, rfl, iteT ?_⟩⟩
    refine ⟨_, rfl, _, rfl, _, rfl, ?_⟩
    refine ite2 (fun hc => ?_) (fun hc => ?_)
    · rw [hc, Bool.true_and] at q
      exact ⟨_, rfl, q⟩
    · rw [Bool.eq_false_iff.mpr hc, Bool.false_and] at q
      exact q
  · refine isi_ty (b := true) ty_bl (by decide +kernel) ⟨_, rfl, iteT ?_⟩
    exact ⟨_, rfl, isi_ty (b := true) ty_bl (by decide +kernel) ⟨_, rfl, _, rfl, iteF q⟩⟩
  · exact h H _ (Ex.refl H) ⟨_, rfl, iteF q⟩
theorem rd__law_is {K : PySem.W.Frag} {a : Ad} {vs : List V} {H : Hp} {Q : VK} {E : XK} (h : sp__law_is K vs H Q E) :
    t__law_is K a { nx := fun _ H' => Q .non H', rt := Q } (L2.start N__law_is vs) H := by
  obtain ⟨b, c, rfl, q⟩ := h
  refine ⟨_, rfl, isi_ty (b := true) ty_bl (by decide +kernel) ⟨_, rfl, iteT ?_⟩⟩
  refine ⟨_, rfl, _, rfl, .inl ⟨rfl, ?_⟩⟩
  rw [dec_bl]
  exact q
theorem rd_is_name {K : PySem.W.Frag} {mg : Str → Option Value} {a : Ad} (T : Txt K mg a) {vs : List V} {H : Hp} {Q : VK} {E : XK} (h : sp_is_name K vs H Q E) :
    t_is_name K a { nx := fun _ H' => Q .non H', rt := Q } (L2.start N_is_name vs) H := by
  obtain ⟨v, r, rfl, h, q⟩ := h
  refine ⟨_, rfl, ?_⟩
  rcases h with ⟨z, rfl, hz, rfl⟩ | ⟨h, rfl⟩
  · have e0 : z.length ≤ sizeLine := line_ge (by omega)
    refine isi_ty (b := true) ty_str (by decide +kernel) ⟨_, rfl, iteF ?_⟩
    refine ⟨_, rfl, e0, _, rfl, ?_⟩
    refine ite2 (fun hc => ?_) (fun hc => ?_)
    · have h1 : 1 ≤ z.length := by
        have := of_decide_eq_true hc
        omega
      refine ⟨_, rfl, ?_⟩
      refine ite2 (fun hd => ?_) (fun hd => ?_)
      · have h2 : ¬ z.length ≤ 6 := by
          intro h3
          rw [decide_eq_true (show ((z.length : Int)) ≤ 6 by omega)] at hd
          cases hd
        have e1 : isNm z = false := by
          unfold isNm
          rw [decide_eq_false h2, Bool.and_false, Bool.false_and, Bool.false_and]
        rw [e1] at q
        exact q H (Ex.refl H)
      · have h2 : z.length ≤ 6 := by
          apply Decidable.byContradiction
          intro h3
          rw [decide_eq_false (show ¬ ((z.length : Int)) ≤ 6 by omega)] at hd
          exact hd rfl
        refine ⟨_, rfl, a.c_OWN_WORDS, own5, rfl, .inr (T.k_OWN_WORDS H), rfl, (by decide +kernel), _, rfl, ?_⟩
        have eN : isNm z = ((!inV (.str z) own5) && z.cps.toList.all letB) := by
          unfold isNm
          rw [decide_eq_true h1, decide_eq_true h2, Bool.true_and, Bool.true_and]
        rw [eN] at q
        show if (!inV (V.str z) own5) = true then _ else _
        refine ite2 (fun hi => ?_) (fun hi => ?_)
        · rw [hi, Bool.true_and] at q
          refine ⟨_, rfl, z, rfl, fun p n1 => lcSD (fun _ => true) (fun c => V.bl (letB c)) (by omega) n1 (fun _ => rfl) (fun c H1 R e1 k => k H1 (Ex.refl H1)) (fun c H1 R e1 _ k => ?_) (fun H1 e1 h1 => ?_)⟩
          · exact ⟨_, rfl, c, rfl, k H1 (Ex.refl H1)⟩
          · refine ⟨p, z.cps.toList.map letB, rfl, SqL.of (by rw [h1, List.filter_eq_self.mpr (fun _ _ => rfl), List.map_map]; rfl), ?_⟩
            have e2 : (z.cps.toList.map letB).all id = z.cps.toList.all letB := by
              rw [List.all_map]
              rfl
            show Q (.bl ((z.cps.toList.map letB).all id)) H1
            rw [e2]
            exact q H1 e1
        · rw [Bool.eq_false_iff.mpr hi, Bool.false_and] at q
          exact q H (Ex.refl H)
    · have h1 : ¬ 1 ≤ z.length := by
        intro h3
        exact hc (decide_eq_true (show (1 : Int) ≤ (z.length : Int) by omega))
      have e1 : isNm z = false := by
        unfold isNm
        rw [decide_eq_false h1, Bool.false_and, Bool.false_and, Bool.false_and]
      rw [e1] at q
      exact ⟨_, rfl, q H (Ex.refl H)⟩
  · exact h H _ (Ex.refl H) ⟨_, rfl, iteT (q H (Ex.refl H))⟩
theorem rd_is_parameter {K : PySem.W.Frag} {a : Ad} {vs : List V} {H : Hp} {Q : VK} {E : XK} (h : sp_is_parameter K vs H Q E) :
    t_is_parameter K a { nx := fun _ H' => Q .non H', rt := Q } (L2.start N_is_parameter vs) H := by
  obtain ⟨v, r, rfl, h, q⟩ := h
  refine ⟨_, rfl, ?_⟩
  rcases h with ⟨z, rfl, hz, rfl⟩ | ⟨h, rfl⟩
  · have e0 : z.length ≤ sizeLine := line_ge (by omega)
    refine isi_ty (b := true) ty_str (by decide +kernel) ⟨_, rfl, iteT ?_⟩
    refine ⟨_, rfl, _, rfl, e0, (by show 2 ≤ sizeLine; decide), fun p H1 n1 e1 h1 => ?_⟩
    refine ⟨p, _, rfl, .inr (SqT.of h1), rfl, rfl, _, rfl, ?_⟩
    show if inV (V.str (cutS z none (some 1))) [V.str "?", V.str "$"] = true then _ else _
    unfold isPm at q
    refine ite2 (fun hi => ?_) (fun hi => ?_)
    · rw [hi, Bool.true_and] at q
      refine ⟨_, rfl, _, rfl, e0, _, _, rfl, .inl ⟨_, rfl, Nat.le_trans (cutS_le _ _ _) hz, rfl⟩, fun H2 e2 => q H2 (e1.trans e2)⟩
    · rw [Bool.eq_false_iff.mpr hi, Bool.false_and] at q
      exact q H1 e1
  · exact h H _ (Ex.refl H) ⟨_, rfl, iteF (q H (Ex.refl H))⟩
theorem eqv_nil {l : List PyData} : PyData.eqv (.list l) (.list []) = l.isEmpty := by
  cases l <;> rfl
theorem rd__law_is_name {K : PySem.W.Frag} {a : Ad} {vs : List V} {H : Hp} {Q : VK} {E : XK} (h : sp__law_is_name K vs H Q E) :
    t__law_is_name K a { nx := fun _ H' => Q .non H', rt := Q } (L2.start N__law_is_name vs) H := by
  obtain ⟨z, rfl, hz, hok, q⟩ := h
  have e0 : z.length ≤ sizeLine := line_ge (by omega)
  rw [← nm_eq] at q
  unfold lawNm at q
  refine ⟨_, rfl, z, rfl, fun p n1 => lcSD (fun c => !azB c) (fun c => V.str ⟨#[c]⟩) (by omega) n1 (fun _ => rfl) (fun c H1 R e1 k => ?_) (fun c H1 R e1 _ k => ⟨_, rfl, k H1 (Ex.refl H1)⟩) (fun H1 e1 h1 => ?_)⟩
  · refine ⟨_, rfl, _, rfl, ?_⟩
    have k' := k H1 (Ex.refl H1)
    unfold azB at k'
    refine ite2 (fun hc => ?_) (fun hc => ?_)
    · refine ⟨_, rfl, ?_⟩
      have hc' : (!decide (([c] : List Nat) < ("a" : Str).cps.toList)) = true := hc
      rw [hc', Bool.true_and] at k'
      exact k'
    · have hc' : (!decide (([c] : List Nat) < ("a" : Str).cps.toList)) = false := Bool.eq_false_iff.mpr hc
      rw [hc', Bool.false_and] at k'
      exact ⟨_, rfl, k'⟩
  · refine ⟨(by show 0 ≤ sizeLine; decide), fun p2 H2 n2 e2 h2 => ?_⟩
    have hm : (z.cps.toList.filter fun c => !azB c).map (fun c => V.str ⟨#[c]⟩) = ((z.cps.toList.filter fun c => !azB c).map fun c => (⟨#[c]⟩ : Str)).map V.str := by
      rw [List.map_map]
      rfl
    rw [hm] at h1
    generalize hys : ((z.cps.toList.filter fun c => !azB c).map fun c => (⟨#[c]⟩ : Str)) = ys at h1
    have hyo : ∀ y ∈ ys, OkS y := by
      intro y hy
      rw [← hys] at hy
      obtain ⟨c, hc, rfl⟩ := List.mem_map.mp hy
      exact okS_one (hok c ((List.mem_filter.mp hc).1))
    have hye : ys.isEmpty = (z.cps.toList.filter fun c => !azB c).isEmpty := by
      rw [← hys, List.isEmpty_map]
    have hs : SeqAt.shaped (.list (ys.map PyData.str)) = true := by
      unfold SeqAt.shaped
      rw [Bool.and_eq_true]
      refine ⟨canLay_strs ys hyo, decide_eq_true ?_⟩
      have := depth_strs ys
      show PyData.depthAll (ys.map PyData.str) + 1 ≤ 64
      omega
    refine .inr ⟨.list (ys.map PyData.str), .list [], .lst (SqL.of (e2 _ _ h1)) (dpAll_str ys), .lst (SqL.of h2) .nil, hs, (by decide +kernel), _, rfl, ?_⟩
    rw [eqv_nil, List.isEmpty_map, hye]
    have e12 := e1.trans e2
    cases hE : (z.cps.toList.filter fun c => !azB c).isEmpty with
    | false =>
      rw [hE, Bool.false_and, Bool.false_and] at q
      exact q H2 e12
    | true =>
      rw [hE, Bool.true_and] at q
      refine ⟨_, rfl, e0, _, rfl, ?_⟩
      refine ite2 (fun hc => ?_) (fun hc => ?_)
      · have h3 : 0 < z.length := by
          have := of_decide_eq_true hc
          omega
        refine ⟨_, rfl, ?_⟩
        refine ite2 (fun hd => ?_) (fun hd => ?_)
        · have h4 : ¬ z.length < 7 := by
            intro h5
            rw [decide_eq_true (show ((z.length : Int)) < 7 by omega)] at hd
            cases hd
          rw [decide_eq_false h4, Bool.and_false, Bool.false_and] at q
          exact q H2 e12
        · have h4 : z.length < 7 := by
            apply Decidable.byContradiction
            intro h5
            rw [decide_eq_false (show ¬ ((z.length : Int)) < 7 by omega)] at hd
            exact hd rfl
          rw [decide_eq_true h3, decide_eq_true h4, Bool.true_and, Bool.true_and] at q
          refine ⟨_, rfl, (by show 5 ≤ sizeLine; decide), fun p3 H3 n3 e3 h3 => ?_⟩
          exact ⟨p3, own5, rfl, .inr (SqT.of h3), rfl, (by decide +kernel), q H3 (e12.trans e3)⟩
      · have h3 : ¬ 0 < z.length := by
          intro h4
          exact hc (decide_eq_true (show (0 : Int) < (z.length : Int) by omega))
        rw [decide_eq_false h3, Bool.false_and, Bool.false_and] at q
        exact ⟨_, rfl, q H2 e12⟩
section
variable {P : Program} {w : World} {K : PySem.W.Frag} {mg : Str → Option Value} {base : Heap} {a : Ad}
theorem ok_is_integer (T : Txt K mg a) : FnOk P w K mg base CX0 1 a.f_is_integer a.d_is_integer ["value", "low", "high"] (sp_is_integer K) := by
  refine T.F_is_integer.ok sc_is_integer (fun vs H Q E h => ?_) (fun cdv A outer s H vs Q E hr h => ⟨t_is_integer K a, ?_, rd_is_integer h⟩)
  · obtain ⟨_, _, _, _, rfl, _⟩ := h
    rfl
  exact (pss_one (ps_ret (pe_and (pe_callB call_isiU (by rfl) T.b_isinstance (by decide +kernel) (pa_cons (pv 0) (pa_cons (pe_bltn (by rfl) T.b_int (by decide +kernel) rfl) pa_nil))) (pe_and (pe_not (pe_callB call_isiU (by rfl) T.b_isinstance (by decide +kernel) (pa_cons (pv 0) (pa_cons (pe_bltn (by rfl) T.b_bool (by decide +kernel) rfl) pa_nil)))) (pe_one (pe_chain op_leU op_leU (pv 1) (pv 0) (pv 2)))))))
theorem ok_is_name (T : Txt K mg a) : FnOk P w K mg base CX0 1 a.f_is_name a.d_is_name ["value"] (sp_is_name K) := by
  refine T.F_is_name.ok sc_is_name (fun vs H Q E h => ?_) (fun cdv A outer s H vs Q E hr h => ⟨t_is_name K a, ?_, rd_is_name T h⟩)
  · obtain ⟨_, _, rfl, _⟩ := h
    rfl
  exact (pss_cons (ps_if (PW.pt (pw_or (pt_not (pt_val (pe_callB call_isiU (by rfl) T.b_isinstance (by decide +kernel) (pa_cons (pv 0) (pa_cons (pe_bltn (by rfl) T.b_str (by decide +kernel) rfl) pa_nil))))) (pw_or1 (pt_not (pt_chain op_leU op_leU pe_int (pe_callB call_lenU (by rfl) T.b_len (by decide +kernel) (pa_cons (pv 0) pa_nil)) (pe_glob (by rfl) T.g_MOST_LETTERS ⟨_, rfl⟩)))))) (pss_one (ps_ret pe_bl)) pss_nil)
      (pss_one (ps_ret (pe_and (pe_cmpR op_notInU (pv 0) (pe_glob (by rfl) T.g_OWN_WORDS rfl) (by rfl)) (pe_one (pe_callB (call_allU rfl) (by rfl) T.b_all (by decide +kernel) (pa_cons (pe_lc (own := [("letter", 1)]) (g := (gName 1)) (tt := tYes) rfl sc_is_name.nd (pi_str (pv 0)) (blkOk_by (N := N_is_name) (sc := defScope s_is_name) (by decide +kernel)) (fun _ _ _ _ _ => (pg_name (i := 1) sc_is_name.nd rfl (Or.inl rfl))) (fun _ _ _ _ _ => pts_nil) (fun _ _ _ _ _ => (pe_cmpR op_inU (pv 1) (pe_glob (by rfl) T.g_LETTERS ⟨_, rfl⟩) (by rfl)))) pa_nil)))))))
theorem ok_is_parameter (T : Txt K mg a) : FnOk P w K mg base CX0 2 a.f_is_parameter a.d_is_parameter ["value"] (sp_is_parameter K) := by
  have G_is_name : FnOk P w K mg base CX0 1 a.f_is_name a.d_is_name ["value"] (sp_is_name K) := ok_is_name T
  refine T.F_is_parameter.ok sc_is_parameter (fun vs H Q E h => ?_) (fun cdv A outer s H vs Q E hr h => ⟨t_is_parameter K a, ?_, rd_is_parameter h⟩)
  · obtain ⟨_, _, rfl, _⟩ := h
    rfl
  exact (pss_one (ps_ret (pe_and (pe_callB call_isiU (by rfl) T.b_isinstance (by decide +kernel) (pa_cons (pv 0) (pa_cons (pe_bltn (by rfl) T.b_str (by decide +kernel) rfl) pa_nil))) (pe_and (pe_cmpR op_inU (pe_slice sl_U (pv 0) po_none (po_some pe_int)) (pe_tupG (pa_cons pe_str (pa_cons pe_str pa_nil))) (by rfl)) (pe_one (pe_call G_is_name (hr.mono (by decide)) (by rfl) T.g_is_name T.F_is_name.kp T.bi_is_name .nil pass0 (pa_cons (pe_slice sl_U (pv 0) (po_some pe_int) po_none) pa_nil)))))))
theorem ok__law_is_name (T : Txt K mg a) : FnOk P w K mg base CX0 1 a.f__law_is_name a.d__law_is_name ["_law_text"] (sp__law_is_name K) := by
  refine T.F__law_is_name.ok sc__law_is_name (fun vs H Q E h => ?_) (fun cdv A outer s H vs Q E hr h => ⟨t__law_is_name K a, ?_, rd__law_is_name h⟩)
  · obtain ⟨_, rfl, _⟩ := h
    rfl
  exact (pss_cons (ps_if (PW.pt (pw_or (pt_cmpR (op_neU hr.units) (pe_lc (own := [("_law_sign", 1)]) (g := (gName 1)) (tt := (tNot (tTest (tChain rLeU rLeU (tC (.str "a")) (tVar 1) (tC (.str "z")))))) rfl sc__law_is_name.nd (pi_str (pv 0)) (blkOk_by (N := N__law_is_name) (sc := defScope s__law_is_name) (by decide +kernel)) (fun _ _ _ _ _ => (pg_name (i := 1) sc__law_is_name.nd rfl (Or.inl rfl))) (fun _ _ _ _ _ => (pts_one (pt_not (pt_chain op_leU op_leU pe_str (pv 1) pe_str)))) (fun _ _ _ _ _ => (pv 1))) (pe_lstG pa_nil) (nomark _)) (pw_or1 (pt_not (pt_chain op_ltU op_ltU pe_int (pe_callB call_lenU (by rfl) T.b_len (by decide +kernel) (pa_cons (pv 0) pa_nil)) pe_int))))) (pss_one (ps_ret pe_bl)) pss_nil)
      (pss_one (ps_ret (pe_cmpR op_notInU (pv 0) (pe_tupG (pa_cons pe_str (pa_cons pe_str (pa_cons pe_str (pa_cons pe_str (pa_cons pe_str pa_nil)))))) (by rfl)))))
theorem ok__law_is (T : Txt K mg a) : FnOk P w K mg base CX0 1 a.f__law_is a.d__law_is ["_law_found", "_law_due"] (sp__law_is K) := by
  refine T.F__law_is.ok sc__law_is (fun vs H Q E h => ?_) (fun cdv A outer s H vs Q E hr h => ⟨t__law_is K a, ?_, rd__law_is h⟩)
  · obtain ⟨_, _, rfl, _⟩ := h
    rfl
  exact (pss_one (ps_ret (pe_and (pe_callB call_isiU (by rfl) T.b_isinstance (by decide +kernel) (pa_cons (pv 0) (pa_cons (pe_bltn (by rfl) T.b_bool (by decide +kernel) rfl) pa_nil))) (pe_one (pe_cmpR (op_eqU hr.units) (pv 0) (pv 1) (nomark _))))))
end
end K01

set_option Elab.async false
set_option linter.all false
set_option maxRecDepth 100000
set_option maxHeartbeats 8000000
namespace K01
open PySem PySem.Spec PyProof.Rows L2 CN Evl
abbrev sp__law_box (K : PySem.W.Frag) : Sp := spBox
abbrev sp__law_cell (K : PySem.W.Frag) : Sp := spCell K
abbrev sp__law_number (K : PySem.W.Frag) : Sp := spNumber
abbrev sp__law_string (K : PySem.W.Frag) : Sp := spString
def sp_law (K : PySem.W.Frag) : Sp := fun vs H Q _ => ∃ (a : Addr) (ns : List Int), vs = [.ref a] ∧ SqL K H a (ns.map V.int) ∧ ns.length ≤ 63 ∧ ∀ H', Q (.bl true) H'
theorem sp_law_of {K : PySem.W.Frag} {H : Hp} {a : Addr} {ns : List Int} (hl : ns.length ≤ 63) (hO : Only H) (hS : SqL K H a (ns.map V.int)) : sp_law K [.ref a] H (fun v _ => v = .bl true) fun _ _ _ => False := ⟨a, ns, rfl, hS, hl, fun _ => rfl⟩
def t_law (K : PySem.W.Frag) (a : Ad) : TS :=
  (tSeq (tFor (iRng1 (tCons (tCB rMaxI (tCons (tC (.int 1)) (tCons (tCB rMinI (tCons (tC (.int 30)) (tCons (tCB (rLenU K) (tCons (tVar 0) tNil)) tNil))) tNil))) tNil)) (gName 1) (tSeq (tAsg (tCall (sp__law_box K) [] E0 (tCons (tCall (sp__law_cell K) [] E0 (tCons (tVar 0) (tCons (tVar 1) tNil))) tNil)) (gName 2))
  (tSeq (tAsg (tCall (sp__law_number K) [] E0 (tCons (tVar 2) tNil)) (gName 3))
  (tSeq (tAsg (tOp (rIx K) (tLstG (tCons (tOp (rAddU K) (tOp rSubI (tVar 3) (tC (.int 2))) (tCall (sp__law_take K) [] E0 (tCons (tVar 2) (tCons (tC (.int 6)) tNil)))) (tCons (tCall (sp__law_number K) [] E0 (tCons (tVar 2) tNil)) tNil))) (tCall (sp__law_take K) [] E0 (tCons (tVar 2) (tCons (tC (.int 2)) tNil)))) (gName 4))
  (tSeq (tFor (iList K (tLstG (tCons (tOp rSubI (tVar 3) (tC (.int 1))) (tCons (tVar 3) (tCons (tOp (rAddU K) (tVar 3) (tC (.int 1))) (tCons (tOp rSubI (tVar 4) (tC (.int 1))) (tCons (tVar 4) (tCons (tOp (rAddU K) (tVar 4) (tC (.int 1))) (tCons (tC (.int 0)) (tCons (tCall (sp__law_number K) [] E0 (tCons (tVar 2) tNil)) tNil)))))))))) (gName 5) (tIfS (tNot (tB (tCall (sp__law_is K) [] E0 (tCons (tCall (sp_is_integer K) [] E0 (tCons (tVar 5) (tCons (tVar 3) (tCons (tVar 4) tNil)))) (tCons (tChain rLeU rLeU (tVar 3) (tVar 5) (tVar 4)) tNil))))) (tRet (tC (.bl false))) tNext))
  (tSeq (tFor (iList K (tLstG (tCons (tC .non) (tCons (tC (.bl true)) (tCons (tC (.bl false)) (tCons (tC (.str "")) (tCons (tC (.str "0")) (tCons (tCB rStrI (tCons (tVar 3) tNil)) (tCons (tLstG (tCons (tVar 3) tNil)) (tCons (tTupG (tCons (tVar 3) tNil)) (tCons tDNewK (tCons (tDisp [((tVar 3), (tVar 3))]) tNil)))))))))))) (gName 6) (tIfS (tOr (tNot (tB (tCall (sp__law_is K) [] E0 (tCons (tCall (sp_is_integer K) [] E0 (tCons (tVar 6) (tCons (tVar 3) (tCons (tVar 4) tNil)))) (tCons (tC (.bl false)) tNil))))) (tNot (tB (tCall (sp__law_is K) [] E0 (tCons (tCall (sp_is_integer K) [] E0 (tCons (tVar 6) (tCons (tC (.int 0)) (tCons (tC (.int 1)) tNil)))) (tCons (tC (.bl false)) tNil)))))) (tRet (tC (.bl false))) tNext))
  (tSeq (tFor (iRng1 (tCons (tC (.int 4)) tNil)) (gName 7) (tSeq (tAsg (tCall (sp__law_string K) [] E0 (tCons (tVar 2) tNil)) (gName 8))
  (tSeq (tIfS (tNot (tB (tCall (sp__law_is K) [] E0 (tCons (tCall (sp_is_name K) [] E0 (tCons (tVar 8) tNil)) (tCons (tCall (sp__law_is_name K) [] E0 (tCons (tVar 8) tNil)) tNil))))) (tRet (tC (.bl false))) tNext)
  (tIfS (tNot (tB (tCall (sp__law_is K) [] E0 (tCons (tCall (sp_is_parameter K) [] E0 (tCons (tVar 8) tNil)) (tCons (tAndV (tOp (rInU K) (tSl (rSlU K) (tVar 8) tNoPart (tPart (tC (.int 1)))) (tTupG (tCons (tC (.str "?")) (tCons (tC (.str "$")) tNil)))) (tAndV (tOp (rNeU K) (tVar 8) (tC (.str ""))) (tCall (sp__law_is_name K) [] E0 (tCons (tSl (rSlU K) (tVar 8) (tPart (tC (.int 1))) tNoPart) tNil)))) tNil))))) (tRet (tC (.bl false))) tNext))))
  (tFor (iList K (tLstG (tCons (tC .non) (tCons (tC (.bl true)) (tCons (tC (.int 0)) (tCons (tVar 3) (tCons (tLstG (tCons (tC (.str "a")) tNil)) (tCons (tTupG (tCons (tC (.str "a")) tNil)) (tCons (tLstG (tCons (tC (.str "?a")) tNil)) (tCons (tDisp [((tC (.str "a")), (tC (.str "a")))]) (tCons tDNewK (tCons (tTupG (tCons (tC (.str "name")) (tCons (tC (.str "a")) tNil))) (tCons (tMkX a.c_InvalidName "value" (tCons (tC (.str "a")) tNil)) tNil))))))))))))) (gName 6) (tIfS (tOr (tNot (tB (tCall (sp__law_is K) [] E0 (tCons (tCall (sp_is_name K) [] E0 (tCons (tVar 6) tNil)) (tCons (tC (.bl false)) tNil))))) (tNot (tB (tCall (sp__law_is K) [] E0 (tCons (tCall (sp_is_parameter K) [] E0 (tCons (tVar 6) tNil)) (tCons (tC (.bl false)) tNil)))))) (tRet (tC (.bl false))) tNext)))))))))
  (tRet (tC (.bl true))))
theorem exb {b : Addr} {H0 H H' : Hp} (n : H0 b = none) (e : Ex H0 H) (f : ExBx b H H') : Ex H0 H' := fun x o h => f x o (ne_of_none h n) (e x o h)
theorem log_ok {z : Int} (h : z.natAbs ≤ 10 ^ 31) : z.natAbs.log2 < 1920 := by
  by_cases h0 : z.natAbs = 0
  · rw [h0]
    decide
  · rw [Nat.log2_lt h0]
    exact Nat.lt_of_le_of_lt h (by decide +kernel)
/-- what is no integer -/
def OddI (K : PySem.W.Frag) (H : Hp) (v : V) : Prop := (∃ b, v = .bl b) ∨ NotI K H v "int"
theorem odd_r {K : PySem.W.Frag} {H H' : Hp} {v : V} {lo hi : Int} (h : OddI K H v) (e : Ex H H') :
    (∃ i, v = .int i ∧ false = (decide (lo ≤ i) && decide (i ≤ hi))) ∨ (∃ b, v = .bl b ∧ false = false) ∨ (NotI K H' v "int" ∧ false = false) := by
  rcases h with ⟨b, rfl⟩ | h
  · exact .inr (.inl ⟨b, rfl, rfl⟩)
  · exact .inr (.inr ⟨h.ex e, rfl⟩)
theorem not_exc {K : PySem.W.Frag} {H : Hp} {x C dx : Addr} {fs : List (Str × V)} {n : String} (hx : H x = some (exo x C (some dx))) (hd : H dx = some (exd dx fs)) (T : ExcC K C) (h : PySem.W.kitOne K (.ref C) (.type n) = some false) : NotI K H (.ref x) n := fun H' Q e q =>
  .inr ⟨x, C, some dx, .ty n, .type n, false, rfl, .ty n, e _ _ hx, fun d hd' => ⟨fs, by cases hd'; exact e _ _ hd⟩, T, h, q⟩
theorem nm_ne {z : Str} (h : inV (.str (cutS z none (some 1))) [V.str "?", V.str "$"] = true) : ¬ z = (Str.ofString "") := by
  rintro rfl
  revert h
  decide +kernel
theorem rd_law {K : PySem.W.Frag} {mg : Str → Option Value} {a : Ad} (T : Txt K mg a) (hX : PySem.W.kitOne K (.ref a.c_InvalidName) (.type "str") = some false) {vs : List V} {H : Hp} {Q : VK} {E : XK} (h : sp_law K vs H Q E) :
    t_law K a { nx := fun _ H' => Q .non H', rt := Q } (L2.start N_law vs) H := by
  obtain ⟨p0, ns, rfl, hS, hlen, q⟩ := h
  refine ⟨_, rfl, .inl ⟨_, .inl hS, ?_⟩⟩
  obtain ⟨n, hn⟩ : ∃ n : Int, n = (if (if ((List.map V.int ns).length : Int) < 30 then ((List.map V.int ns).length : Int) else 30) > 1 then (if ((List.map V.int ns).length : Int) < 30 then ((List.map V.int ns).length : Int) else 30) else 1) := ⟨_, rfl⟩
  have hn1 : 1 ≤ n ∧ n ≤ 30 := by
    rw [hn]
    split <;> split at * <;> omega
  refine ⟨n, by rw [hn], by omega, by omega, ?_⟩
  refine for_range (lo := 0) (n := n.toNat) (fun i σ H' => ∃ x1 x2 x3 x4 x5 x6 x7 x8, σ = [some (.ref p0), x1, x2, x3, x4, x5, x6, x7, x8] ∧ Ex H H')
    ⟨_, _, _, _, _, _, _, _, rfl, Ex.refl H⟩ ?_ (fun σ H' _ => q H')
  rintro i σ H1 hi ⟨x1, x2, x3, x4, x5, x6, x7, x8, rfl, e1⟩
  -- the box
  refine ⟨_, rfl, _, rfl, p0, ns, i, by simp, ex_l e1 hS, by omega, fun c => ⟨c, rfl, fun b H2 n2 e2 B2 => ?_⟩⟩
  have nb : H b = none := (fresh_back e1 n2)
  have e12 := e1.trans e2
  -- low
  refine ⟨_, rfl, b, _, rfl, B2, by omega, fun low H3 z3 e3 B3 => ?_⟩
  have f3 := exb nb e12 e3
  -- high
  refine ⟨_, rfl, _, rfl, b, _, _, rfl, B3, by omega, by decide, by decide, fun d4 H4 a4 b4 e4 B4 => ?_⟩
  refine ⟨_, rfl, b, _, rfl, B4, by omega, fun hi5 H5 z5 e5 B5 => ?_⟩
  refine ⟨(by show 2 ≤ sizeLine; decide), fun p6 H6 n6 e6 h6 => ?_⟩
  have B6 := B5.ex e6
  have np6 : p6 ≠ b := B5.ne n6
  refine ⟨_, rfl, b, _, _, rfl, B6, by omega, by decide, by decide, fun d7 H7 a7 b7 e7 B7 => ?_⟩
  obtain ⟨v, ev, hv⟩ := atI_some (xs := [V.int (low - 2 + d4), V.int hi5]) (i := d7) a7 b7
  have hv' : ∃ z : Int, v = .int z := by
    simp only [List.mem_cons, List.not_mem_nil, or_false] at hv
    rcases hv with h | h
    · exact ⟨_, h⟩
    · exact ⟨_, h⟩
  obtain ⟨high, rfl⟩ := hv'
  refine ix_l (e7 _ _ np6 h6) ev ?_
  have f7 : Ex H H7 := exb nb (fun x o h => e6 x o (exb nb (exb nb f3 e4) e5 x o h)) e7
  -- the numbers
  refine ⟨_, rfl, _, rfl, _, rfl, _, rfl, _, rfl, _, rfl, _, rfl, b, _, rfl, B7, by omega, fun z8 H8 y8 e8 B8 => ?_⟩
  refine ⟨(by show 8 ≤ sizeLine; decide), fun p9 H9 n9 e9 h9 => ?_⟩
  have B9 := B8.ex e9
  have f9 : Ex H H9 := (exb nb f7 e8).trans e9
  refine ⟨p9, rfl, ⟨_, SqL.of h9⟩, ?_⟩
  refine for_list (K := K) (a := p9) (xs := [V.int (low - 1), V.int low, V.int (low + 1), V.int (high - 1), V.int high, V.int (high + 1), V.int 0, V.int z8]) (fun j σ H' => ∃ y1 y5, σ = [some (.ref p0), y1, some (.ref b), some (.int low), some (.int high), y5, x6, x7, x8] ∧ Ex H9 H')
    ⟨_, _, rfl, Ex.refl H9⟩ (fun j σ H' _ ⟨_, _, _, e⟩ => SqL.of (e _ _ h9)) ?_ ?_
  · rintro j x σ H' hj ⟨y1, y5, rfl, e⟩
    have hx : ∃ z, x = V.int z := by
      have hm := List.mem_of_getElem? hj
      simp only [List.mem_cons, List.not_mem_nil, or_false] at hm
      rcases hm with h | h | h | h | h | h | h | h <;> exact ⟨_, h⟩
    obtain ⟨z, rfl⟩ := hx
    refine ⟨_, rfl, _, rfl, _, rfl, .int z, low, high, _, rfl, .inl ⟨z, rfl, rfl⟩, ?_⟩
    refine ⟨_, rfl, _, rfl, _, rfl, ?_⟩
    refine ite2 (fun hc => ?_) (fun hc => ?_)
    · have hc' : decide (low ≤ z) = true := hc
      refine ⟨_, rfl, _, _, rfl, _, rfl, ?_⟩
      rw [hc', Bool.true_and, beq_self_eq_true]
      exact ⟨_, _, rfl, e⟩
    · have hc' : decide (low ≤ z) = false := Bool.eq_false_iff.mpr hc
      refine ⟨_, _, rfl, _, rfl, ?_⟩
      rw [hc', Bool.false_and]
      exact ⟨_, _, rfl, e⟩
  · rintro σ H10 ⟨y1, y5, rfl, e10⟩
    have B10 := B9.ex e10
    have f10 := f9.trans e10
    -- the odd ones
    refine ⟨_, rfl, log_ok z3, ?_⟩
    refine ⟨_, rfl, (by show 1 ≤ sizeLine; decide), fun q1 H11 n11 e11 h11 => ?_⟩
    refine ⟨_, rfl, (by show 1 ≤ sizeLine; decide), fun q2 H12 n12 e12' h12 => ?_⟩
    intro q3 n13
    refine fun q4 n14 => ⟨_, rfl, _, rfl, upd_same, [(Sum.inl low, .int low)], rfl, (by show 1 ≤ 15; decide), ?_⟩
    generalize hH13 : upd H12 q3 (.dK []) = H13 at n14
    have e13 : Ex H12 H13 := hH13 ▸ Ex.new n13
    have h13 : H13 q3 = some (.dK []) := hH13 ▸ upd_same
    generalize hH14 : upd (upd H13 q4 (.dK [])) q4 (.dK (mergeK [] [(Sum.inl low, V.int low)])) = H14
    have e14 : Ex H13 H14 := hH14 ▸ Ex.mut (Ex.new n14) n14
    have h14 : H14 q4 = some (.dK (mergeK [] [(Sum.inl low, V.int low)])) := hH14 ▸ upd_same
    refine ⟨(by show 10 ≤ sizeLine; decide), fun p15 H15 n15 e15 h15 => ?_⟩
    have g11 : Ex H11 H15 := ((e12'.trans e13).trans e14).trans e15
    have g12 : Ex H12 H15 := (e13.trans e14).trans e15
    have g13 : Ex H13 H15 := e14.trans e15
    have f15 : Ex H10 H15 := e11.trans g11
    refine ⟨p15, rfl, ⟨_, SqL.of h15⟩, ?_⟩
    refine for_list (K := K) (a := p15) (xs := [V.non, V.bl true, V.bl false, V.str "", V.str "0", V.str (toString low), V.ref q1, V.ref q2, V.ref q3, V.ref q4]) (fun j σ H' => ∃ y1 y6, σ = [some (.ref p0), y1, some (.ref b), some (.int low), some (.int high), y5, y6, x7, x8] ∧ Ex H15 H')
      ⟨_, _, rfl, Ex.refl H15⟩ (fun j σ H' _ ⟨_, _, _, e⟩ => SqL.of (e _ _ h15)) ?_ ?_
    · rintro j x σ H' hj ⟨y1, y6, rfl, e⟩
      have hx : OddI K H15 x := by
        have hm := List.mem_of_getElem? hj
        simp only [List.mem_cons, List.not_mem_nil, or_false] at hm
        rcases hm with rfl | rfl | rfl | rfl | rfl | rfl | rfl | rfl | rfl | rfl
        · exact .inr (not_non (by decide +kernel))
        · exact .inl ⟨_, rfl⟩
        · exact .inl ⟨_, rfl⟩
        · exact .inr (not_str (by decide +kernel))
        · exact .inr (not_str (by decide +kernel))
        · exact .inr (not_str (by decide +kernel))
        · exact .inr (not_lst (g11 _ _ h11) (by decide +kernel))
        · exact .inr (not_tup (g12 _ _ h12) (by decide +kernel))
        · exact .inr (not_dct (g13 _ _ h13) (by decide +kernel))
        · exact .inr (not_dct (e15 _ _ h14) (by decide +kernel))
      refine ⟨_, rfl, _, rfl, _, rfl, x, low, high, false, rfl, odd_r hx e, ?_⟩
      refine ⟨_, _, rfl, _, rfl, ?_⟩
      refine ⟨_, rfl, x, 0, 1, false, rfl, odd_r hx e, ?_⟩
      refine ⟨_, _, rfl, _, rfl, ?_⟩
      exact ⟨_, _, rfl, e⟩
    · rintro σ H16 ⟨y1, y6, rfl, e16⟩
      have B16 := ((B10.ex f15).ex e16)
      have f16 : Ex H H16 := (f10.trans f15).trans e16
      -- the strings
      refine ⟨4, rfl, by decide, by decide, ?_⟩
      refine for_range (lo := 0) (n := (4 : Int).toNat) (fun j σ H' => ∃ y1 y7 y8, σ = [some (.ref p0), y1, some (.ref b), some (.int low), some (.int high), y5, y6, y7, y8] ∧ Ex H H' ∧ BoxAt H' b (1000 + 100 * j))
        ⟨_, _, _, rfl, f16, B16.mono (by omega)⟩ ?_ ?_
      · rintro j σ H17 hj ⟨y1, y7, y8, rfl, f17, B17⟩
        have hj4 : j < 4 := hj
        refine ⟨_, rfl, b, _, rfl, B17, by omega, fun z H18 hz hzo e18 B18 => ?_⟩
        have f18 := exb nb f17 e18
        have e0 : z.length ≤ sizeLine := line_ge (by omega)
        -- is_name
        refine ⟨_, rfl, .str z, _, rfl, .inl ⟨z, rfl, by omega, rfl⟩, fun H19 e19 => ?_⟩
        refine ⟨_, rfl, z, rfl, by omega, hzo, fun H20 e20 => ?_⟩
        refine ⟨_, _, rfl, _, rfl, ?_⟩
        rw [beq_self_eq_true]
        -- is_parameter
        refine ⟨_, rfl, .str z, _, rfl, .inl ⟨z, rfl, by omega, rfl⟩, fun H21 e21 => ?_⟩
        refine ⟨_, rfl, _, rfl, e0, (by show 2 ≤ sizeLine; decide), fun p22 H22 n22 e22 h22 => ?_⟩
        have f22 : Ex H H22 := (((f18.trans e19).trans e20).trans e21).trans e22
        have B22 : BoxAt H22 b (1000 + 100 * j + 100) := (((B18.ex e19).ex e20).ex e21).ex e22
        refine ⟨p22, _, rfl, .inr (SqT.of h22), rfl, rfl, _, rfl, ?_⟩
        show if inV (V.str (cutS z none (some 1))) [V.str "?", V.str "$"] = true then _ else _
        refine ite2 (fun hc => ?_) (fun hc => ?_)
        · refine ⟨_, rfl, .inl ⟨rfl, _, rfl, ?_⟩⟩
          have hne : (!decide (V.str z = V.str (Str.ofString ""))) = true := by
            rw [decide_eq_false (fun h => nm_ne hc (V.str.inj h))]
            rfl
          rw [hne]
          refine ⟨_, rfl, _, rfl, e0, _, rfl, Nat.le_trans (cutS_le _ _ _) (by omega), okS_cut hzo, fun H23 e23 => ?_⟩
          refine ⟨_, _, rfl, _, rfl, ?_⟩
          have ee : isPm z = isNm (cutS z (some 1) none) := by
            unfold isPm
            rw [hc, Bool.true_and]
          rw [ee, beq_self_eq_true]
          exact ⟨_, _, _, rfl, f22.trans e23, (B22.ex e23).mono (by omega)⟩
        · refine ⟨_, _, rfl, _, rfl, ?_⟩
          have ee : isPm z = false := by
            unfold isPm
            rw [Bool.eq_false_iff.mpr hc, Bool.false_and]
          rw [ee]
          exact ⟨_, _, _, rfl, f22, B22.mono (by omega)⟩
      · rintro σ H17 ⟨y1, y7, y8, rfl, f17, B17⟩
        -- what is no string
        refine ⟨_, rfl, (by show 1 ≤ sizeLine; decide), fun q1 H18 n18 e18 h18 => ?_⟩
        refine ⟨(by show 1 ≤ sizeLine; decide), fun q2 H19 n19 e19 h19 => ?_⟩
        refine ⟨(by show 1 ≤ sizeLine; decide), fun q3 H20 n20 e20 h20 => ?_⟩
        refine fun q4 n21 => ⟨upd_same, [(Sum.inr "a", .str "a")], rfl, (by show 1 ≤ 15; decide), ?_⟩
        generalize hH21 : upd (upd H20 q4 (.dK [])) q4 (.dK (mergeK [] [(Sum.inr "a", V.str "a")])) = H21
        have e21 : Ex H20 H21 := hH21 ▸ Ex.mut (Ex.new n21) n21
        have h21 : H21 q4 = some (.dK (mergeK [] [(Sum.inr "a", V.str "a")])) := hH21 ▸ upd_same
        intro q5 n22
        generalize hH22 : upd H21 q5 (.dK []) = H22
        have e22 : Ex H21 H22 := hH22 ▸ Ex.new n22
        have h22 : H22 q5 = some (.dK []) := hH22 ▸ upd_same
        refine ⟨(by show 2 ≤ sizeLine; decide), fun q6 H23 n23 e23 h23 => ?_⟩
        refine ⟨_, rfl, fun q7 dx n24 n25 nd => ?_⟩
        generalize hH24 : upd (upd H23 dx (exd dx [("value", V.str "a")])) q7 (exo q7 a.c_InvalidName (some dx)) = H24
        have e24 : Ex H23 H24 := by
          rw [← hH24]
          exact Ex.mut (Ex.new n25) n24
        have h24 : H24 q7 = some (exo q7 a.c_InvalidName (some dx)) := hH24 ▸ upd_same
        have h25 : H24 dx = some (exd dx [("value", V.str "a")]) := by
          rw [← hH24, upd_ne nd, upd_same]
        refine ⟨(by show 11 ≤ sizeLine; decide), fun p26 H26 n26 e26 h26 => ?_⟩
        have g23 : Ex H23 H26 := e24.trans e26
        have g22 : Ex H22 H26 := e23.trans g23
        have g21 : Ex H21 H26 := e22.trans g22
        have g20 : Ex H20 H26 := e21.trans g21
        have g19 : Ex H19 H26 := e20.trans g20
        have g18 : Ex H18 H26 := e19.trans g19
        have f26 : Ex H H26 := f17.trans (e18.trans g18)
        refine ⟨p26, rfl, ⟨_, SqL.of h26⟩, ?_⟩
        refine for_list (K := K) (a := p26) (xs := [V.non, V.bl true, V.int 0, V.int low, V.ref q1, V.ref q2, V.ref q3, V.ref q4, V.ref q5, V.ref q6, V.ref q7]) (fun j σ H' => ∃ y1 y6, σ = [some (.ref p0), y1, some (.ref b), some (.int low), some (.int high), y5, y6, y7, y8] ∧ Ex H26 H')
          ⟨_, _, rfl, Ex.refl H26⟩ (fun j σ H' _ ⟨_, _, _, e⟩ => SqL.of (e _ _ h26)) ?_ ?_
        · rintro j x σ H' hj ⟨y1, y6, rfl, e⟩
          have hx : NotI K H26 x "str" := by
            have hm := List.mem_of_getElem? hj
            simp only [List.mem_cons, List.not_mem_nil, or_false] at hm
            rcases hm with rfl | rfl | rfl | rfl | rfl | rfl | rfl | rfl | rfl | rfl | rfl
            · exact not_non (by decide +kernel)
            · exact not_bl (by decide +kernel)
            · exact not_int (by decide +kernel)
            · exact not_int (by decide +kernel)
            · exact not_lst (g18 _ _ h18) (by decide +kernel)
            · exact not_tup (g19 _ _ h19) (by decide +kernel)
            · exact not_lst (g20 _ _ h20) (by decide +kernel)
            · exact not_dct (g21 _ _ h21) (by decide +kernel)
            · exact not_dct (g22 _ _ h22) (by decide +kernel)
            · exact not_tup (g23 _ _ h23) (by decide +kernel)
            · exact not_exc (e26 _ _ h24) (e26 _ _ h25) T.e_InvalidName.ec hX
          refine ⟨_, rfl, x, false, rfl, .inr ⟨hx.ex e, rfl⟩, fun H27 e27 => ?_⟩
          refine ⟨_, _, rfl, _, rfl, ?_⟩
          refine ⟨_, rfl, x, false, rfl, .inr ⟨hx.ex (e.trans e27), rfl⟩, fun H28 e28 => ?_⟩
          refine ⟨_, _, rfl, _, rfl, ?_⟩
          exact ⟨_, _, rfl, (e.trans e27).trans e28⟩
        · rintro σ H27 ⟨y1, y6, rfl, e27⟩
          exact ⟨_, _, _, _, _, _, _, _, rfl, f26.trans e27⟩
end K01

set_option Elab.async false
set_option linter.all false
set_option maxRecDepth 100000
set_option maxHeartbeats 8000000
namespace K01
open PySem PySem.Spec PyProof.Rows L2 CN Evl
section
variable {P : Program} {w : World} {K : PySem.W.Frag} {mg : Str → Option Value} {base : Heap} {a : Ad}
theorem ok_InvalidName___init__ (T : Txt K mg a) : FnOk P w K mg base CX0 1 a.f_InvalidName___init__ a.d_InvalidName___init__ ["self", "value"] (spXI a.c_InvalidName "value") := by
  refine T.F_InvalidName___init__.ok sc_InvalidName___init__ (fun vs H Q E h => ?_) (fun cdv A outer s H vs Q E hr h => ⟨tXI K "value" "not a name", ?_, rd_xi T.e_InvalidName rfl h⟩)
  · obtain ⟨_, _, rfl, _⟩ := h
    rfl
  exact pss_cons (ps_expr (pe_binit T.e_CaughtError (by rfl) T.g_CaughtError (pa_cons (pv 0) (pa_cons pe_str pa_nil)))) (pss_one (ps_ost (pv 0) (pv 1)))
theorem ok_law (T : Txt K mg a) : FnOk P w K mg base CX0 9 a.f_law a.d_law ["_law_script"] (sp_law K) := by
  have G_is_name : FnOk P w K mg base CX0 1 a.f_is_name a.d_is_name ["value"] (sp_is_name K) := ok_is_name T
  have G_is_parameter : FnOk P w K mg base CX0 2 a.f_is_parameter a.d_is_parameter ["value"] (sp_is_parameter K) := ok_is_parameter T
  have G_is_integer : FnOk P w K mg base CX0 1 a.f_is_integer a.d_is_integer ["value", "low", "high"] (sp_is_integer K) := ok_is_integer T
  have G__law_is : FnOk P w K mg base CX0 1 a.f__law_is a.d__law_is ["_law_found", "_law_due"] (sp__law_is K) := ok__law_is T
  have G__law_is_name : FnOk P w K mg base CX0 1 a.f__law_is_name a.d__law_is_name ["_law_text"] (sp__law_is_name K) := ok__law_is_name T
  have G__law_string : FnOk P w K mg base CX0 2 a.f__law_string a.d__law_string ["_law_box_here"] spString := ok__law_string T
  have G__law_number : FnOk P w K mg base CX0 2 a.f__law_number a.d__law_number ["_law_box_here"] spNumber := ok__law_number T
  have G__law_take : FnOk P w K mg base CX0 1 a.f__law_take a.d__law_take ["_law_box_here", "_law_many"] spTake := ok__law_take T
  have G__law_cell : FnOk P w K mg base CX0 1 a.f__law_cell a.d__law_cell ["_law_script", "_law_k"] (spCell K) := ok__law_cell T
  have G__law_box : FnOk P w K mg base CX0 1 a.f__law_box a.d__law_box ["_law_cell_here"] spBox := ok__law_box T
  have G_InvalidName___init__ : FnOk P w K mg base CX0 1 a.f_InvalidName___init__ a.d_InvalidName___init__ ["self", "value"] (spXI a.c_InvalidName "value") := ok_InvalidName___init__ T
  refine T.F_law.ok sc_law (fun vs H Q E h => ?_) (fun cdv A outer s H vs Q E hr h => ⟨t_law K a, ?_, rd_law T (kit_own (by decide +kernel) T.xs_InvalidName) h⟩)
  · obtain ⟨_, _, rfl, _⟩ := h
    rfl
  exact (pss_cons (ps_for PassesOwn.never rfl (pi_range1 (by rfl) T.b_range (pa_cons (pe_callB (call_maxI rfl) (by rfl) T.b_max (by decide +kernel) (pa_cons pe_int (pa_cons (pe_callB (call_minI rfl) (by rfl) T.b_min (by decide +kernel) (pa_cons pe_int (pa_cons (pe_callB call_lenU (by rfl) T.b_len (by decide +kernel) (pa_cons (pv 0) pa_nil)) pa_nil))) pa_nil))) pa_nil)) (pg_name (i := 1) sc_law.nd rfl (Or.inl rfl)) (pss_cons (ps_set (i := 2) sc_law.nd rfl (Or.inl rfl) (pe_call G__law_box (hr.mono (by decide)) (by rfl) T.g__law_box T.F__law_box.kp T.bi__law_box .nil pass0 (pa_cons (pe_call G__law_cell (hr.mono (by decide)) (by rfl) T.g__law_cell T.F__law_cell.kp T.bi__law_cell .nil pass0 (pa_cons (pv 0) (pa_cons (pv 1) pa_nil))) pa_nil)))
      (pss_cons (ps_set (i := 3) sc_law.nd rfl (Or.inl rfl) (pe_call G__law_number (hr.mono (by decide)) (by rfl) T.g__law_number T.F__law_number.kp T.bi__law_number .nil pass0 (pa_cons (pv 2) pa_nil)))
      (pss_cons (ps_set (i := 4) sc_law.nd rfl (Or.inl rfl) (pe_ix ix_seq (pe_lstG (pa_cons (pe_op op_addU (pe_op op_subI (pv 3) pe_int) (pe_call G__law_take (hr.mono (by decide)) (by rfl) T.g__law_take T.F__law_take.kp T.bi__law_take .nil pass0 (pa_cons (pv 2) (pa_cons pe_int pa_nil)))) (pa_cons (pe_call G__law_number (hr.mono (by decide)) (by rfl) T.g__law_number T.F__law_number.kp T.bi__law_number .nil pass0 (pa_cons (pv 2) pa_nil)) pa_nil))) (pe_call G__law_take (hr.mono (by decide)) (by rfl) T.g__law_take T.F__law_take.kp T.bi__law_take .nil pass0 (pa_cons (pv 2) (pa_cons pe_int pa_nil))) (fun _ _ => rfl)))
      (pss_cons (ps_for PassesOwn.never rfl (pi_list (pe_lstG (pa_cons (pe_op op_subI (pv 3) pe_int) (pa_cons (pv 3) (pa_cons (pe_op op_addU (pv 3) pe_int) (pa_cons (pe_op op_subI (pv 4) pe_int) (pa_cons (pv 4) (pa_cons (pe_op op_addU (pv 4) pe_int) (pa_cons pe_int (pa_cons (pe_call G__law_number (hr.mono (by decide)) (by rfl) T.g__law_number T.F__law_number.kp T.bi__law_number .nil pass0 (pa_cons (pv 2) pa_nil)) pa_nil)))))))))) (pg_name (i := 5) sc_law.nd rfl (Or.inl rfl)) (pss_one (ps_if (pt_not (pt_val (pe_call G__law_is (hr.mono (by decide)) (by rfl) T.g__law_is T.F__law_is.kp T.bi__law_is .nil pass0 (pa_cons (pe_call G_is_integer (hr.mono (by decide)) (by rfl) T.g_is_integer T.F_is_integer.kp T.bi_is_integer .nil pass0 (pa_cons (pv 5) (pa_cons (pv 3) (pa_cons (pv 4) pa_nil)))) (pa_cons (pe_chain op_leU op_leU (pv 3) (pv 5) (pv 4)) pa_nil))))) (pss_one (ps_ret pe_bl)) pss_nil)))
      (pss_cons (ps_for PassesOwn.never rfl (pi_list (pe_lstG (pa_cons pe_non (pa_cons pe_bl (pa_cons pe_bl (pa_cons pe_str (pa_cons pe_str (pa_cons (pe_callTy call_strI (by rfl) T.b_str (by decide +kernel) (pa_cons (pv 3) pa_nil)) (pa_cons (pe_lstG (pa_cons (pv 3) pa_nil)) (pa_cons (pe_tupG (pa_cons (pv 3) pa_nil)) (pa_cons pe_dnewK (pa_cons (pe_disp (pps_cons (pv 3) (pv 3) pps_nil) (by rfl) (by rfl) (fun z => by cases z) (by decide)) pa_nil)))))))))))) (pg_name (i := 6) sc_law.nd rfl (Or.inl rfl)) (pss_one (ps_if (PW.pt (pw_or (pt_not (pt_val (pe_call G__law_is (hr.mono (by decide)) (by rfl) T.g__law_is T.F__law_is.kp T.bi__law_is .nil pass0 (pa_cons (pe_call G_is_integer (hr.mono (by decide)) (by rfl) T.g_is_integer T.F_is_integer.kp T.bi_is_integer .nil pass0 (pa_cons (pv 6) (pa_cons (pv 3) (pa_cons (pv 4) pa_nil)))) (pa_cons pe_bl pa_nil))))) (pw_or1 (pt_not (pt_val (pe_call G__law_is (hr.mono (by decide)) (by rfl) T.g__law_is T.F__law_is.kp T.bi__law_is .nil pass0 (pa_cons (pe_call G_is_integer (hr.mono (by decide)) (by rfl) T.g_is_integer T.F_is_integer.kp T.bi_is_integer .nil pass0 (pa_cons (pv 6) (pa_cons pe_int (pa_cons pe_int pa_nil)))) (pa_cons pe_bl pa_nil)))))))) (pss_one (ps_ret pe_bl)) pss_nil)))
      (pss_cons (ps_for PassesOwn.never rfl (pi_range1 (by rfl) T.b_range (pa_cons pe_int pa_nil)) (pg_name (i := 7) sc_law.nd rfl (Or.inl rfl)) (pss_cons (ps_set (i := 8) sc_law.nd rfl (Or.inl rfl) (pe_call G__law_string (hr.mono (by decide)) (by rfl) T.g__law_string T.F__law_string.kp T.bi__law_string .nil pass0 (pa_cons (pv 2) pa_nil)))
      (pss_cons (ps_if (pt_not (pt_val (pe_call G__law_is (hr.mono (by decide)) (by rfl) T.g__law_is T.F__law_is.kp T.bi__law_is .nil pass0 (pa_cons (pe_call G_is_name (hr.mono (by decide)) (by rfl) T.g_is_name T.F_is_name.kp T.bi_is_name .nil pass0 (pa_cons (pv 8) pa_nil)) (pa_cons (pe_call G__law_is_name (hr.mono (by decide)) (by rfl) T.g__law_is_name T.F__law_is_name.kp T.bi__law_is_name .nil pass0 (pa_cons (pv 8) pa_nil)) pa_nil))))) (pss_one (ps_ret pe_bl)) pss_nil)
      (pss_one (ps_if (pt_not (pt_val (pe_call G__law_is (hr.mono (by decide)) (by rfl) T.g__law_is T.F__law_is.kp T.bi__law_is .nil pass0 (pa_cons (pe_call G_is_parameter (hr.mono (by decide)) (by rfl) T.g_is_parameter T.F_is_parameter.kp T.bi_is_parameter .nil pass0 (pa_cons (pv 8) pa_nil)) (pa_cons (pe_and (pe_cmpR op_inU (pe_slice sl_U (pv 8) po_none (po_some pe_int)) (pe_tupG (pa_cons pe_str (pa_cons pe_str pa_nil))) (by rfl)) (pe_and (pe_cmpR (op_neU hr.units) (pv 8) pe_str (nomark _)) (pe_one (pe_call G__law_is_name (hr.mono (by decide)) (by rfl) T.g__law_is_name T.F__law_is_name.kp T.bi__law_is_name .nil pass0 (pa_cons (pe_slice sl_U (pv 8) (po_some pe_int) po_none) pa_nil))))) pa_nil))))) (pss_one (ps_ret pe_bl)) pss_nil)))))
      (pss_one (ps_for PassesOwn.never rfl (pi_list (pe_lstG (pa_cons pe_non (pa_cons pe_bl (pa_cons pe_int (pa_cons (pv 3) (pa_cons (pe_lstG (pa_cons pe_str pa_nil)) (pa_cons (pe_tupG (pa_cons pe_str pa_nil)) (pa_cons (pe_lstG (pa_cons pe_str pa_nil)) (pa_cons (pe_disp (pps_cons pe_str pe_str pps_nil) (by rfl) (by rfl) (fun z => by cases z) (by decide)) (pa_cons pe_dnewK (pa_cons (pe_tupG (pa_cons pe_str (pa_cons pe_str pa_nil))) (pa_cons (pe_mkX T.e_InvalidName.ox T.i_InvalidName___init__ T.ty_InvalidName___init__ G_InvalidName___init__ (hr.mono (by decide)) T.bi_InvalidName___init__ pass0 (by rfl) T.g_InvalidName (pa_cons pe_str pa_nil)) pa_nil))))))))))))) (pg_name (i := 6) sc_law.nd rfl (Or.inl rfl)) (pss_one (ps_if (PW.pt (pw_or (pt_not (pt_val (pe_call G__law_is (hr.mono (by decide)) (by rfl) T.g__law_is T.F__law_is.kp T.bi__law_is .nil pass0 (pa_cons (pe_call G_is_name (hr.mono (by decide)) (by rfl) T.g_is_name T.F_is_name.kp T.bi_is_name .nil pass0 (pa_cons (pv 6) pa_nil)) (pa_cons pe_bl pa_nil))))) (pw_or1 (pt_not (pt_val (pe_call G__law_is (hr.mono (by decide)) (by rfl) T.g__law_is T.F__law_is.kp T.bi__law_is .nil pass0 (pa_cons (pe_call G_is_parameter (hr.mono (by decide)) (by rfl) T.g_is_parameter T.F_is_parameter.kp T.bi_is_parameter .nil pass0 (pa_cons (pv 6) pa_nil)) (pa_cons pe_bl pa_nil)))))))) (pss_one (ps_ret pe_bl)) pss_nil)))))))))))
      (pss_one (ps_ret pe_bl)))
end
end K01

set_option Elab.async false
set_option linter.all false
set_option maxRecDepth 100000
set_option maxHeartbeats 4000000
namespace K01
open PySem PySem.Spec PyProof.Rows L2 CN Evl
theorem txt_mk {K : PySem.W.Frag} {h : Heap} {mg : Str → Option Value} (X : K.In h) (G : h.Ns mainGlobals mg)
    {f1 : Addr} {od1 an1 : Option Addr} {sl1 : Array (Option Value)} {oc1 kV1 dc1 pm1 cd1 ct1 : Value}
    {f2 : Addr} {od2 an2 : Option Addr} {sl2 : Array (Option Value)} {oc2 kV2 dc2 pm2 cd2 ct2 : Value}
    {f3 : Addr} {od3 an3 : Option Addr} {sl3 : Array (Option Value)} {oc3 kV3 dc3 pm3 cd3 ct3 : Value}
    {f4 : Addr} {od4 an4 : Option Addr} {sl4 : Array (Option Value)} {oc4 kV4 dc4 pm4 cd4 ct4 : Value}
    {f5 : Addr} {od5 an5 : Option Addr} {sl5 : Array (Option Value)} {oc5 kV5 dc5 pm5 cd5 ct5 : Value}
    {f6 : Addr} {od6 an6 : Option Addr} {sl6 : Array (Option Value)} {oc6 kV6 dc6 pm6 cd6 ct6 : Value}
    {f7 : Addr} {od7 an7 : Option Addr} {sl7 : Array (Option Value)} {oc7 kV7 dc7 pm7 cd7 ct7 : Value}
    {f8 : Addr} {od8 an8 : Option Addr} {sl8 : Array (Option Value)} {oc8 kV8 dc8 pm8 cd8 ct8 : Value}
    {f9 : Addr} {od9 an9 : Option Addr} {sl9 : Array (Option Value)} {oc9 kV9 dc9 pm9 cd9 ct9 : Value}
    {f10 : Addr} {od10 an10 : Option Addr} {sl10 : Array (Option Value)} {oc10 kV10 dc10 pm10 cd10 ct10 : Value}
    {f11 : Addr} {od11 an11 : Option Addr} {sl11 : Array (Option Value)} {oc11 kV11 dc11 pm11 cd11 ct11 : Value}
    {f12 : Addr} {od12 an12 : Option Addr} {sl12 : Array (Option Value)} {oc12 kV12 dc12 pm12 cd12 ct12 : Value}
    {z_OWN_WORDS : Addr} {dd_OWN_WORDS : Option Addr} {n_OWN_WORDS : Nat} {sl_OWN_WORDS : Array (Option Value)} {t_OWN_WORDS_0 t_OWN_WORDS_1 t_OWN_WORDS_2 t_OWN_WORDS_3 t_OWN_WORDS_4 : Tok}
    {t_LETTERS : Tok}
    {t_MOST_LETTERS : Tok}
    {z_CaughtError : Addr}
    {z_InvalidName : Addr}
    {nm_z_InvalidName q_z_InvalidName : Str} {N_z_InvalidName : Addr} {bs_z_InvalidName bm_z_InvalidName : List Value} {sn_z_InvalidName : List Str} {sub_z_InvalidName : List Value} {ab_z_InvalidName : Bool} {col_z_InvalidName : Option Bool} {dd_z_InvalidName : Option Addr} {k0_z_InvalidName k1_z_InvalidName k2_z_InvalidName k3_z_InvalidName k5_z_InvalidName : Option Value}
    (h_InvalidName : PySem.W.nsIn K mainGlobals "InvalidName" = some (some (.ref z_InvalidName)))
    (h_CaughtError : PySem.W.nsIn K mainGlobals "CaughtError" = some (some (.ref z_CaughtError)))
    (a1 : PySem.W.nsIn K mainGlobals "is_integer" = some (some (.ref f1)))
    (l1 : K.lookup f1 = some ⟨oc1, od1, .func (PySem.W.fnOf "is_integer" "is_integer" (defArgs s_is_integer) (defBody s_is_integer) (defScope s_is_integer) .none kV1 dc1 pm1 an1 cd1 ct1), sl1⟩)
    (c1 : PySem.W.codeIn K cd1 "is_integer" = true)
    (k1 : PySem.W.keepIn K (.ref f1) = true)
    (a2 : PySem.W.nsIn K mainGlobals "is_name" = some (some (.ref f2)))
    (l2 : K.lookup f2 = some ⟨oc2, od2, .func (PySem.W.fnOf "is_name" "is_name" (defArgs s_is_name) (defBody s_is_name) (defScope s_is_name) .none kV2 dc2 pm2 an2 cd2 ct2), sl2⟩)
    (c2 : PySem.W.codeIn K cd2 "is_name" = true)
    (k2 : PySem.W.keepIn K (.ref f2) = true)
    (a3 : PySem.W.nsIn K mainGlobals "is_parameter" = some (some (.ref f3)))
    (l3 : K.lookup f3 = some ⟨oc3, od3, .func (PySem.W.fnOf "is_parameter" "is_parameter" (defArgs s_is_parameter) (defBody s_is_parameter) (defScope s_is_parameter) .none kV3 dc3 pm3 an3 cd3 ct3), sl3⟩)
    (c3 : PySem.W.codeIn K cd3 "is_parameter" = true)
    (k3 : PySem.W.keepIn K (.ref f3) = true)
    (a4 : PySem.W.findIn K (.ref z_InvalidName) "__init__" = some (some (.ref f4)))
    (ty4 : PySem.W.typeIn K (.ref f4) = some (.type "function"))
    (l4 : K.lookup f4 = some ⟨oc4, od4, .func (PySem.W.fnOf "__init__" "InvalidName.__init__" (defArgs s_InvalidName___init__) (defBody s_InvalidName___init__) (defScope s_InvalidName___init__) .none kV4 dc4 pm4 an4 cd4 ct4), sl4⟩)
    (c4 : PySem.W.codeIn K cd4 "InvalidName.__init__" = true)
    (k4 : PySem.W.keepIn K (.ref f4) = true)
    (a5 : PySem.W.nsIn K mainGlobals "_law_cell" = some (some (.ref f5)))
    (l5 : K.lookup f5 = some ⟨oc5, od5, .func (PySem.W.fnOf "_law_cell" "_law_cell" (defArgs s__law_cell) (defBody s__law_cell) (defScope s__law_cell) .none kV5 dc5 pm5 an5 cd5 ct5), sl5⟩)
    (c5 : PySem.W.codeIn K cd5 "_law_cell" = true)
    (k5 : PySem.W.keepIn K (.ref f5) = true)
    (a6 : PySem.W.nsIn K mainGlobals "_law_box" = some (some (.ref f6)))
    (l6 : K.lookup f6 = some ⟨oc6, od6, .func (PySem.W.fnOf "_law_box" "_law_box" (defArgs s__law_box) (defBody s__law_box) (defScope s__law_box) .none kV6 dc6 pm6 an6 cd6 ct6), sl6⟩)
    (c6 : PySem.W.codeIn K cd6 "_law_box" = true)
    (k6 : PySem.W.keepIn K (.ref f6) = true)
    (a7 : PySem.W.nsIn K mainGlobals "_law_take" = some (some (.ref f7)))
    (l7 : K.lookup f7 = some ⟨oc7, od7, .func (PySem.W.fnOf "_law_take" "_law_take" (defArgs s__law_take) (defBody s__law_take) (defScope s__law_take) .none kV7 dc7 pm7 an7 cd7 ct7), sl7⟩)
    (c7 : PySem.W.codeIn K cd7 "_law_take" = true)
    (k7 : PySem.W.keepIn K (.ref f7) = true)
    (a8 : PySem.W.nsIn K mainGlobals "_law_number" = some (some (.ref f8)))
    (l8 : K.lookup f8 = some ⟨oc8, od8, .func (PySem.W.fnOf "_law_number" "_law_number" (defArgs s__law_number) (defBody s__law_number) (defScope s__law_number) .none kV8 dc8 pm8 an8 cd8 ct8), sl8⟩)
    (c8 : PySem.W.codeIn K cd8 "_law_number" = true)
    (k8 : PySem.W.keepIn K (.ref f8) = true)
    (a9 : PySem.W.nsIn K mainGlobals "_law_string" = some (some (.ref f9)))
    (l9 : K.lookup f9 = some ⟨oc9, od9, .func (PySem.W.fnOf "_law_string" "_law_string" (defArgs s__law_string) (defBody s__law_string) (defScope s__law_string) .none kV9 dc9 pm9 an9 cd9 ct9), sl9⟩)
    (c9 : PySem.W.codeIn K cd9 "_law_string" = true)
    (k9 : PySem.W.keepIn K (.ref f9) = true)
    (a10 : PySem.W.nsIn K mainGlobals "_law_is_name" = some (some (.ref f10)))
    (l10 : K.lookup f10 = some ⟨oc10, od10, .func (PySem.W.fnOf "_law_is_name" "_law_is_name" (defArgs s__law_is_name) (defBody s__law_is_name) (defScope s__law_is_name) .none kV10 dc10 pm10 an10 cd10 ct10), sl10⟩)
    (c10 : PySem.W.codeIn K cd10 "_law_is_name" = true)
    (k10 : PySem.W.keepIn K (.ref f10) = true)
    (a11 : PySem.W.nsIn K mainGlobals "_law_is" = some (some (.ref f11)))
    (l11 : K.lookup f11 = some ⟨oc11, od11, .func (PySem.W.fnOf "_law_is" "_law_is" (defArgs s__law_is) (defBody s__law_is) (defScope s__law_is) .none kV11 dc11 pm11 an11 cd11 ct11), sl11⟩)
    (c11 : PySem.W.codeIn K cd11 "_law_is" = true)
    (k11 : PySem.W.keepIn K (.ref f11) = true)
    (a12 : PySem.W.nsIn K mainGlobals "law" = some (some (.ref f12)))
    (l12 : K.lookup f12 = some ⟨oc12, od12, .func (PySem.W.fnOf "law" "law" (defArgs s_law) (defBody s_law) (defScope s_law) .none kV12 dc12 pm12 an12 cd12 ct12), sl12⟩)
    (c12 : PySem.W.codeIn K cd12 "law" = true)
    (k12 : PySem.W.keepIn K (.ref f12) = true)
    (h_OWN_WORDS : PySem.W.nsIn K mainGlobals "OWN_WORDS" = some (some (.ref z_OWN_WORDS)))
    (v_OWN_WORDS : K.lookup z_OWN_WORDS = some ⟨.type "tuple", dd_OWN_WORDS, .seq #[.str "let" t_OWN_WORDS_0, .str "in" t_OWN_WORDS_1, .str "each" t_OWN_WORDS_2, .str "of" t_OWN_WORDS_3, .str "want" t_OWN_WORDS_4] n_OWN_WORDS, sl_OWN_WORDS⟩)
    (h_LETTERS : PySem.W.nsIn K mainGlobals "LETTERS" = some (some (.str "abcdefghijklmnopqrstuvwxyz" t_LETTERS)))
    (h_MOST_LETTERS : PySem.W.nsIn K mainGlobals "MOST_LETTERS" = some (some (.int 6 t_MOST_LETTERS)))
    (x_CaughtError_sg : PySem.W.specialIn K (.ref z_CaughtError) "__getattribute__" = some (some (.builtin "type.__getattribute__")))
    (x_CaughtError_rd : PySem.W.readsIn K z_CaughtError (.type "type") = true)
    (x_CaughtError_fc : PySem.W.findCls K (.ref z_CaughtError) (.type "type") "__init__" = some (.val (.builtin "ValueError.__init__")))
    (x_InvalidName_cls : K.lookup z_InvalidName = some (excClassObj nm_z_InvalidName q_z_InvalidName z_InvalidName N_z_InvalidName bs_z_InvalidName bm_z_InvalidName true sn_z_InvalidName sub_z_InvalidName ab_z_InvalidName col_z_InvalidName dd_z_InvalidName k0_z_InvalidName k1_z_InvalidName k2_z_InvalidName k3_z_InvalidName k5_z_InvalidName "ValueError.__new__"))
    (x_InvalidName_bm : PySem.HandSPX.refsVE bm_z_InvalidName = true)
    (x_InvalidName_sa : PySem.W.findIn K (.ref z_InvalidName) "__setattr__" = some (some (.builtin "object.__setattr__")))
    (x_InvalidName_ga : PySem.W.findIn K (.ref z_InvalidName) "__getattribute__" = some (some (.builtin "BaseException.__getattribute__")))
    (x_InvalidName_gg : PySem.W.findIn K (.ref z_InvalidName) "__getattr__" = some none)
    (x_InvalidName_ex : PySem.W.subIn K (.ref z_InvalidName) (.type "BaseException") = some true)
    (x_InvalidName_ty : PySem.W.typeIn K (.ref z_InvalidName) = some (.type "type"))
    (x_InvalidName_kp : PySem.W.keepIn K (.ref z_InvalidName) = true)
    (x_InvalidName_hd : PySem.W.hasDictIn K z_InvalidName = true)
    (x_InvalidName_ca : PySem.W.findIn K (.ref z_InvalidName) "__class__" = some (some (.builtin "object.__class__")))
    (x_InvalidName_cg : PySem.W.specialIn K (.builtin "object.__class__") "__get__" = some (some (.builtin "getset_descriptor.__get__")))
    (x_InvalidName_ct : PySem.W.takesIn K (.builtin "object.__class__") = some true)
    (x_InvalidName_mo : PySem.W.mroIn K z_InvalidName (.type "object") = some true)
    (x_InvalidName_fv : PySem.W.findIn K (.ref z_InvalidName) "value" = some none)
    (u_xs_InvalidName : PySem.W.subIn K (.ref z_InvalidName) (.type "str") = some false)
    (b_len : PySem.W.nsIn K mainGlobals "len" = some none)
    (b_max : PySem.W.nsIn K mainGlobals "max" = some none)
    (b_min : PySem.W.nsIn K mainGlobals "min" = some none)
    (b_str : PySem.W.nsIn K mainGlobals "str" = some none)
    (b_int : PySem.W.nsIn K mainGlobals "int" = some none)
    (b_bool : PySem.W.nsIn K mainGlobals "bool" = some none)
    (b_isinstance : PySem.W.nsIn K mainGlobals "isinstance" = some none)
    (b_all : PySem.W.nsIn K mainGlobals "all" = some none)
    (b_range : PySem.W.nsIn K mainGlobals "range" = some none) :
    ∃ a : Ad, Txt K mg a :=
  ⟨{ f_is_integer := f1, d_is_integer := PySem.W.fnOf "is_integer" "is_integer" (defArgs s_is_integer) (defBody s_is_integer) (defScope s_is_integer) .none kV1 dc1 pm1 an1 cd1 ct1,
      f_is_name := f2, d_is_name := PySem.W.fnOf "is_name" "is_name" (defArgs s_is_name) (defBody s_is_name) (defScope s_is_name) .none kV2 dc2 pm2 an2 cd2 ct2,
      f_is_parameter := f3, d_is_parameter := PySem.W.fnOf "is_parameter" "is_parameter" (defArgs s_is_parameter) (defBody s_is_parameter) (defScope s_is_parameter) .none kV3 dc3 pm3 an3 cd3 ct3,
      f_InvalidName___init__ := f4, d_InvalidName___init__ := PySem.W.fnOf "__init__" "InvalidName.__init__" (defArgs s_InvalidName___init__) (defBody s_InvalidName___init__) (defScope s_InvalidName___init__) .none kV4 dc4 pm4 an4 cd4 ct4,
      f__law_cell := f5, d__law_cell := PySem.W.fnOf "_law_cell" "_law_cell" (defArgs s__law_cell) (defBody s__law_cell) (defScope s__law_cell) .none kV5 dc5 pm5 an5 cd5 ct5,
      f__law_box := f6, d__law_box := PySem.W.fnOf "_law_box" "_law_box" (defArgs s__law_box) (defBody s__law_box) (defScope s__law_box) .none kV6 dc6 pm6 an6 cd6 ct6,
      f__law_take := f7, d__law_take := PySem.W.fnOf "_law_take" "_law_take" (defArgs s__law_take) (defBody s__law_take) (defScope s__law_take) .none kV7 dc7 pm7 an7 cd7 ct7,
      f__law_number := f8, d__law_number := PySem.W.fnOf "_law_number" "_law_number" (defArgs s__law_number) (defBody s__law_number) (defScope s__law_number) .none kV8 dc8 pm8 an8 cd8 ct8,
      f__law_string := f9, d__law_string := PySem.W.fnOf "_law_string" "_law_string" (defArgs s__law_string) (defBody s__law_string) (defScope s__law_string) .none kV9 dc9 pm9 an9 cd9 ct9,
      f__law_is_name := f10, d__law_is_name := PySem.W.fnOf "_law_is_name" "_law_is_name" (defArgs s__law_is_name) (defBody s__law_is_name) (defScope s__law_is_name) .none kV10 dc10 pm10 an10 cd10 ct10,
      f__law_is := f11, d__law_is := PySem.W.fnOf "_law_is" "_law_is" (defArgs s__law_is) (defBody s__law_is) (defScope s__law_is) .none kV11 dc11 pm11 an11 cd11 ct11,
      f_law := f12, d_law := PySem.W.fnOf "law" "law" (defArgs s_law) (defBody s_law) (defScope s_law) .none kV12 dc12 pm12 an12 cd12 ct12,
      c_OWN_WORDS := z_OWN_WORDS,
      t_LETTERS := t_LETTERS,
      t_MOST_LETTERS := t_MOST_LETTERS,
      c_CaughtError := z_CaughtError,
      c_InvalidName := z_InvalidName },
   { F_is_integer := fun_mk (st := s_is_integer) l1 c1 k1,
      bi_is_integer := (fun_mk (st := s_is_integer) l1 c1 k1).binds (ps := ["value", "low", "high"]) fun _ _ _ _ _ _ us hl => match us, hl with | [_, _, _], _ => rfl,
      g_is_integer := PySem.W.mg_of X G a1,
      F_is_name := fun_mk (st := s_is_name) l2 c2 k2,
      bi_is_name := (fun_mk (st := s_is_name) l2 c2 k2).binds (ps := ["value"]) fun _ _ _ _ _ _ us hl => match us, hl with | [_], _ => rfl,
      g_is_name := PySem.W.mg_of X G a2,
      F_is_parameter := fun_mk (st := s_is_parameter) l3 c3 k3,
      bi_is_parameter := (fun_mk (st := s_is_parameter) l3 c3 k3).binds (ps := ["value"]) fun _ _ _ _ _ _ us hl => match us, hl with | [_], _ => rfl,
      g_is_parameter := PySem.W.mg_of X G a3,
      F_InvalidName___init__ := fun_mk (st := s_InvalidName___init__) l4 c4 k4,
      bi_InvalidName___init__ := (fun_mk (st := s_InvalidName___init__) l4 c4 k4).binds (ps := ["self", "value"]) fun _ _ _ _ _ _ us hl => match us, hl with | [_, _], _ => rfl,
      i_InvalidName___init__ := a4,
      ty_InvalidName___init__ := ty4,
      F__law_cell := fun_mk (st := s__law_cell) l5 c5 k5,
      bi__law_cell := (fun_mk (st := s__law_cell) l5 c5 k5).binds (ps := ["_law_script", "_law_k"]) fun _ _ _ _ _ _ us hl => match us, hl with | [_, _], _ => rfl,
      g__law_cell := PySem.W.mg_of X G a5,
      F__law_box := fun_mk (st := s__law_box) l6 c6 k6,
      bi__law_box := (fun_mk (st := s__law_box) l6 c6 k6).binds (ps := ["_law_cell_here"]) fun _ _ _ _ _ _ us hl => match us, hl with | [_], _ => rfl,
      g__law_box := PySem.W.mg_of X G a6,
      F__law_take := fun_mk (st := s__law_take) l7 c7 k7,
      bi__law_take := (fun_mk (st := s__law_take) l7 c7 k7).binds (ps := ["_law_box_here", "_law_many"]) fun _ _ _ _ _ _ us hl => match us, hl with | [_, _], _ => rfl,
      g__law_take := PySem.W.mg_of X G a7,
      F__law_number := fun_mk (st := s__law_number) l8 c8 k8,
      bi__law_number := (fun_mk (st := s__law_number) l8 c8 k8).binds (ps := ["_law_box_here"]) fun _ _ _ _ _ _ us hl => match us, hl with | [_], _ => rfl,
      g__law_number := PySem.W.mg_of X G a8,
      F__law_string := fun_mk (st := s__law_string) l9 c9 k9,
      bi__law_string := (fun_mk (st := s__law_string) l9 c9 k9).binds (ps := ["_law_box_here"]) fun _ _ _ _ _ _ us hl => match us, hl with | [_], _ => rfl,
      g__law_string := PySem.W.mg_of X G a9,
      F__law_is_name := fun_mk (st := s__law_is_name) l10 c10 k10,
      bi__law_is_name := (fun_mk (st := s__law_is_name) l10 c10 k10).binds (ps := ["_law_text"]) fun _ _ _ _ _ _ us hl => match us, hl with | [_], _ => rfl,
      g__law_is_name := PySem.W.mg_of X G a10,
      F__law_is := fun_mk (st := s__law_is) l11 c11 k11,
      bi__law_is := (fun_mk (st := s__law_is) l11 c11 k11).binds (ps := ["_law_found", "_law_due"]) fun _ _ _ _ _ _ us hl => match us, hl with | [_, _], _ => rfl,
      g__law_is := PySem.W.mg_of X G a11,
      F_law := fun_mk (st := s_law) l12 c12 k12,
      bi_law := (fun_mk (st := s_law) l12 c12 k12).binds (ps := ["_law_script"]) fun _ _ _ _ _ _ us hl => match us, hl with | [_], _ => rfl,
      g_law := PySem.W.mg_of X G a12,
      lb := fun _ _ => .of_eq rfl,
      g_OWN_WORDS := PySem.W.mg_of X G h_OWN_WORDS,
      k_OWN_WORDS := fun _ => .inr ⟨_, _, _, v_OWN_WORDS, rfl, rfl, (by show 5 ≤ sizeLine; decide), .cons ⟨_, rfl⟩ (.cons ⟨_, rfl⟩ (.cons ⟨_, rfl⟩ (.cons ⟨_, rfl⟩ (.cons ⟨_, rfl⟩ (.nil)))))⟩,
      g_LETTERS := PySem.W.mg_of X G h_LETTERS,
      g_MOST_LETTERS := PySem.W.mg_of X G h_MOST_LETTERS,
      g_CaughtError := PySem.W.mg_of X G h_CaughtError,
      e_CaughtError := ⟨x_CaughtError_sg, x_CaughtError_rd, x_CaughtError_fc⟩,
      g_InvalidName := PySem.W.mg_of X G h_InvalidName,
      e_InvalidName := ⟨⟨⟨_, _, _, _, _, _, _, _, _, _, _, _, _, _, _, x_InvalidName_cls, x_InvalidName_bm⟩, x_InvalidName_sa, x_InvalidName_ex, x_InvalidName_ty, x_InvalidName_kp⟩, ⟨x_InvalidName_ga, x_InvalidName_gg, x_InvalidName_ex, x_InvalidName_hd, x_InvalidName_ca, x_InvalidName_cg, x_InvalidName_ct, x_InvalidName_mo⟩, x_InvalidName_fv⟩,
      xs_InvalidName := u_xs_InvalidName,
      b_len := PySem.W.mg_none_of X G b_len,
      b_max := PySem.W.mg_none_of X G b_max,
      b_min := PySem.W.mg_none_of X G b_min,
      b_str := PySem.W.mg_none_of X G b_str,
      b_int := PySem.W.mg_none_of X G b_int,
      b_bool := PySem.W.mg_none_of X G b_bool,
      b_isinstance := PySem.W.mg_none_of X G b_isinstance,
      b_all := PySem.W.mg_none_of X G b_all,
      b_range := PySem.W.mg_none_of X G b_range }⟩
theorem law_fn {P : Program} {w : World} {K : PySem.W.Frag} {mg : Str → Option Value} {fa : Addr} (ht : ∃ a : Ad, Txt K mg a) (hmg : mg "law" = some (.ref fa)) :
    ∃ fd : FuncData, (∀ (s : Shared) (u : Value), BindsTo s fd ⟨[u], []⟩ [("_law_script", u)]) ∧ ∀ base : Heap, K.In base → base.Ns mainGlobals mg → FnOk P w K mg base CX0 9 fa fd ["_law_script"] (sp_law K) := by
  obtain ⟨a, T⟩ := ht
  have e := hmg.symm.trans T.g_law
  cases e
  exact ⟨a.d_law, T.lb, fun base _ _ => ok_law T⟩
end K01
open PySem PySem.W PyProof.Rows
set_option maxRecDepth 100000 in
set_option maxHeartbeats 0 in
theorem PySem.Challenge.cw_caughtnames_k01_kinds_of_words_holds : PySem.Challenge.rw_caughtnames_k01_kinds_of_words.Holds := by
  w_on; o_law; k_head; (case hw => w_witness2)
  k_fill
  refine L2.walk_ofK (l := PySem.Challenge.rw_caughtnames_k01_kinds_of_words) (n := 63) (k := 9) (x := "_law_script") (CX := L2.CX0) (sp := K01.sp_law) rfl (by decide) rfl ⟨rfl, by decide, by decide⟩ (fun w h Y => PySem.W.kIn_of Y) ?F (fun K H a ns hl hO hS => K01.sp_law_of hl hO hS) (fun _ _ _ _ z => z)
  intro w mg fa h KX G hmg0
  have hmg : mg "law" = some (.ref fa) := hmg0
  clear hmg0
  refine K01.law_fn ?ht hmg
  case ht =>
    refine' K01.txt_mk KX G ?h_InvalidName ?h_CaughtError ?a1 ?l1 ?c1 ?k1 ?a2 ?l2 ?c2 ?k2 ?a3 ?l3 ?c3 ?k3 ?a4 ?ty4 ?l4 ?c4 ?k4 ?a5 ?l5 ?c5 ?k5 ?a6 ?l6 ?c6 ?k6 ?a7 ?l7 ?c7 ?k7 ?a8 ?l8 ?c8 ?k8 ?a9 ?l9 ?c9 ?k9 ?a10 ?l10 ?c10 ?k10 ?a11 ?l11 ?c11 ?k11 ?a12 ?l12 ?c12 ?k12 ?h_OWN_WORDS ?v_OWN_WORDS ?h_LETTERS ?h_MOST_LETTERS ?x_CaughtError_sg ?x_CaughtError_rd ?x_CaughtError_fc ?x_InvalidName_cls ?x_InvalidName_bm ?x_InvalidName_sa ?x_InvalidName_ga ?x_InvalidName_gg ?x_InvalidName_ex ?x_InvalidName_ty ?x_InvalidName_kp ?x_InvalidName_hd ?x_InvalidName_ca ?x_InvalidName_cg ?x_InvalidName_ct ?x_InvalidName_mo ?x_InvalidName_fv ?u_xs_InvalidName ?b_len ?b_max ?b_min ?b_str ?b_int ?b_bool ?b_isinstance ?b_all ?b_range
    (case h_InvalidName => k_is)
    (case h_CaughtError => k_is)
    (case a1 => k_is)
    (case l1 => k_is)
    (case c1 => k_is)
    (case k1 => k_is)
    (case a2 => k_is)
    (case l2 => k_is)
    (case c2 => k_is)
    (case k2 => k_is)
    (case a3 => k_is)
    (case l3 => k_is)
    (case c3 => k_is)
    (case k3 => k_is)
    (case a4 => k_is)
    (case ty4 => k_is)
    (case l4 => k_is)
    (case c4 => k_is)
    (case k4 => k_is)
    (case a5 => k_is)
    (case l5 => k_is)
    (case c5 => k_is)
    (case k5 => k_is)
    (case a6 => k_is)
    (case l6 => k_is)
    (case c6 => k_is)
    (case k6 => k_is)
    (case a7 => k_is)
    (case l7 => k_is)
    (case c7 => k_is)
    (case k7 => k_is)
    (case a8 => k_is)
    (case l8 => k_is)
    (case c8 => k_is)
    (case k8 => k_is)
    (case a9 => k_is)
    (case l9 => k_is)
    (case c9 => k_is)
    (case k9 => k_is)
    (case a10 => k_is)
    (case l10 => k_is)
    (case c10 => k_is)
    (case k10 => k_is)
    (case a11 => k_is)
    (case l11 => k_is)
    (case c11 => k_is)
    (case k11 => k_is)
    (case a12 => k_is)
    (case l12 => k_is)
    (case c12 => k_is)
    (case k12 => k_is)
    (case h_OWN_WORDS => k_is)
    (case v_OWN_WORDS => k_is)
    (case h_LETTERS => k_is)
    (case h_MOST_LETTERS => k_is)
    (case x_CaughtError_sg => k_is)
    (case x_CaughtError_rd => k_is)
    (case x_CaughtError_fc => k_is)
    (case x_InvalidName_cls => k_is)
    (case x_InvalidName_bm => decide +kernel)
    (case x_InvalidName_sa => k_is)
    (case x_InvalidName_ga => k_is)
    (case x_InvalidName_gg => k_is)
    (case x_InvalidName_ex => k_is)
    (case x_InvalidName_ty => k_is)
    (case x_InvalidName_kp => k_is)
    (case x_InvalidName_hd => k_is)
    (case x_InvalidName_ca => k_is)
    (case x_InvalidName_cg => k_is)
    (case x_InvalidName_ct => k_is)
    (case x_InvalidName_mo => k_is)
    (case x_InvalidName_fv => k_is)
    (case u_xs_InvalidName => k_is)
    (case b_len => k_is)
    (case b_max => k_is)
    (case b_min => k_is)
    (case b_str => k_is)
    (case b_int => k_is)
    (case b_bool => k_is)
    (case b_isinstance => k_is)
    (case b_all => k_is)
    (case b_range => k_is)

#print axioms PySem.Challenge.cw_caughtnames_k01_kinds_of_words_holds
