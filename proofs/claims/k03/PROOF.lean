
import PyProof.Rows.All
import Wide.All
import OpenK.AllK
import Wide.FinOn
import PyProof.EqAt
import PyProof.EqKinds
import PyProof.TupleCall
import HandS.ForMost
import HandS.Exc
import HandS.WordsExc
import HandS.IsInst
import HandS.EndBits
import HandS.Evl
import HandS.Walk
import HandS.ExcInit
import HandS.ExcIs
import KE.KExcIs
import KE.KxText
import HandS.Defaults
import HandS.Replace
import KE.IntTextLaws
import HandS.MakeKwOnly
import HandS.TupAny
import HandS.TupMul
import KE.KRevSl
import HandS.Comp
import HandS.SortKw
import HandS.FStr
import KE.DataMinMax
import HandS.ExcOwn
import HandS.CallSlots
import PyProof.DictUpdate
import PyProof.DictDisplay
import HandS.Set
import PyProof.Rows.SetFrom
import PyProof.Rows.SortShellAny
import HandS.TupLe
import HandS.TryMany
import HandS.ListItems
import HandS.NoneIn
import HandS.Style
import HandS.Zip
import HandS.Star
import HandS.OwnEq
import KE.GoesZip
import KE.GoesEnum
import KE.GoesMore
import HandS.DictComp
import PyProof.WalksMore
import HandS.Deep
import HandS.HotCalls
import HandS.Steps
import HandS.HeadHook3
import PySem.Challenge.RW_caughtnames_k03_errors_and_their_fields
set_option Elab.async false
set_option linter.all false
set_option maxRecDepth 100000
set_option maxHeartbeats 4000000
namespace CN
open PySem PySem.Spec PyProof.Rows L2 Evl

def nwL (xs : List V) (H : Hp) (Q : VK) : Prop := ∀ p H', H p = none → Ex H H' → H' p = some (.lst xs) → Q (.ref p) H'
def nwT (xs : List V) (H : Hp) (Q : VK) : Prop := ∀ p H', H p = none → Ex H H' → H' p = some (.tup xs) → Q (.ref p) H'
theorem nwL.up {xs : List V} {H : Hp} {Q : VK} (h : nwL xs H Q) {p : Addr} (hp : H p = none) : Q (.ref p) (upd H p (.lst xs)) := h p _ hp (Ex.new hp) upd_same
theorem nwT.up {xs : List V} {H : Hp} {Q : VK} (h : nwT xs H Q) {p : Addr} (hp : H p = none) : Q (.ref p) (upd H p (.tup xs)) := h p _ hp (Ex.new hp) upd_same
def tLstG (t : TA) : TE := fun σ H Q => t σ H fun xs H1 => xs.length ≤ sizeLine ∧ nwL xs H1 Q
def tTupG (t : TA) : TE := fun σ H Q => t σ H fun xs H1 => xs.length ≤ sizeLine ∧ nwT xs H1 Q
section
variable {X : Cx} {es : List Expr} {t : TA} {pos : Pos}
theorem pe_lstG (h : PA X es t) : PE X (.List es pos) (tLstG t) := by
  constructor
  intro pins s σ H Q I hq
  refine wpAny_List_spliced (thn (h.run pos pins s σ H _ I hq) fun us s1 q1 => ?_)
  obtain ⟨xs, H1, I1, r, z, q⟩ := q1
  have hf : H1 s1.heap.objs.size = none := I1.hok.fresh (Nat.le_refl _)
  have hz : us.length ≤ sizeLine := r.length ▸ z
  have J := I1.laid (t' := s1.toks) (a := s1.heap.objs.size) (o := .lst xs) (h' := s1.heap.push { cls := .type "list", data := .seq us.toArray 0 }) (fun b u e => Heap.get?_push_of_some _ e) (Nat.le_refl _) ⟨z, us, 0, r, Heap.get?_push_size _ rfl⟩
  exact ⟨hz, .ref s1.heap.objs.size, _, J, rfl, q.up hf⟩
theorem pe_tupG {x1} (h : PA X es t) : PE X (.Tuple es x1 pos) (tTupG t) := by
  constructor
  intro pins s σ H Q I hq
  refine wpAny_Tuple_spliced (thn (h.run pos pins s σ H _ I hq) fun us s1 q1 => ?_)
  obtain ⟨xs, H1, I1, r, z, q⟩ := q1
  have hf : H1 s1.heap.objs.size = none := I1.hok.fresh (Nat.le_refl _)
  have hz : us.length ≤ sizeLine := r.length ▸ z
  refine ⟨hz, .ref s1.heap.objs.size, upd H1 s1.heap.objs.size (.tup xs), ?_, rfl, q.up hf⟩
  refine I1.laid (t' := s1.toks) (fun b u e => Heap.get?_push_of_some _ e) (Nat.le_refl _) ?_
  exact ⟨z, us, r, _, Heap.get?_push_size _ rfl, rfl, _, rfl⟩
end
def rCatG : R2 := fun x y H Q => ∃ l b xs zs, x = .ref l ∧ y = .ref b ∧ H l = some (.lst xs) ∧ H b = some (.lst zs) ∧ xs.length + zs.length ≤ sizeLine ∧ nwL (xs ++ zs) H Q
def rRepG : R2 := fun x y H Q => ∃ l k xs, x = .ref l ∧ y = .int k ∧ H l = some (.lst xs) ∧ -(2 ^ 63) ≤ k ∧ k < 2 ^ 63 ∧ xs.length * k.toNat ≤ sizeLine ∧ nwL (List.replicate k.toNat xs).flatten H Q
def rSubI : R2 := fun x y H Q => match x, y with
  | .int i, .int j => Q (.int (i - j)) H
  | _, _ => False
def rDivI : R2 := fun x y H Q => match x, y with
  | .int i, .int j => CDiv i j ∧ Q (.int (i / j)) H
  | _, _ => False
def rModI : R2 := fun x y H Q => match x, y with
  | .int i, .int j => 0 < j ∧ Q (.int (i % j)) H
  | _, _ => False
def rPowI : R2 := fun x y H Q => match x, y with
  | .int i, .int j => CPow i j ∧ Q (.int (i ^ j.toNat)) H
  | _, _ => False
def rEqU (K : PySem.W.Frag) : R2 := fun x y H Q => (scal x y = true ∧ Q (.bl (decide (x = y))) H) ∨ rEqD K x y H Q
def rNeU (K : PySem.W.Frag) : R2 := fun x y H Q => (scal x y = true ∧ Q (.bl (!decide (x = y))) H) ∨ rNeD K x y H Q
def rLtU : R2 := fun x y H Q => match x, y with
  | .int i, .int j => Q (.bl (decide (i < j))) H
  | .str a, .str b => Q (.bl (decide (a.cps.toList < b.cps.toList))) H
  | _, _ => False
def rGtU : R2 := fun x y H Q => match x, y with
  | .int i, .int j => Q (.bl (decide (j < i))) H
  | .str a, .str b => Q (.bl (decide (b.cps.toList < a.cps.toList))) H
  | _, _ => False
def rNegI : V → Hp → VK → Prop := fun x H Q => match x with
  | .int i => Q (.int (-i)) H
  | _ => False
section
variable {X : Cx}
theorem op_subI : OpR X (binaryOp .Sub) rSubI := by
  intro pins s σ H x y v u Q I rx ry h
  unfold rSubI at h
  split at h
  · exact op_sub pins s σ H _ _ v u Q I rx ry ⟨_, _, rfl, rfl, h⟩
  · exact h.elim
theorem op_divI : OpR X (binaryOp .FloorDiv) rDivI := by
  intro pins s σ H x y v u Q I rx ry h
  unfold rDivI at h
  split at h
  · exact op_fdiv pins s σ H _ _ v u Q I rx ry ⟨_, _, rfl, rfl, h.1, h.2⟩
  · exact h.elim
theorem op_modI : OpR X (binaryOp .Mod) rModI := by
  intro pins s σ H x y v u Q I rx ry h
  unfold rModI at h
  split at h
  · exact op_mod pins s σ H _ _ v u Q I rx ry ⟨_, _, rfl, rfl, h.1, h.2⟩
  · exact h.elim
theorem op_powI : OpR X (binaryOp .Pow) rPowI := by
  intro pins s σ H x y v u Q I rx ry h
  unfold rPowI at h
  split at h
  · exact op_pow pins s σ H _ _ v u Q I rx ry ⟨_, _, rfl, rfl, h.1, h.2⟩
  · exact h.elim
theorem op_eqU (hu : X.A.units + 64 < cLine) : OpR X (compareOp .Eq) (rEqU X.K) := op_eq.or (op_eqD hu)
theorem op_neU (hu : X.A.units + 64 < cLine) : OpR X (compareOp .NotEq) (rNeU X.K) := op_ne.or (op_neD hu)
theorem op_ltU : OpR X (compareOp .Lt) rLtU := by
  intro pins s σ H x y v u Q I rx ry h
  unfold rLtU at h
  split at h
  · exact op_lt pins s σ H _ _ v u Q I rx ry ⟨_, _, rfl, rfl, h⟩
  · exact op_lt_str pins s σ H _ _ v u Q I rx ry ⟨_, _, rfl, rfl, h⟩
  · exact h.elim
theorem op_gtU : OpR X (compareOp .Gt) rGtU := by
  intro pins s σ H x y v u Q I rx ry h
  unfold rGtU at h
  split at h
  · exact op_gt pins s σ H _ _ v u Q I rx ry ⟨_, _, rfl, rfl, h⟩
  · exact op_gt_str pins s σ H _ _ v u Q I rx ry ⟨_, _, rfl, rfl, h⟩
  · exact h.elim
theorem un_negI : UnR X (unaryOp .USub) rNegI := by
  intro pins s σ H x v Q I rx h
  unfold rNegI at h
  split at h
  · exact un_neg pins s σ H _ v Q I rx ⟨_, rfl, h⟩
  · exact h.elim
end

def rLenU (K : PySem.W.Frag) : List V → Hp → VK → Prop := fun xs H Q => match xs with
  | [.str z] => z.length ≤ sizeLine ∧ Q (.int z.length) H
  | [.ref p] => (∃ ys, (SqL K H p ys ∨ SqT K H p ys) ∧ Q (.int ys.length) H) ∨ ∃ kvs, H p = some (.dK kvs) ∧ Q (.int kvs.length) H
  | _ => False
def rMaxI : List V → Hp → VK → Prop := fun xs H Q => match xs with
  | [.int i, .int j] => Q (.int (if j > i then j else i)) H
  | _ => False
def rMinI : List V → Hp → VK → Prop := fun xs H Q => match xs with
  | [.int i, .int j] => Q (.int (if j < i then j else i)) H
  | _ => False
section
variable {X : Cx}
theorem call_lenU : CallR X (.builtin "len") (rLenU X.K) := by
  intro pins s σ H xs us Q I r h
  unfold rLenU at h
  split at h
  · exact call_len_str pins s σ H _ us Q I r ⟨_, rfl, h.1, h.2⟩
  · rcases h with ⟨ys, a, b⟩ | ⟨kvs, a, b⟩
    · exact call_len_seq pins s σ H _ us Q I r ⟨_, ys, rfl, a, b⟩
    · exact call_lenD pins s σ H _ us Q I r ⟨_, kvs, rfl, a, b⟩
  · exact h.elim
theorem call_maxI (hc : X.calm = true) : CallR X (.builtin "max") rMaxI := by
  intro pins s σ H xs us Q I r h
  unfold rMaxI at h
  split at h
  · exact call_max2 hc pins s σ H _ us Q I r ⟨_, _, rfl, h⟩
  · exact h.elim
theorem call_minI (hc : X.calm = true) : CallR X (.builtin "min") rMinI := by
  intro pins s σ H xs us Q I r h
  unfold rMinI at h
  split at h
  · exact call_min2 hc pins s σ H _ us Q I r ⟨_, _, rfl, h⟩
  · exact h.elim
end
end CN

set_option Elab.async false
set_option linter.all false
set_option maxRecDepth 100000
set_option maxHeartbeats 4000000
namespace CN
open PySem PySem.Spec PyProof.Rows L2 PySem.W PySem.HandSPX
open Builtin Builtin.ObjectAttr

inductive BK where
  | ve
  | ke
  | le
def BK.tail : BK → List Value
  | .ve => [.type "ValueError", .type "Exception", .type "BaseException", .type "object"]
  | .ke => [.type "KeyError", .type "LookupError", .type "Exception", .type "BaseException", .type "object"]
  | .le => [.type "LookupError", .type "Exception", .type "BaseException", .type "object"]
def BK.nb : BK → String
  | .ve => "ValueError"
  | _ => "LookupError"
def BK.new : BK → String
  | .ve => "ValueError.__new__"
  | _ => "LookupError.__new__"
def BK.ib : BK → String
  | .ve => "ValueError"
  | .ke => "KeyError"
  | .le => "LookupError"
def BK.ini : BK → String
  | .ve => "ValueError.__init__"
  | .ke => "KeyError.__init__"
  | .le => "LookupError.__init__"
structure MakeF (B newId : String) : Prop where
  nf : ExcNewFacts B newId
  split : splitId newId = some (B, "__new__")
  kind : builtinKind newId = some .builtinFn
  row : Manifest.signature? newId = some ⟨.any, B, B, .cls, [⟨"args", .varPos, false⟩, ⟨"kwargs", .varKw, false⟩]⟩
  canon : Manifest.canonical newId = Manifest.canonical "BaseException.__new__"
  quiet : newId.startsWith "lifetime." = false
  star : (B != "*") = true
structure StartF (B initId : String) : Prop where
  entry : entryFor table initId = some Builtin.«BaseException.__init__»
  split : splitId initId = some (B, "__init__")
  kind : builtinKind initId = some .slot
  row : Manifest.signature? initId = some ⟨.positional, "*", B, .self, [⟨"args", .varPos, false⟩]⟩
  plain : plainId initId = true
  star : (B != "*") = true
theorem MakeF.of {B n i : String} {bm : List Value} (F : ExcBaseFacts B n i bm) : MakeF B n := ⟨F.toExcCallFacts.toExcNewFacts, F.newSplit, F.newKind, F.newRow, F.canon, F.quiet, F.noStar⟩
theorem StartF.of {B n i : String} {bm : List Value} (F : ExcBaseFacts B n i bm) : StartF B i := ⟨F.initEntry, F.initSplit, F.initKind, F.initRow, F.init.plain, F.noStar⟩
theorem BK.make : ∀ b : BK, MakeF b.nb b.new
  | .ve => MakeF.of F.excBase_ValueError
  | .ke => MakeF.of F.excBase_LookupError
  | .le => MakeF.of F.excBase_LookupError
theorem BK.start : ∀ b : BK, StartF b.ib b.ini
  | .ve => StartF.of F.excBase_ValueError
  | .ke => ⟨excClass_KeyError.initEntry, excClass_KeyError.initSplit, excClass_KeyError.initKind, by kernel_rfl, excClass_KeyError.init.plain, by decide +kernel⟩
  | .le => StartF.of F.excBase_LookupError
def ownB (t : List Value) : List Value → Bool
  | .ref _ :: r => ownB t r
  | l => l == t
theorem ownB_split (t : List Value) : ∀ l : List Value, ownB t l = true → ∃ cs : List Addr, l = cs.map Value.ref ++ t := by
  intro l
  induction l with
  | nil =>
    intro e
    exact ⟨[], beq_iff_eq.mp e⟩
  | cons a r ih =>
    intro e
    cases a with
    | ref c =>
      obtain ⟨cs, h⟩ := ih e
      exact ⟨c :: cs, by rw [h]; rfl⟩
    | _ => exact ⟨[], beq_iff_eq.mp e⟩
theorem refuse_refs (self : Value) (t : List Value) (h : refuseLoop self "__setattr__" t = pure ()) : ∀ cs : List Addr, refuseLoop self "__setattr__" (cs.map Value.ref ++ t) = pure ()
  | [] => h
  | c :: cs => by
    show refuseLoop self "__setattr__" (.ref c :: (cs.map Value.ref ++ t)) = pure ()
    rw [refuseLoop_ref]
    exact refuse_refs self t h cs
theorem BK.passes (self : Value) : ∀ b : BK, refuseLoop self "__setattr__" b.tail = pure ()
  | .ve => F.store_ValueError.passes self
  | .ke => by kernel_rfl
  | .le => F.store_LookupError.passes self
theorem ownB_pass {b : BK} {l : List Value} (self : Value) (h : ownB b.tail l = true) : refuseLoop self "__setattr__" l = pure () := by
  obtain ⟨cs, rfl⟩ := ownB_split _ _ h
  exact refuse_refs self _ (b.passes self) cs
theorem ownB_has {b : BK} {l : List Value} (h : ownB b.tail l = true) (X : String) : l.contains (.type X) = b.tail.contains (.type X) := by
  obtain ⟨cs, rfl⟩ := ownB_split _ _ h
  induction cs with
  | nil => rfl
  | cons c cs ih => exact ih h
theorem ownB_ne {b : BK} {l : List Value} (h : ownB b.tail l = true) : l.isEmpty = false := by
  obtain ⟨cs, rfl⟩ := ownB_split _ _ h
  cases cs with
  | nil => cases b <;> rfl
  | cons _ _ => rfl
theorem BK.hasNew (b : BK) : b.tail.contains (.type b.nb) = true := by cases b <;> decide +kernel
theorem BK.hasIni (b : BK) : b.tail.contains (.type b.ib) = true := by cases b <;> decide +kernel
theorem BK.hasObj (b : BK) : b.tail.contains (.type "object") = true := by cases b <;> decide +kernel
theorem BK.noAttr (b : BK) : b.tail.contains (.type "AttributeError") = false := by cases b <;> decide +kernel
theorem BK.noName (b : BK) : b.tail.contains (.type "NameError") = false := by cases b <;> decide +kernel
section
variable {M : Model} {prog : Program} {w : World} {A : Around} {E : Value → Shared → Prop} {R : Result → Shared → Prop} {h : Heap} {g : Array GenState} {d : Drawn} {t : Nat} {os : OsState}
variable {nm q : Str} {C N : Addr} {bs bm : List Value} {hdct : Bool} {sn : List Str} {sub : List Value} {ab : Bool} {col : Option Bool} {dd : Option Addr} {k0 k1 k2 k3 k5 : Option Value} {b : BK}
theorem mk_chk (hm : ownB b.tail bm = true) {rest : List Value} {Q : Unit → Shared → Prop}
    (hC : h.get? C = some (excClassObj nm q C N bs bm hdct sn sub ab col dd k0 k1 k2 k3 k5 b.new)) (hq : Q () ⟨h, g, d, t, os⟩) : wpAny M A (checkBuiltinCall b.new ⟨.ref C :: rest, []⟩) Q E ⟨h, g, d, t, os⟩ := by
  have F := b.make
  have hcont : (Value.ref C :: bm).contains (.type b.nb) = true := by rw [List.contains_cons, ownB_has hm, b.hasNew, Bool.or_true]
  have hstar := F.star
  simp only [checkBuiltinCall, F.kind, F.split, F.row]
  repeat (first | refine wpAny_loadPart_at hC ?_ | (refine wpAny_isSubtype_exc hC ?_; rw [hcont]) | refine wpAny_staticBase_exc hC ?_ | refine wpAny_madeBy_exc hC ?_ | simp only [bne_self_eq_false, Bool.false_eq_true, if_false] | wp_step)
  exact hq
theorem st_chk (hm : ownB b.tail bm = true) {e : Addr} {oe : Obj} {rest : List Value} {Q : Unit → Shared → Prop}
    (hC : h.get? C = some (excClassObj nm q C N bs bm hdct sn sub ab col dd k0 k1 k2 k3 k5 b.new)) (he : h.get? e = some oe) (hcls : oe.cls = .ref C) (hq : Q () ⟨h, g, d, t, os⟩) :
    wpAny M A (checkBuiltinCall b.ini ⟨.ref e :: rest, []⟩) Q E ⟨h, g, d, t, os⟩ := by
  have F := b.start
  have hcB : (Value.ref C :: bm).contains (.type b.ib) = true := by rw [List.contains_cons, ownB_has hm, b.hasIni, Bool.or_true]
  have hshort := F.star
  simp only [checkBuiltinCall, F.kind, F.split, F.row]
  repeat (first | (with_reducible refine wpAny_loadPart_at he ?_; rw [hcls]) | with_reducible refine wpAny_loadPart_at hC ?_ | (with_reducible refine wpAny_isSubtype_exc hC ?_; rw [hcB]) | wp_step)
  refine wpAny_onRaise ?_
  rw [show ∀ (x y : String) (n : Nat), Bind.check ⟨.positional, "*", b.ib, .self, [⟨"args", .varPos, false⟩]⟩ x y n (List.map (fun x => x.fst) ({ pos := Value.ref e :: rest } : Args).kw) = pure () from
    fun x y n => check_star_args _ _ _ _ _ _]
  exact wpAny_pure hq
theorem mk_new (hm : ownB b.tail bm = true) {rest : List Value}
    (hC : h.get? C = some (excClassObj nm q C N bs bm hdct sn sub ab col dd k0 k1 k2 k3 k5 b.new))
    (hq : R (.ok (.ret (.ref (h.objs.size + 1)))) ⟨(h.push { cls := .type "tuple", data := .seq rest.toArray }).push
      { cls := .ref C, data := .fields #[.ref h.objs.size, .none, .none, .none, .bool false, .none] }, g, d, t, os⟩) (hrest : rest.length ≤ sizeLine) :
    codeAny (model prog w) A (.builtin b.new ⟨.ref C :: rest, []⟩) R ⟨h, g, d, t, os⟩ := by
  have F := b.make
  have hends := F.nf.ends
  have hcB : (Value.ref C :: bm).contains (.type b.nb) = true := by rw [List.contains_cons, ownB_has hm, b.hasNew, Bool.or_true]
  have hcA : (Value.ref C :: bm).contains (.type "AttributeError") = false := by rw [List.contains_cons, ownB_has hm, b.noAttr]; rfl
  have hcN : (Value.ref C :: bm).contains (.type "NameError") = false := by rw [List.contains_cons, ownB_has hm, b.noName]; rfl
  refine codeAny_builtinAt F.nf.entry ?_
  unfold Builtin.«BaseException.__new__»
  refine PySem.wpAt_bind ?_
  show PySem.wpAt _ _ _ (stack >>= _) _ _ _
  refine PySem.wpAt_bind (PySem.wpAt_stack fun p below => PySem.wpAt_of_wpAny ?_)
  wp_walk
  refine PySem.wpAt_of_wpAny ?_
  rw [F.nf.owner]
  repeat (first | with_reducible refine wpAny_madeHere_exc F.canon hC ?_ | with_reducible refine wpAny_loadPart_at hC ?_ | (with_reducible refine wpAny_isSubtype_exc hC ?_; first | rw [hcB] | rw [hcA] | rw [hcN]) | wp_step)
  show R _ _
  rw [Heap.size_push]
  exact hq
theorem mk_tc (hm : ownB b.tail bm = true) {rest : List Value} {fI : Addr} {Q : Fin → Shared → Prop}
    (hC : h.get? C = some (excClassObj nm q C N bs bm hdct sn sub ab col dd k0 k1 k2 k3 k5 b.new))
    (hi : W.Looks (model prog w) h (typeLookup (.ref C) "__init__") (some (.ref fI))) (hb : ∀ self, W.Looks (model prog w) h (bindSpecial (.ref fI) self) (.ref fI, [self])) (hrest : rest.length ≤ sizeLine)
    (hq : codeAny (model prog w) A (.call (.ref fI) ⟨.ref (h.objs.size + 1) :: rest, []⟩)
      (fun r s' => match r with | .ok (.ret v) => v = .none ∧ Q (.done (.ret (.ref (h.objs.size + 1)))) s' | .ok _ => False | .error e => E e s')
      ⟨(h.push (W.kdv_tup rest)).push (excO C h.objs.size), g, d, t, os⟩) :
    wpAny (model prog w) A (Builtin.«type.__call__» ⟨.ref C :: rest, []⟩) Q E ⟨h, g, d, t, os⟩ := by
  repeat (first | with_reducible refine wpAny_loadPart_at hC ?_ | with_reducible refine wpAny_madeBy_exc hC ?_ | wp_step)
  refine codeAny_call_builtin_code (Code.quiet_builtin _ b.make.quiet) (mk_chk hm hC ?_)
  refine mk_new hm hC ?_ hrest
  show wpAny _ _ _ _ _ _
  have k : ∀ b o, h.get? b = some o → ((h.push (W.kdv_tup rest)).push (excO C h.objs.size)).get? b = some o := fun b o e => Heap.get?_push_of_some _ (Heap.get?_push_of_some _ e)
  have hC₁ := k _ _ hC
  have hget : ((h.push (W.kdv_tup rest)).push (excO C h.objs.size)).get? (h.objs.size + 1) = some (excO C h.objs.size) := by heap_get
  have hcC : (Value.ref C :: bm).contains (.ref C) = true := by simp
  have i1 := hi.keeps k
  have b1 := (hb (.ref (h.objs.size + 1))).keeps k
  unfold isInstance
  repeat (first | with_reducible refine wpAny_loadPart_at hget ?_ | (with_reducible refine wpAny_isSubtype_exc hC₁ ?_; rw [hcC]) | wp_step)
  show wpAny _ _ (typeLookup (.ref C) _) _ _ _
  refine i1.at ?_
  refine wpAny_holding (wpAny_bind (b1.at ?_))
  refine wpAny_bind (wpAny_call (codeAny_mono hq fun r s' z => ?_))
  rcases r with e | (v | _ | _ | _) <;> first | exact z | exact z.elim | skip
  obtain ⟨rfl, z⟩ := z
  first
    | exact wpAny_pure (wpAny_pure z)
    | (wp_walk; exact z)
theorem mk_call (hm : ownB b.tail bm = true) {rest : List Value} {fI : Addr}
    (hC : h.get? C = some (excClassObj nm q C N bs bm hdct sn sub ab col dd k0 k1 k2 k3 k5 b.new))
    (hi : W.Looks (model prog w) h (typeLookup (.ref C) "__init__") (some (.ref fI))) (hb : ∀ self, W.Looks (model prog w) h (bindSpecial (.ref fI) self) (.ref fI, [self])) (hrest : rest.length ≤ sizeLine)
    (hq : codeAny (model prog w) (A.under (.builtin "type.__call__" ⟨.ref C :: rest, []⟩)) (.call (.ref fI) ⟨.ref (h.objs.size + 1) :: rest, []⟩) (W.InitBack (h.objs.size + 1) R)
      ⟨(h.push (W.kdv_tup rest)).push (excO C h.objs.size), g, d, t, os⟩) :
    codeAny (model prog w) A (.call (.ref C) ⟨rest, []⟩) R ⟨h, g, d, t, os⟩ := by
  have f1 := tc_lookup
  have f2 := tc_bind (.ref C)
  have hTy : (⟨h, g, d, t, os⟩ : Shared).TypeIs (.ref C) "type" := ⟨_, hC, rfl⟩
  refine codeAny_of_tree ?_
  show wpAny _ _ (callAny (.ref C) _) _ _ _
  repeat (any_goals (first | assumption | with_reducible refine wpAny_loadPart_at hC ?_ | wp_step))
  refine ⟨rfl, ?_⟩
  refine codeAny_call_builtin_at (Code.quiet_builtin _ (by decide +kernel)) entry_typeCall (wpAny_check_type_call_sub hC (mk_tc hm hC hi hb hrest ?_))
  refine codeAny_mono hq fun r s' z => ?_
  rcases r with e | (v | _ | _ | _) <;> exact z
theorem st_base (hm : ownB b.tail bm = true) {e t0 : Addr} {rest : List Value}
    (hC : h.get? C = some (excClassObj nm q C N bs bm hdct sn sub ab col dd k0 k1 k2 k3 k5 b.new)) (he : h.get? e = some (excO C t0)) (hrest : rest.length ≤ sizeLine)
    (hq : ∀ h' t1, (∀ b o, b ≠ e → h.get? b = some o → h'.get? b = some o) → h'.get? e = some (excO C t1) → R (.ok (.ret .none)) ⟨h', g, d, t, os⟩) :
    codeAny (model prog w) A (.call (.builtin b.ini) ⟨.ref e :: rest, []⟩) R ⟨h, g, d, t, os⟩ := by
  refine codeAny_call_builtin b.start.plain b.start.entry (st_chk hm hC he rfl ?_)
  wp_walk
  refine hq _ h.objs.size (fun b o hb ho => ?_) ?_
  · rw [Heap.get?_update_other _ _ (Ne.symm hb)]
    exact Heap.get?_push_of_some _ ho
  · rw [Heap.get?_update_self _ (Heap.get?_push_of_some _ he) rfl]
    rfl
end
end CN

set_option Elab.async false
set_option linter.all false
set_option maxRecDepth 100000
set_option maxHeartbeats 4000000
namespace CN
open PySem PySem.Spec PyProof.Rows L2

structure OexB (K : PySem.W.Frag) (b : BK) (C : Addr) : Prop where
  cls : ∃ nm q N bs bm sn sub ab col dd k0 k1 k2 k3 k5, K.lookup C = some (excClassObj nm q C N bs bm true sn sub ab col dd k0 k1 k2 k3 k5 b.new) ∧ ownB b.tail bm = true
  sa : PySem.W.findIn K (.ref C) "__setattr__" = some (some (.builtin "object.__setattr__"))
  exC : PySem.W.subIn K (.ref C) (.type "BaseException") = some true
  tyC : PySem.W.typeIn K (.ref C) = some (.type "type")
  kC : PySem.W.keepIn K (.ref C) = true
structure ExF (K : PySem.W.Frag) (C : Addr) (fl : Str) : Prop where
  ec : ExcC K C
  fv : PySem.W.findIn K (.ref C) fl = some none
structure ExT (K : PySem.W.Frag) (b : BK) (C : Addr) (fl : Str) : Prop extends ExF K C fl where
  ox : OexB K b C
structure ExB0 (K : PySem.W.Frag) (b : BK) (B : Addr) : Prop where
  sg : PySem.W.specialIn K (.ref B) "__getattribute__" = some (some (.builtin "type.__getattribute__"))
  rd : PySem.W.readsIn K B (.type "type") = true
  fc : PySem.W.findCls K (.ref B) (.type "type") "__init__" = some (.val (.builtin b.ini))
section
open PySem.W PySem.HandSPX Builtin Builtin.ObjectAttr
variable {prog : Program} {w : World} {A : Around} {E : Value → Shared → Prop} {R : Result → Shared → Prop} {hp : Heap} {g : Array GenState} {d : Drawn} {t : Nat} {os : OsState}
theorem st_new {K : PySem.W.Frag} {b : BK} {name : Str} {tk : Tok} {v : Value} {x C : Addr} {fv : Array Value} {cd : ClassData}
    (X : K.In hp) (hx : hp.get? x = some { cls := .ref C, data := .fields fv }) (hcd : PySem.W.clsIn K C = some cd) (hm : ownB b.tail cd.mro = true) (hh : cd.hasDict = true) (ha : PySem.W.findIn K (.ref C) name = some none)
    (hq : ∀ h' tk' dx, (∀ b o, b ≠ x → hp.get? b = some o → h'.get? b = some o) → hp.objs.size ≤ dx → dx ≠ x → h'.get? x = some { cls := .ref C, dict := some dx, data := .fields fv } →
      h'.Ns1 dx (fun y => if y = name then some v else none) → R (.ok (.ret .none)) ⟨h', g, d, tk', os⟩) :
    codeAny (model prog w) A (.call (.builtin "object.__setattr__") ⟨[.ref x, .str name tk, v], []⟩) R ⟨hp, g, d, t, os⟩ := by
  have I : PySem.W.InstAt hp x { cls := .ref C, data := .fields fv } C none := ⟨hx, rfl, rfl, trivial⟩
  have SF := F.store_object
  have hxs : x ≠ hp.objs.size := Nat.ne_of_lt (Heap.lt_size hx)
  have sub : PySem.W.Looks (model prog w) hp (isInstance (.ref x) (.type "object")) true := I.type.andThen (PySem.W.looks_mroIn X (by unfold PySem.W.mroIn; rw [hcd, Option.bind_some, if_neg (by rw [ownB_ne hm]; decide), ownB_has hm, b.hasObj]))
  refine codeAny_call_builtin SF.slot.plain SF.entry (@PySem.W.check_slot (model prog w) _ _ ⟨hp, g, d, t, os⟩ "object.__setattr__" "object" "__setattr__" (.ref x) [.str name tk, v] [] _ SF.kind SF.split sub (SF.args (.ref x) (.str name tk) v) ?_)
  have hmr : PySem.W.Looks (model prog w) hp (mroOf (.ref C)) cd.mro := (PySem.W.looks_clsIn X hcd).andThen .now
  have L3 : PySem.W.Looks (model prog w) hp (storeTaker? none) none := .now
  have hcls : PySem.W.Looks (model prog w) hp (classData C) cd := PySem.W.looks_clsIn X hcd
  rw [PySem.W.osa_eq, refuse_eq]
  refine wpAny_bind (wpAny_bind (I.type.at (wpAny_bind (hmr.at ?_))))
  rw [ownB_pass _ hm]
  refine wpAny_pure (wpAny_bind (I.type.at (wpAny_bind ((PySem.W.looks_findIn X ha).at (wpAny_bind (L3.at ?_))))))
  show wpAny _ _ (storeInOwnDict (.ref x) (.ref C) (.str name tk) name v false) _ _ _
  obtain ⟨nm, bs, mro, ns, qn, hd, sn, sb, ab, col, del⟩ := cd
  dsimp only at hh
  subst hh
  unfold storeInOwnDict ownDictForStores
  repeat (first | with_reducible refine store_in_new ?_ ?_ | with_reducible refine wpAny_loadPart_at hx ?_ | with_reducible refine hcls.at ?_ | wp_step)
  · exact ⟨_, #[], _, (Heap.get?_update_ne _ _ _ _ hxs.symm).trans (Heap.get?_push_at rfl rfl), rfl, fun e he => absurd he (by simp), fun _ => rfl⟩
  · intro h' tk' hn' hs
    have hx₁ : (hp.push { cls := .type "dict", data := .dict #[] }).get? x = some { cls := .ref C, data := .fields fv } := Heap.get?_push_of_some _ hx
    refine hq h' tk' hp.objs.size (fun b o hb ho => ?_) (Nat.le_refl _) hxs.symm ?_ hn'
    · exact (hs.2 b (Nat.ne_of_lt (Heap.lt_size ho))).trans ((Heap.get?_update_ne _ _ _ _ hb).trans (Heap.get?_push_of_some _ ho))
    · exact (hs.2 x hxs).trans (Heap.get?_update_self _ hx₁ rfl)
end
section
variable {X : Cx} {pins : List (Addr × Obj)} {σ : L2.St} {H : Hp} {s : Shared} {a C dx : Addr} {f : Str} {y : V} {u : Value} {b : BK} {E : Value → Shared → Prop} {A : Around}
theorem OexB.cd (T : OexB X.K b C) : ∃ cd, PySem.W.clsIn X.K C = some cd ∧ ownB b.tail cd.mro = true ∧ cd.hasDict = true := by
  obtain ⟨nm, q, N, bs, bm, sn, sub, ab, col, dd, k0, k1, k2, k3, k5, hC, hbm⟩ := T.cls
  exact ⟨{ name := nm, bases := bs, mro := .ref C :: bm, ns := N, qualname := q, hasDict := true, slotNames := sn, subclasses := sub, abstract := ab, collection := col, hasDel := false }, by unfold PySem.W.clsIn; rw [hC] <;> rfl, hbm, rfl⟩
theorem st_put {Q : Unit → Shared → Prop} (T : OexB X.K b C) (I : Inv X pins σ H s) (e : H a = some (exo a C none)) (hno : PySem.W.findIn X.K (.ref C) f = some none) (ry : RelV y u)
    (h : ∀ dx s', H dx = none → dx ≠ a → Inv X pins σ (upd (upd H dx (exd dx [(f, y)])) a (exo a C (some dx))) s' → Q () s') : wpAny (model X.prog X.w) A (setAttr (.ref a) f u) Q E s := by
  obtain ⟨cd, hcl, hmro, hhd⟩ := T.cd
  obtain ⟨t1, ho⟩ := exo_at I.hok e
  obtain ⟨hp, g, d, t, os⟩ := s
  refine PySem.W.set_plain I.kIn (ox := { cls := .ref C, dict := none, data := .fields #[.ref t1, .none, .none, .none, .bool false, .none] }) (od := none) ⟨ho, rfl, rfl, trivial⟩ T.sa ?_
  refine st_new I.kIn ho hcl hmro hhd hno (fun h' tk' dx k dn dne hx hn => ?_)
  have hnd : H dx = none := I.hok.fresh dn
  have nd : ∀ {c : Addr} {o : Obj}, hp.get? c = some o → c ≠ dx := fun {c o} q => Nat.ne_of_lt (Nat.lt_of_lt_of_le (Heap.lt_size q) dn)
  have na : ∀ {c : Addr}, H c = none → c ≠ a := fun {c} n z => by
    rw [z, e] at n
    cases n
  have Un1 : Un X.fs [] H (upd (upd H dx (exd dx [(f, y)])) a (exo a C (some dx))) hp h' := {
    keep := fun c o q n _ _ => k c o (na n) q
    slot := fun c o q n _ _ => ⟨o.slots, k c o (na n) q⟩
    free := fun c o q n _ => by rw [upd_ne (na n), upd_ne (nd q)]; exact n
    there := fun c o q _ => by
      by_cases hc : c = a
      · exact ⟨_, by rw [hc]; exact hx⟩
      · exact ⟨o, k c o hc q⟩
    tups := fun c xs q => by rw [upd_ne (at_ne e q exo_tup), upd_ne (ne_of_none q hnd)]; exact q
    frzs := fun c o v q => by rw [upd_ne (at_ne e q exo_frz), upd_ne (ne_of_none q hnd)]; exact q
    tbls := fun c ps q => ⟨#[], by rw [upd_ne (at_ne e q exo_tbl), upd_ne (ne_of_none q hnd), q]; simp⟩ }
  refine h dx _ hnd dne (I.un (t' := tk') Un1 fun c o q => ?_)
  by_cases hc : c = a
  · subst hc
    rw [upd_same] at q
    cases q
    exact exo_ok hx
  · rw [upd_ne hc] at q
    by_cases hd : c = dx
    · subst hd
      rw [upd_same] at q
      cases q
      exact exd_ok hn (relO_put (fs := []) ry fun g => True.intro)
    · rw [upd_ne hd] at q
      exact (I.hok c o q).stay (fun c' v hc' z => k c' v (by
          rcases hc' with hc' | hc'
          · rw [hc']
            exact hc
          · exact at_ne e hc' exo_own) z)
        (fun c' hc' => by rw [upd_ne (at_ne e hc' exo_own), upd_ne (ne_of_none hc' hnd)]; exact hc') (fun c' xs hc' => by rw [upd_ne (at_ne e hc' exo_tup), upd_ne (ne_of_none hc' hnd)]; exact hc')
theorem st_ini {us : List Value} {Q : Value → Shared → Prop} (T : OexB X.K b C) (I : Inv X pins σ H s) (e : H a = some (exo a C none)) (hl : us.length ≤ sizeLine) (h : ∀ s', Inv X pins σ H s' → Q .none s') :
    wpAny (model X.prog X.w) A (call (.builtin b.ini) (.ref a :: us)) Q E s := by
  obtain ⟨nm, q, N, bs, bm, sn, sub, ab, col, dd, k0, k1, k2, k3, k5, hC, hbm⟩ := T.cls
  obtain ⟨t1, ho⟩ := exo_at I.hok e
  obtain ⟨hp, g, d, t, os⟩ := s
  refine wpAny_call (st_base hbm (I.kIn _ _ hC) ho hl fun h' t2 k hx => ?_)
  have J := I.write (t' := t) (x := a) (e := a) (o := exo a C none) (by rw [e]; exact True.intro) (.inl rfl) k ⟨_, hx⟩ (exo_ok hx)
  have eu : upd H a (exo a C none) = H := by
    funext c
    by_cases hc : c = a
    · rw [hc, upd_same, e]
    · rw [upd_ne hc]
  rw [eu] at J
  exact h _ J
end
def tBI (K : PySem.W.Frag) (b : BK) (ta : TA) : TE := fun σ H Q => ta σ H fun vs H1 => ∃ (a C : Addr) (ws : List V), vs = .ref a :: ws ∧ ws.length ≤ 1000 ∧ OexB K b C ∧ H1 a = some (exo a C none) ∧ Q .non H1
def tFst (K : PySem.W.Frag) (b : BK) (f : Str) (to te : TE) : TS := fun D σ H => te σ H fun y H1 => to σ H1 fun x H2 => ∃ a C : Addr, x = .ref a ∧ OexB K b C ∧ PySem.W.findIn K (.ref C) f = some none ∧
  H2 a = some (exo a C none) ∧ ∀ dx, H2 dx = none → dx ≠ a → D.nx σ (upd (upd H2 dx (exd dx [(f, y)])) a (exo a C (some dx)))
section
variable {X : Cx} {o e : Expr} {es : List Expr} {to te : TE} {ta : TA} {b : BK} {f : Str} {p p' p1 p2 pos : Pos}
theorem pe_binit {n : Str} {B : Addr} {pl : Sem Bool} (Z : ExB0 X.K b B) (hg : Gl X n) (hm : X.mg n = some (.ref B)) (ha : PA X (e :: es) ta) (hdb : (n == ("__debug__" : Str)) = false := by decide)
    (hc : eval (.Call (.Attribute (.Name n p1) "__init__" p2) (e :: es) [] pos) X.env = (do
      let ov ← eval (.Name n p1) X.env
      standAt p2.atName
      let (f, first) ← holding [ov] (getMethod ov "__init__" pl)
      callWith pos f first (backTo pos (starEach (e :: es) X.env)) (backToKw pos (keywordEach [] X.env))) := by rfl)
    (he : starEach (e :: es) X.env = (false, eval e X.env) :: starEach es X.env := by rfl) (hpl : (backTo pos (starEach es X.env)).any (·.1) = false := by rfl) :
    PE X (.Call (.Attribute (.Name n p1) "__init__" p2) (e :: es) [] pos) (tBI X.K b ta) := by
  constructor
  intro pins s σ H Q I h
  refine PySem.W.methodCall_KW (ld_glob I hg hm ?_ hdb) hc
  refine PySem.W.method_cls I.kIn Z.sg (PySem.W.cls_value I.kIn Z.rd Z.fc (by cases b <;> decide +kernel) ?_)
  show wpAny _ _ (callWith pos (Value.builtin b.ini) [] (backTo pos (starEach (e :: es) X.env)) []) _ _ _
  refine PyProof.Rows.callWith_method1 (thn (ha.run pos pins _ σ H _ (I.tok _) h) fun us s1 q1 => ?_) he hpl
  obtain ⟨vs, H1, I1, r1, a, C, ws, ev, hl, T, ea, q⟩ := q1
  subst ev
  cases r1 with
  | @cons _ u0 _ ur ra rw' =>
    have e0 : u0 = Value.ref a := ra
    subst e0
    have hn : ur.length ≤ sizeLine := by
      have hq := Paired.length rw'
      have hs := sizeLine_eq
      omega
    exact st_ini T I1 ea hn (fun s' J => ⟨.non, H1, J, rfl, q⟩)
theorem ps_fst (ho : PE X o to) (he : PE X e te) (hs : swapsWith e (some (.Attribute o f p')) pos.line X.env = pure false := by rfl) : PS X (.Assign [.Attribute o f p'] e pos) (tFst X.K b f to te) := by
  refine ⟨fun pins s σ H D I h => ?_⟩
  refine plainObj_wpAny_Assign_Attribute (thn (he.run pins s σ H _ I h) fun v s1 hh => ?_) hs
  obtain ⟨y, H1, I1, r1, q1⟩ := hh
  refine thn (ho.run pins s1 σ H1 _ I1 q1) fun u s2 hh2 => ?_
  obtain ⟨x, H2, I2, r2, a, C, ex, T, hno, ea, q⟩ := hh2
  subst ex
  have eu : u = Value.ref a := r2
  subst eu
  exact st_put T I2 ea hno r1 fun dx s' n ne J => ⟨σ, _, J, q dx n ne⟩
def tMkX (C : Addr) (fl : Str) (ta : TA) : TE := fun σ H Q => ta σ H fun vs H1 => ∃ v, vs = [v] ∧ ∀ x dx, H1 x = none → H1 dx = none → dx ≠ x →
  Q (.ref x) (upd (upd H1 dx (exd dx [(fl, v)])) x (exo x C (some dx)))
def spXI (C : Addr) (fl : Str) : Sp := fun vs H Q _ => ∃ x v, vs = [.ref x, v] ∧ H x = some (exo x C none) ∧
  ∀ dx, H dx = none → dx ≠ x → Q .non (upd (upd H dx (exd dx [(fl, v)])) x (exo x C (some dx)))
theorem upd2 {H : Hp} {x d : Addr} {o o' u : HO} (h : d ≠ x) : upd (upd (upd H x o) d u) x o' = upd (upd H d u) x o' := by
  funext b
  by_cases h1 : b = x
  · rw [h1, upd_same, upd_same]
  · rw [upd_ne h1, upd_ne h1]
    by_cases h2 : b = d
    · rw [h2, upd_same, upd_same]
    · rw [upd_ne h2, upd_ne h2, upd_ne h1]
theorem pe_mkX {CX : CXT} {x fl : Str} {C fI : Addr} {k : Nat} {fd : FuncData} {ps : List Str} (T : OexB X.K b C) (iC : PySem.W.findIn X.K (.ref C) "__init__" = some (some (.ref fI))) (tI : PySem.W.typeIn X.K (.ref fI) = some (.type "function"))
    (F1 : FnOk X.prog X.w X.K X.mg X.base CX k fI fd ps (spXI C fl)) (hr : Room (k + 1) X.A) (hb : Binds X.K fd ps []) (hx : Passes CX X (fun _ _ _ => False)) (hg : Gl X x) (hm : X.mg x = some (.ref C)) (ha : PA X [e] ta)
    (hdb : (x == ("__debug__" : Str)) = false := by decide) (he : starEach [e] X.env = (false, eval e X.env) :: starEach [] X.env := by rfl) (hpl : (backTo pos (starEach [] X.env)).any (·.1) = false := by rfl) :
    PE X (.Call (.Name x p1) [e] [] pos) (tMkX C fl ta) := by
  constructor
  intro pins s σ H Q I h
  obtain ⟨nm, q, N, bs, bm, sn, sub, ab, col, dd, k0, k1, k2, k3, k5, hC, hbm⟩ := T.cls
  refine wpAny_Call_Name_kw (ld_glob I hg hm ?_ hdb)
  refine PySem.W.callWith_K (h₀ := X.base) I.ok.mod.kin T.kC (thn (ha.run pos pins s σ H _ I h) fun us s1 h1 => ?_) he hpl
  obtain ⟨vs, H1, I1, r1, v, ev, q1⟩ := h1
  subst ev
  refine ⟨I1.kIn, ?_⟩
  cases r1 with
  | cons rv rn =>
    rename_i u us'
    cases rn
    show wpAny _ _ (call (.ref C) [u]) _ _ _
    obtain ⟨hp, g, dr, tk, os⟩ := s1
    have hsz : hp.objs.size ≤ hp.objs.size + 1 := Nat.le_succ _
    have hn : H1 (hp.objs.size + 1) = none := I1.hok.fresh hsz
    have kk : ∀ b o, hp.get? b = some o → ((hp.push (PySem.W.kdv_tup [u])).push (PySem.HandSPX.excO C hp.objs.size)).get? b = some o := fun b o e0 => Heap.get?_push_of_some _ (Heap.get?_push_of_some _ e0)
    have hget : ((hp.push (PySem.W.kdv_tup [u])).push (PySem.HandSPX.excO C hp.objs.size)).get? (hp.objs.size + 1) = some (PySem.HandSPX.excO C hp.objs.size) := by heap_get
    have I2 : Inv X pins σ (upd H1 (hp.objs.size + 1) (exo (hp.objs.size + 1) C none)) ⟨(hp.push (PySem.W.kdv_tup [u])).push (PySem.HandSPX.excO C hp.objs.size), g, dr, tk, os⟩ :=
      I1.laid (t' := tk) kk hsz (exo_ok hget)
    have r2 : Vals [V.ref (hp.objs.size + 1), v] [Value.ref (hp.objs.size + 1), u] := .cons rfl (.cons rv .nil)
    have hq : spXI C fl [V.ref (hp.objs.size + 1), v] (upd H1 (hp.objs.size + 1) (exo (hp.objs.size + 1) C none)) (fun w0 H2 => w0 = .non ∧ Q (.ref (hp.objs.size + 1)) H2) (fun _ _ _ => False) := by
      refine ⟨_, v, rfl, upd_same, fun dx hd hne => ⟨rfl, ?_⟩⟩
      rw [upd2 hne]
      rw [upd_ne hne] at hd
      exact q1 _ dx hn hd hne
    have hl : [Value.ref (hp.objs.size + 1), u].length = ps.length := F1.len _ _ _ _ hq
    refine wpAny_call (mk_call hbm (I1.kIn _ _ hC) (PySem.W.looks_findIn I1.kIn iC) (fun self => PySem.W.bind_fn I1.kIn self tI) (by rw [sizeLine_eq]; show 1 ≤ 16777216; decide)
      (codeAny_mono (F1.run _ X.stack _ _ ⟨[Value.ref (hp.objs.size + 1), u], []⟩ [Value.ref (hp.objs.size + 1), u] _ _ (fun _ _ _ => False) (hr.make C [u] []) (I2.env0.make C [u] []) (hb _ [Value.ref (hp.objs.size + 1), u] I2.kIn (by rw [List.append_nil]; exact hl)) r2 hq) fun r s' hq' => ?_))
    cases r with
    | error er => exact hx pins σ _ _ er s' I2 hq'
    | ok fl =>
      cases fl with
      | ret u0 =>
        obtain ⟨v0, H2, J, rz, ez, q2⟩ := I2.after hq'
        subst ez
        exact ⟨rz, .ref (hp.objs.size + 1), H2, J, rfl, q2⟩
      | next => exact False.elim hq'
      | brk => exact False.elim hq'
      | cont => exact False.elim hq'
end
def tXI (K : PySem.W.Frag) (b : BK) (fl : Str) (tx : Str) : TS := tSeq (tDrop (tBI K b (tCons (tVar 0) (tCons (tC (.str tx)) tNil)))) (tFst K b fl (tVar 0) (tVar 1))
theorem rd_xi {K : PySem.W.Frag} {b : BK} {C : Addr} {fl tx : Str} (T : ExT K b C fl) {N : List Str} (hN : N.length = 2) {vs : List V} {H : Hp} {Q : VK} {E : XK} (h : spXI C fl vs H Q E) :
    tXI K b fl tx { nx := fun _ H' => Q .non H', rt := Q } (L2.start N vs) H := by
  obtain ⟨x, v, rfl, hx, q⟩ := h
  have es : L2.start N [.ref x, v] = [some (.ref x), some v] := by
    unfold L2.start
    rw [hN]
    rfl
  rw [es]
  exact ⟨_, rfl, x, C, _, rfl, (by show 1 ≤ 1000; decide), T.ox, hx, _, rfl, _, rfl, x, C, rfl, T.ox, T.fv, hx, fun dx h1 h2 => q dx h1 h2⟩
theorem kit_own {K : PySem.W.Frag} {C : Addr} {n : String} {b : Bool} (hm : PySem.W.kitMeta n = true) (h : PySem.W.subIn K (.ref C) (.type n) = some b) : PySem.W.kitOne K (.ref C) (.type n) = some b := by
  have e : (Value.ref C == Value.type n) = false := rfl
  unfold PySem.W.kitOne
  rw [e, if_neg Bool.false_ne_true]
  unfold PySem.W.kitCls
  simp only [hm, if_true]
  exact h
def rIsiX (K : PySem.W.Frag) : List V → Hp → VK → Prop := fun xs H Q => ∃ (x C : Addr) (d : Option Addr) (c : V) (u : Value) (b : Bool), xs = [.ref x, c] ∧ ClsV c u ∧ H x = some (exo x C d) ∧ (∀ dx, d = some dx → ∃ fs, H dx = some (exd dx fs)) ∧ ExcC K C ∧
  PySem.W.kitOne K (.ref C) u = some b ∧ Q (.bl b) H
def rIsiU (K : PySem.W.Frag) : List V → Hp → VK → Prop := fun xs H Q => rIsi K xs H Q ∨ rIsiX K xs H Q
section
variable {X : Cx}
theorem call_isiX : CallR X (.builtin "isinstance") (rIsiX X.K) := by
  intro pins s σ H xs us Q I r h
  obtain ⟨x, C, d, c, u, b, rfl, hc, hx, hd, T, e, q⟩ := h
  obtain ⟨u1, u2, rfl, r1, r2⟩ := vals2 r
  have e2 := hc.eq r2
  subst e2
  have e1 : u1 = Value.ref x := r1
  subst e1
  obtain ⟨t1, ho⟩ := exo_at I.hok hx
  have hcl : (PySem.W.clsIn X.K C).isSome = true := by
    obtain ⟨cd, h1, _⟩ := PySem.W.any_some T.hd
    rw [h1]
    rfl
  have J : ∃ od, PySem.W.InstAt s.heap x { cls := .ref C, dict := d, data := .fields #[.ref t1, .none, .none, .none, .bool false, .none] } C od := by
    cases d with
    | none => exact ⟨none, ho, rfl, rfl, trivial⟩
    | some dx =>
      obtain ⟨fs, h3⟩ := hd dx rfl
      obtain ⟨mA, ⟨o, es, ep, h4, _⟩, _⟩ := exd_at I.hok h3
      exact ⟨some o, ho, rfl, rfl, h4⟩
  obtain ⟨od, J⟩ := J
  exact PySem.W.kia_one (PySem.W.kitx_exc (od := od) hcl T.hg T.hk T.hs T.ha T.hn T.ht T.hm) I.kIn J e (fun z => nomatch z) fun tk => ⟨.bl b, H, I.tok tk, rfl, q⟩
theorem call_isiU : CallR X (.builtin "isinstance") (rIsiU X.K) := call_isi.or call_isiX
end
end CN

set_option Elab.async false
set_option linter.all false
set_option maxRecDepth 100000
set_option maxHeartbeats 4000000
namespace CN
open PySem PySem.Spec PyProof.Rows L2 Evl

def ExBx (b : Addr) (H H' : Hp) : Prop := ∀ x o, x ≠ b → H x = some o → H' x = some o
theorem ExBx.refl (b : Addr) (H : Hp) : ExBx b H H := fun _ _ _ h => h
theorem ExBx.trans {b : Addr} {H H1 H2 : Hp} (e : ExBx b H H1) (f : ExBx b H1 H2) : ExBx b H H2 := fun x o n h => f x o n (e x o n h)
theorem ExBx.ex {b : Addr} {H H1 H2 : Hp} (e : ExBx b H H1) (f : Ex H1 H2) : ExBx b H H2 := fun x o n h => f x o (e x o n h)
theorem ExBx.of {b : Addr} {H H1 : Hp} (f : Ex H H1) : ExBx b H H1 := fun x o _ h => f x o h
theorem ExBx.upd {b : Addr} {H : Hp} {o : HO} : ExBx b H (L2.upd H b o) := fun x u n h => by rw [upd_ne n]; exact h
def BoxX (H : Hp) (b : Addr) (m : Int) (xs : List V) : Prop := ∃ n r c : Int, H b = some (.lst (.int n :: .int r :: .int c :: xs)) ∧ 0 ≤ n ∧ 0 ≤ r ∧ r < 2147483629 ∧ 0 ≤ c ∧ c ≤ m
abbrev BoxAt (H : Hp) (b : Addr) (m : Int) : Prop := BoxX H b m []
theorem BoxX.mono {H : Hp} {b : Addr} {m m' : Int} {xs : List V} (h : BoxX H b m xs) (e : m ≤ m') : BoxX H b m' xs := by
  obtain ⟨n, r, c, h0, h1, h2, h3, h4, h5⟩ := h
  exact ⟨n, r, c, h0, h1, h2, h3, h4, by omega⟩
theorem ixN_0 {n : Nat} : ixN (n + 1) 0 = some 0 := by
  unfold ixN
  rw [if_pos (by decide), if_pos (by omega)]
  rfl
theorem ixN_2 {n : Nat} : ixN (n + 1 + 1 + 1) 2 = some 2 := by
  unfold ixN
  rw [if_pos (by decide), if_pos (by omega)]
  rfl
theorem at3_0 {α : Type} {x : α} {l : List α} : atI (x :: l) 0 = some x := by
  unfold atI
  rw [List.length_cons, ixN_0]
  rfl
theorem at3_1 {α : Type} {x y : α} {l : List α} : atI (x :: y :: l) 1 = some y := by
  unfold atI
  have : ixN (x :: y :: l).length 1 = some 1 := by
    unfold ixN
    rw [if_pos (by decide), if_pos (by rw [List.length_cons, List.length_cons]; omega)]
    rfl
  rw [this]
  rfl
theorem at3_2 {α : Type} {x y z : α} {l : List α} : atI (x :: y :: z :: l) 2 = some z := by
  unfold atI
  rw [List.length_cons, List.length_cons, List.length_cons, ixN_2]
  rfl
theorem BoxAt.ex {H H' : Hp} {b : Addr} {m : Int} (h : BoxAt H b m) (e : Ex H H') : BoxAt H' b m := by
  obtain ⟨n, r, c, h0, h1⟩ := h
  exact ⟨n, r, c, e _ _ h0, h1⟩
theorem BoxAt.mono {H : Hp} {b : Addr} {m m' : Int} (h : BoxAt H b m) (e : m ≤ m') : BoxAt H b m' := by
  obtain ⟨n, r, c, h0, h1, h2, h3, h4, h5⟩ := h
  exact ⟨n, r, c, h0, h1, h2, h3, h4, by omega⟩
theorem BoxAt.ne {H : Hp} {b p : Addr} {m : Int} (B : BoxAt H b m) (h : H p = none) : p ≠ b := by
  obtain ⟨n, r, c, h0, _⟩ := B
  exact (ne_of_none h0 h).symm
def spTake : Sp := fun vs H Q _ => ∃ (b : Addr) (many m : Int) (xs : List V), vs = [.ref b, .int many] ∧ BoxX H b m xs ∧ m ≤ 1099511627776 ∧ 0 < many ∧ many < 1073741824 ∧
  ∀ (d : Int) (H' : Hp), 0 ≤ d → d < many → ExBx b H H' → BoxX H' b (m + 1) xs → Q (.int d) H'
def spCell (K : PySem.W.Frag) : Sp := fun vs H Q _ => ∃ (a : Addr) (ns : List Int) (k : Nat), vs = [.ref a, .int k] ∧ SqL K H a (ns.map V.int) ∧ k ≤ 63 ∧ ∀ c : Int, Q (.int c) H
def spBox : Sp := fun vs H Q _ => ∃ c : Int, vs = [.int c] ∧ ∀ (b : Addr) (H' : Hp), H b = none → Ex H H' → BoxAt H' b 0 → Q (.ref b) H'

section
variable {K : PySem.W.Frag} {H : Hp} {Q : VK} {σ : L2.St}
theorem ix_l {b : Addr} {xs : List V} {i : Int} {v : V} (h : H b = some (.lst xs)) (e : atI xs i = some v) (q : Q v H) : rIx K (.ref b) (.int i) H Q := .inl ⟨b, xs, i, v, rfl, rfl, SqL.of h, e, q⟩
theorem ix_L {b : Addr} {xs : List V} {i : Int} {v : V} (h : SqL K H b xs) (e : atI xs i = some v) (q : Q v H) : rIx K (.ref b) (.int i) H Q := .inl ⟨b, xs, i, v, rfl, rfl, h, e, q⟩
theorem ix_T {b : Addr} {xs : List V} {i : Int} {v : V} (h : SqT K H b xs) (e : atI xs i = some v) (q : Q v H) : rIx K (.ref b) (.int i) H Q := .inr (.inl ⟨b, xs, i, v, rfl, rfl, h, e, q⟩)
theorem ix_S {z : Str} {i : Int} {c : Nat} (h : z.length ≤ sizeLine) (e : atI z.cps.toList i = some c) (q : Q (.str ⟨#[c]⟩) H) : rIx K (.str z) (.int i) H Q := .inr (.inr ⟨z, i, c, rfl, rfl, h, e, q⟩)
theorem atI_some {α : Type} {xs : List α} {i : Int} (h0 : 0 ≤ i) (h1 : i < xs.length) : ∃ v, atI xs i = some v ∧ v ∈ xs := by
  have hn : i.toNat < xs.length := by omega
  refine ⟨xs[i.toNat], ?_, List.getElem_mem hn⟩
  unfold atI ixN
  rw [if_pos h0, if_pos h1]
  show xs[i.toNat]? = _
  rw [List.getElem?_eq_getElem hn]
theorem line_ge {n : Nat} (h : n ≤ 10000000) : n ≤ sizeLine := by
  rw [sizeLine_eq]
  omega
end
end CN

set_option Elab.async false
set_option linter.all false
set_option maxRecDepth 100000
set_option maxHeartbeats 4000000
namespace CN
open PySem PySem.Spec PyProof.Rows L2 Evl

theorem str_ext {x y : Str} (h : x.cps.toList = y.cps.toList) : x = y := by
  obtain ⟨⟨a⟩⟩ := x
  obtain ⟨⟨b⟩⟩ := y
  have e : a = b := h
  rw [e]
theorem len_cps (x : Str) : x.cps.toList.length = x.length := by simp [Str.length]
def OkS (z : Str) : Prop := ∀ c ∈ z.cps.toList, c < 1114112
end CN

set_option Elab.async false
set_option linter.all false
set_option maxRecDepth 100000
set_option maxHeartbeats 4000000
namespace CN
open PySem PySem.Spec PyProof.Rows L2 Evl

structure FnG (P : Program) (w : World) (K : PySem.W.Frag) (mg : Str → Option Value) (base : Heap) (CX : CXT) (k : Nat) (f : Addr) (fd : FuncData) (ps : List Str) (sp : Sp) : Prop where
  len : ∀ vs H Q E, sp vs H Q E → vs.length = ps.length
  run : ∀ (A : Around) (outer : List Env) (s : Shared) (H : Hp) (args : Args) (us : List Value) (vs : List V) (Q : VK) (E : XK), Room k A → A.guards = some [] → Env0 P w K mg base A outer s H → BindsTo s fd args (ps.zip us) → Vals vs us → sp vs H Q E →
    codeAny (model P w) A (.call (.ref f) args) (CR CX outer P w H s Q E) s
section
variable {P : Program} {w : World} {K : PySem.W.Frag} {mg : Str → Option Value} {base : Heap} {CX : CXT} {k : Nat} {f : Addr} {fd : FuncData} {ps : List Str} {sp : Sp}
theorem FnG.of (F : FnOk P w K mg base CX k f fd ps sp) : FnG P w K mg base CX k f fd ps sp :=
  ⟨F.len, fun A outer s H args us vs Q E hr _ he hb hv hs => F.run A outer s H args us vs Q E hr he hb hv hs⟩
theorem FnG.mono {j : Nat} (F : FnG P w K mg base CX j f fd ps sp) (h : j ≤ k) : FnG P w K mg base CX k f fd ps sp :=
  ⟨F.len, fun A outer s H args us vs Q E hr hg => F.run A outer s H args us vs Q E (hr.mono h) hg⟩
theorem fn_ofG {name qual : Str} {params : Arguments} {body : List Stmt} {scope : Scope} {dV kV doc pm cdv ct oc : Value} {an od : Option Addr} {osl : Array (Option Value)} {N : List Str}
    (lk : K.lookup f = some ⟨oc, od, .func (PySem.W.fnOf name qual params body scope dV kV doc pm an cdv ct), osl⟩) (hcd : PySem.W.codeIn K cdv qual = true) (S : FnScope N ps scope) (hlen : ∀ vs H Q E, sp vs H Q E → vs.length = ps.length)
    (hbody : ∀ (A : Around) (outer : List Env) (s : Shared) (H : Hp) (vs : List V) (Q : VK) (E : XK), Room k (A.deeper (envOfC qual scope s.heap.objs.size f cdv)) → A.guards = some [] → sp vs H Q E →
      ∃ t, PSs (cxOf CX P w K mg base N qual scope f cdv A outer s H E) body t ∧ t { nx := fun _ H' => Q .non H', rt := Q } (L2.start N vs) H) :
    FnG P w K mg base CX (k + 1) f (PySem.W.fnOf name qual params body scope dV kV doc pm an cdv ct) ps sp := by
  constructor
  · exact hlen
  intro A outer s H args us vs Q E hr hgd e0 hb r hsp
  have hn := hlen _ _ _ _ hsp
  have keep0 : ∀ b o, base.get? b = some o → s.heap.get? b = some o := fun b o e => (e0.bs b o e).1
  have KX : K.In s.heap := e0.mod.kin.keeps keep0
  have hlim : s.heap.NoLimit := e0.mod.nolimit.keeps keep0
  have hkinds : ∀ y ∈ ps.zip us, scope.names.lookup y.1 = some .local ∨ (scope.names.lookup y.1 = some .cell ∧ ((cellsFrom (s.heap.objs.size + 1) scope.names []).lookup y.1).isSome = true) := by
    rintro ⟨n, v⟩ hy
    rcases S.par n (List.of_mem_zip hy).1 with q | q
    · exact Or.inl q
    · exact Or.inr ⟨q, PySem.W.cellsFrom_some _ _ _ (Or.inl q)⟩
  refine codeAny_call_function hr.depth (KX _ _ lk) rfl S.co S.gen rfl (PySem.W.codeRec_of KX hcd) (hb _ _ _ _ ?_)
  refine wpAny_newFunctionEnv_cells S.kind hkinds fun env henv s1 x => ?_
  subst henv
  refine ⟨hlim.keeps x.toInCall.keep, codeAny_func ?_⟩
  obtain ⟨t, ht, hq⟩ := hbody A outer s H vs Q E (hr.deeper _) hgd hsp
  have J0 : Inv (cxOf CX P w K mg base N qual scope f cdv A outer s H E) [] (L2.start N vs) H s1 := inv_start S hr.hd e0 hn r x
  refine wpAny_mono (ht.run [] s1 _ H _ J0 hq) (fun fl s' hs => ?_) (fun e s' hs => hs)
  cases fl with
  | ret u =>
    obtain ⟨v, σ', H', J, rv, q⟩ := hs
    exact ⟨v, H', J.os, J.bare, J.base, J.hok, rv, q⟩
  | next =>
    obtain ⟨σ', H', J, q⟩ := hs
    exact ⟨V.non, H', J.os, J.bare, J.base, J.hok, rfl, q⟩
  | brk =>
    obtain ⟨_, _, _, q⟩ := hs
    exact q.elim
  | cont =>
    obtain ⟨_, _, _, q⟩ := hs
    exact q.elim
theorem Fun.okG {x qual : Str} {st : Stmt} {N : List Str} (F : Fun K x qual st f fd) (S : FnScope N ps (defScope st)) (hlen : ∀ vs H Q E, sp vs H Q E → vs.length = ps.length)
    (hbody : ∀ (cdv : Value) (A : Around) (outer : List Env) (s : Shared) (H : Hp) (vs : List V) (Q : VK) (E : XK), Room k (A.deeper (envOfC qual (defScope st) s.heap.objs.size f cdv)) → A.guards = some [] → sp vs H Q E →
      ∃ t, PSs (cxOf CX0 P w K mg base N qual (defScope st) f cdv A outer s H E).nox (defBody st) t ∧ t { nx := fun _ H' => Q .non H', rt := Q } (L2.start N vs) H) : FnG P w K mg base CX0 (k + 1) f fd ps sp := by
  obtain ⟨oc, od, kV, doc, pm, an, cdv, ct, osl, rfl, lk, hcd⟩ := F.ex
  refine fn_ofG lk hcd S hlen fun A outer s H vs Q E hr hg hsp => ?_
  obtain ⟨t, h, q⟩ := hbody cdv A outer s H vs Q E hr hg hsp
  exact ⟨t, h.nox, q⟩
end
section
variable {X : Cx} {CX : CXT} {k : Nat} {f : Addr} {fd : FuncData} {ps : List Str} {sp : Sp} {dvs : List V} {ds : List Value} {E : XK} {x : Str} {p pos : Pos} {e : Expr} {es : List Expr} {t : TA}
end

end CN

set_option Elab.async false
set_option linter.all false
set_option maxRecDepth 100000
set_option maxHeartbeats 4000000
namespace CN
open PySem PySem.Spec PyProof.Rows L2 Evl

section
variable {X : Cx}
theorem room200 {k : Nat} {A : Around} (r : Room k A) : A.units + 200 < cLine := by
  have := r.un
  omega
end
section
variable {X : Cx}
end
end CN

set_option Elab.async false
set_option linter.all false
set_option maxRecDepth 100000
set_option maxHeartbeats 4000000
namespace CN
open PySem PySem.Spec PyProof.Rows L2 Evl

def NotI (K : PySem.W.Frag) (H : Hp) (v : V) (n : String) : Prop := ∀ (H' : Hp) (Q : VK), Ex H H' → Q (.bl false) H' → rIsiU K [v, .ty n] H' Q
section
variable {K : PySem.W.Frag} {H H1 : Hp} {Q : VK} {v : V} {m n : String} {b : Bool}
theorem isi_ty (ty : TyX K H v (.type m)) (h : kitB m n = some b) (q : Q (.bl b) H) : rIsiU K [v, .ty n] H Q := .inl ⟨v, .ty n, .type m, .type n, b, rfl, .ty n, ty, kit_ty h, q⟩
theorem NotI.ex (h : NotI K H v n) (e : Ex H H1) : NotI K H1 v n := fun H' Q e' q => h H' Q (e.trans e') q
end
theorem numL_len : ∀ (k n : Nat), n < 10 ^ (k + 1) → (TL.numL n).length ≤ k + 1
  | 0, n, h => by
    rw [TL.numL_lt (by omega)]
    exact Nat.le_refl _
  | k + 1, n, h => by
    by_cases h10 : n < 10
    · rw [TL.numL_lt h10]
      show 1 ≤ _
      omega
    · rw [TL.numL_step (by omega), List.length_append]
      have h2 : n / 10 < 10 ^ (k + 1) := by
        rw [Nat.div_lt_iff_lt_mul (by decide)]
        rw [Nat.pow_succ] at h
        exact h
      have := numL_len k (n / 10) h2
      show _ + 1 ≤ _
      omega
theorem str_int_cps {i : Int} (h : 0 ≤ i) : (Str.ofString (toString i)).cps.toList = TL.numL i.toNat := by
  obtain ⟨n, rfl⟩ := Int.eq_ofNat_of_zero_le h
  exact TL.tl_num n
theorem str_int_len {i : Int} {k : Nat} (h : 0 ≤ i) (h2 : i < 10 ^ (k + 1)) : (Str.ofString (toString i)).length ≤ k + 1 := by
  rw [← len_cps, str_int_cps h]
  refine numL_len k _ ?_
  have e : ((10 : Int) ^ (k + 1)) = (((10 ^ (k + 1) : Nat)) : Int) := by
    push_cast
    rfl
  omega
end CN

set_option Elab.async false
set_option linter.all false
set_option maxRecDepth 100000
set_option maxHeartbeats 4000000
namespace CN
open PySem PySem.Spec PyProof.Rows L2 Evl

section
variable {X : Cx} {CX : CXT} {k n m : Nat} {f : Addr} {fd : FuncData} {ps ks : List Str} {sp : Sp} {E : XK} {x : Str} {p pos : Pos} {e : Expr} {es : List Expr} {kws : List Keyword} {t tk : TA} {g : List Value → List Value → List Value} {gV : List V → List V → List V}
end
end CN

set_option Elab.async false
set_option linter.all false
set_option maxRecDepth 100000
set_option maxHeartbeats 4000000
namespace CN
open PySem PySem.Spec PyProof.Rows L2 Evl

def anT (K : PySem.W.Frag) (xs : List V) (H : Hp) (Q : VK) : Prop := ∀ p H', Ex H H' → SqT K H' p xs → Q (.ref p) H'
theorem anT.new {K : PySem.W.Frag} {xs : List V} {H : Hp} {Q : VK} (h : anT K xs H Q) : nwT xs H Q := fun p H' _ e hp => h p H' e (SqT.of hp)
theorem anT.here {K : PySem.W.Frag} {xs : List V} {H : Hp} {Q : VK} {p : Addr} (h : anT K xs H Q) (hp : SqT K H p xs) : Q (.ref p) H := h p H (Ex.refl H) hp
def rCatW (K : PySem.W.Frag) : R2 := fun x y H Q => ∃ a b xs ys, x = .ref a ∧ y = .ref b ∧ SqT K H a xs ∧ SqT K H b ys ∧ xs.length + ys.length ≤ sizeLine ∧ (xs = [] → Q (.ref b) H) ∧ (ys = [] → Q (.ref a) H) ∧ nwT (xs ++ ys) H Q
def rAddW (K : PySem.W.Frag) : R2 := fun x y H Q => match x, y with
  | .int i, .int j => Q (.int (i + j)) H
  | .str a, .str b => a.length + b.length ≤ sizeLine ∧ Q (.str (a ++ b)) H
  | .ref _, .ref _ => rCatG x y H Q ∨ rCatW K x y H Q
  | _, _ => False
def repS (z : Str) (k : Int) : Str := ⟨(List.replicate k.toNat z.cps).foldl (· ++ ·) #[]⟩
def rMulW (K : PySem.W.Frag) : R2 := fun x y H Q => match x, y with
  | .int i, .int j => CMul i j ∧ Q (.int (i * j)) H
  | .str z, .int k => 0 ≤ k ∧ k ≤ 1000 ∧ z.length ≤ 1000 ∧ Q (.str (repS z k)) H
  | .ref _, .int _ => rRepG x y H Q ∨ (∃ l k xs, x = .ref l ∧ y = .int k ∧ SqT K H l xs ∧ xs ≠ [] ∧ 2 ≤ k ∧ k ≤ 1000 ∧ xs.length ≤ 1000 ∧ nwT (List.replicate k.toNat xs).flatten H Q)
  | _, _ => False
section
variable {X : Cx}
theorem op_addW : OpR X (binaryOp .Add) (rAddW X.K) := by
  intro pins s σ H x y v u Q I rx ry h
  unfold rAddW at h
  split at h
  · exact op_add pins s σ H _ _ v u Q I rx ry ⟨_, _, rfl, rfl, h⟩
  · exact op_add_str pins s σ H _ _ v u Q I rx ry ⟨_, _, rfl, rfl, h.1, h.2⟩
  · rcases h with h | h
    · obtain ⟨l, b, xs, zs, e1, e2, h1, h2, h3, h4⟩ := h
      exact op_cat pins s σ H _ _ v u Q I rx ry ⟨l, b, xs, zs, e1, e2, h1, h2, h3, fun p hp => h4.up hp⟩
    · obtain ⟨l, b, xs, ys, e1, e2, h1, h2, hz, h3, h4, h5⟩ := h
      exact op_catA pins s σ H _ _ v u Q I rx ry ⟨l, b, xs, ys, e1, e2, h1, h2, hz, h3, fun _ => h4, fun _ _ p hp => h5.up hp⟩
  · exact h.elim
theorem op_strTimes : OpR X (binaryOp .Mult) (fun x y H Q => ∃ z k, x = .str z ∧ y = .int k ∧ 0 ≤ k ∧ k ≤ 1000 ∧ z.length ≤ 1000 ∧ Q (.str (repS z k)) H) := by
  intro pins s σ H x y v u Q I rx ry h
  obtain ⟨z, k, rfl, rfl, h0, h1, h2, q⟩ := h
  obtain ⟨t, rfl⟩ := rx
  obtain ⟨t', rfl⟩ := ry
  have hr : (decide (k < -(2 ^ 63 : Int)) || decide (k ≥ 2 ^ 63)) = false := by
    rw [decide_eq_false (by omega), decide_eq_false (by omega)]
    rfl
  have hm : z.length * k.toNat ≤ 1000 * 1000 := Nat.mul_le_mul h2 (by omega)
  have hsz : (repS z k).length ≤ sizeLine ∧ (repS z k).cps.toList.length = z.length * k.toNat := by
    have e : ∀ (n : Nat) (acc : Array Nat), ((List.replicate n z.cps).foldl (· ++ ·) acc).size = acc.size + z.cps.size * n := by
      intro n
      induction n with
      | zero => intro acc; rfl
      | succ n ih =>
        intro acc
        rw [List.replicate_succ, List.foldl_cons, ih, Array.size_append, Nat.mul_succ]
        omega
    have e2 : (repS z k).cps.size = z.length * k.toNat := by
      unfold repS
      rw [e]
      show 0 + z.cps.size * k.toNat = _
      rw [Nat.zero_add]
      rfl
    refine ⟨?_, by rw [Array.length_toList]; exact e2⟩
    show (repS z k).cps.size ≤ _
    rw [e2]
    exact line_ge (by omega)
  refine PySem.P.mul_str hr ?_ ?_ ?_
  · intro a1 a2 a3
    have : (1000 : Int) ≤ (2 ^ 63 - 1) / k := by
      rw [Int.le_ediv_iff_mul_le (by omega)]
      have : (1000 : Int) * k ≤ 1000 * 1000 := Int.mul_le_mul_of_nonneg_left h1 (by decide)
      omega
    omega
  · intro _ _
    exact decide_eq_false (by rw [sizeLine_eq]; omega)
  · by_cases c1 : k < 1
    · have e : k = 0 := by omega
      subst e
      rw [if_pos (by decide)]
      exact ⟨by decide, .str (repS z 0), H, I.tok _, ⟨s.toks, rfl⟩, q⟩
    · rw [if_neg c1]
      by_cases c2 : (k == 1 || z.length == 0) = true
      · rw [if_pos c2]
        refine ⟨.str (repS z k), H, I, ⟨t, ?_⟩, q⟩
        have e : repS z k = z := by
          rcases Bool.or_eq_true _ _ |>.mp c2 with e | e
          · have e' : k = 1 := eq_of_beq e
            subst e'
            unfold repS
            simp
          · have e' : z.length = 0 := eq_of_beq e
            apply str_ext
            have n1 : (repS z k).cps.toList = [] := List.eq_nil_of_length_eq_zero (by rw [hsz.2, e', Nat.zero_mul])
            have n2 : z.cps.toList = [] := List.eq_nil_of_length_eq_zero (by rw [len_cps, e'])
            rw [n1, n2]
        rw [e]
      · rw [if_neg c2]
        exact ⟨hsz.1, .str (repS z k), H, I.tok _, ⟨_, rfl⟩, q⟩
theorem op_mulW : OpR X (binaryOp .Mult) (rMulW X.K) := by
  intro pins s σ H x y v u Q I rx ry h
  unfold rMulW at h
  split at h
  · exact op_mul pins s σ H _ _ v u Q I rx ry ⟨_, _, rfl, rfl, h.1, h.2⟩
  · exact op_strTimes pins s σ H _ _ v u Q I rx ry ⟨_, _, rfl, rfl, h⟩
  · rcases h with h | h
    · obtain ⟨l, k, xs, e1, e2, h1, h2, h3, h4, h5⟩ := h
      exact op_rep pins s σ H _ _ v u Q I rx ry ⟨l, k, xs, e1, e2, h1, h2, h3, h4, fun p hp => h5.up hp⟩
    · obtain ⟨l, k, xs, e1, e2, h1, h2, h3, h4, h5, h6⟩ := h
      exact op_repT pins s σ H _ _ v u Q I rx ry ⟨l, k, xs, e1, e2, h1, h2, h3, h4, h5, fun p hp => h6.up hp⟩
  · exact h.elim
end
section
variable {X : Cx} {e ek : Expr} {te tk : TE} {pos p2 : Pos} {st : Int}
end
section
variable {prog : Program} {w : World} {A : Around} {E : Value → Shared → Prop} {s : Shared}
end
section
variable {X : Cx}
end
end CN

set_option Elab.async false
set_option linter.all false
set_option maxRecDepth 100000
set_option maxHeartbeats 4000000
namespace CN
open PySem PySem.Spec PyProof.Rows L2 Evl

def keyD : Key → PyData
  | .inl i => .int i
  | .inr x => .str x
mutual
inductive Da (K : PySem.W.Frag) (H : Hp) : V → PyData → Prop
  | non : Da K H .non .none
  | bl (b : Bool) : Da K H (.bl b) (.bool b)
  | int (i : Int) : Da K H (.int i) (.int i)
  | str (x : Str) : Da K H (.str x) (.str x)
  | lst {a : Addr} {xs : List V} {ds : List PyData} : H a = some (.lst xs) → DaAll K H xs ds → Da K H (.ref a) (.list ds)
  | tup {a : Addr} {xs : List V} {ds : List PyData} : SqT K H a xs → DaAll K H xs ds → Da K H (.ref a) (.tuple ds)
  | dct {a : Addr} {kvs : List (Key × V)} {ds : List (PyData × PyData)} : H a = some (.dK kvs) → DaKv K H kvs ds → Da K H (.ref a) (.dict ds)
inductive DaAll (K : PySem.W.Frag) (H : Hp) : List V → List PyData → Prop
  | nil : DaAll K H [] []
  | cons {v : V} {vs : List V} {d : PyData} {ds : List PyData} : Da K H v d → DaAll K H vs ds → DaAll K H (v :: vs) (d :: ds)
inductive DaKv (K : PySem.W.Frag) (H : Hp) : List (Key × V) → List (PyData × PyData) → Prop
  | nil : DaKv K H [] []
  | cons {k : Key} {v : V} {vs : List (Key × V)} {d : PyData} {ds : List (PyData × PyData)} : Da K H v d → DaKv K H vs ds → DaKv K H ((k, v) :: vs) ((keyD k, d) :: ds)
end
section
variable {K : PySem.W.Frag} {H H' : Hp}
mutual
theorem Da.ex (e : Ex H H') : ∀ {d : PyData} {v : V}, Da K H v d → Da K H' v d
  | _, _, .non => .non
  | _, _, .bl b => .bl b
  | _, _, .int i => .int i
  | _, _, .str x => .str x
  | _, _, .lst h hs => .lst (e _ _ h) (DaAll.ex e hs)
  | _, _, .tup h hs => .tup (ex_t e h) (DaAll.ex e hs)
  | _, _, .dct h hs => .dct (e _ _ h) (DaKv.ex e hs)
theorem DaAll.ex (e : Ex H H') : ∀ {ds : List PyData} {vs : List V}, DaAll K H vs ds → DaAll K H' vs ds
  | _, _, .nil => .nil
  | _, _, .cons h hs => .cons (Da.ex e h) (DaAll.ex e hs)
theorem DaKv.ex (e : Ex H H') : ∀ {ds : List (PyData × PyData)} {vs : List (Key × V)}, DaKv K H vs ds → DaKv K H' vs ds
  | _, _, .nil => .nil
  | _, _, .cons h hs => .cons (Da.ex e h) (DaKv.ex e hs)
end
theorem DaAll.length : ∀ {vs : List V} {ds : List PyData}, DaAll K H vs ds → vs.length = ds.length
  | _, _, .nil => rfl
  | _, _, .cons _ h => congrArg Nat.succ h.length
theorem DaAll.append : ∀ {vs ws : List V} {ds es : List PyData}, DaAll K H vs ds → DaAll K H ws es → DaAll K H (vs ++ ws) (ds ++ es)
  | _, _, _, _, .nil, h => h
  | _, _, _, _, .cons a b, h => .cons a (b.append h)
theorem DaAll.get : ∀ {vs : List V} {ds : List PyData} (i : Nat) {d : PyData}, DaAll K H vs ds → ds[i]? = some d → ∃ v, vs[i]? = some v ∧ Da K H v d
  | _, _, _, _, .nil, e => by cases e
  | _, _, 0, _, .cons a b, e => by
    cases e
    exact ⟨_, rfl, a⟩
  | _, _, i + 1, _, .cons a b, e => by
    obtain ⟨v, e1, e2⟩ := DaAll.get i b e
    exact ⟨v, e1, e2⟩
theorem DaAll.getV : ∀ {vs : List V} {ds : List PyData} (i : Nat) {v : V}, DaAll K H vs ds → vs[i]? = some v → ∃ d, ds[i]? = some d ∧ Da K H v d
  | _, _, _, _, .nil, e => by cases e
  | _, _, 0, _, .cons a b, e => by
    cases e
    exact ⟨_, rfl, a⟩
  | _, _, i + 1, _, .cons a b, e => by
    obtain ⟨v, e1, e2⟩ := DaAll.getV i b e
    exact ⟨v, e1, e2⟩
theorem DaAll.drop : ∀ (n : Nat) {vs : List V} {ds : List PyData}, DaAll K H vs ds → DaAll K H (vs.drop n) (ds.drop n)
  | 0, _, _, h => h
  | _ + 1, _, _, .nil => .nil
  | n + 1, _, _, .cons _ b => DaAll.drop n b
theorem DaAll.take : ∀ (n : Nat) {vs : List V} {ds : List PyData}, DaAll K H vs ds → DaAll K H (vs.take n) (ds.take n)
  | 0, _, _, h => .nil
  | _ + 1, _, _, .nil => .nil
  | n + 1, _, _, .cons a b => .cons a (DaAll.take n b)
def cutD (ds : List PyData) (lo hi : Option Int) : List PyData := (ds.drop (HT.sIx ds.length 0 lo)).take (HT.sIx ds.length ds.length hi - HT.sIx ds.length 0 lo)
mutual
theorem dp_of : ∀ {d : PyData} {v : V}, Da K H v d → d.hasDict = false → Dp K H v d
  | _, _, .non, _ => .non
  | _, _, .bl b, _ => .bl b
  | _, _, .int i, _ => .int i
  | _, _, .str x, _ => .str x
  | _, _, .lst h hs, e => .lst (SqL.of h) (dp_all hs e)
  | _, _, .tup h hs, e => .tup h (dp_all hs e)
  | _, _, .dct h hs, e => by cases e
theorem dp_all : ∀ {ds : List PyData} {vs : List V}, DaAll K H vs ds → PyData.hasDictAll ds = false → DpAll K H vs ds
  | _, _, .nil, _ => .nil
  | _, _, .cons h hs, e => by
    have e' : (PyData.hasDict _ || PyData.hasDictAll _) = false := e
    rw [Bool.or_eq_false_iff] at e'
    exact .cons (dp_of h e'.1) (dp_all hs e'.2)
end
def tyD : PyData → String
  | .none => "NoneType"
  | .bool _ => "bool"
  | .int _ => "int"
  | .str _ => "str"
  | .list _ => "list"
  | .tuple _ => "tuple"
  | .dict _ => "dict"
theorem da_ty {d : PyData} {v : V} (h : Da K H v d) : TyX K H v (.type (tyD d)) := by
  cases h with
  | non => exact .base .non
  | bl b => exact .base (.bl b)
  | int i => exact .base (.int i)
  | str x => exact .base (.str x)
  | lst h _ => exact .base (.lst h)
  | tup h _ =>
    rcases h with h | ⟨o, its, n, h1, h2, _⟩
    · rcases h with h | ⟨o, h⟩
      · exact .base (.tup h)
      · exact .fTuple h
    · exact .kTuple h1 h2
  | dct h _ => exact .base (.dK h)
theorem da_isi {d : PyData} {v : V} {n : String} {b : Bool} {Q : VK} (h : Da K H v d) (hb : kitB (tyD d) n = some b) (q : Q (.bl b) H) : rIsiU K [v, .ty n] H Q := isi_ty (da_ty h) hb q
end
section
variable {b : Addr} {H H' : Hp}
end
section
variable {X : Cx} {pins : List (Addr × Obj)} {σ : L2.St} {H : Hp} {s : Shared}
def SysIn (base : Heap) : Prop := ∃ m, base.Ns sysModules m
theorem key_reads {k : Key} {u : Value} {h : Heap} (e : keyIs k u = true) : Reads h u (keyD k) [] := by
  rcases keyIs_shape e with ⟨i, t, rfl, rfl⟩ | ⟨x, t, rfl, rfl⟩
  · exact .int i t
  · exact .str x t
theorem not_sys (hsy : SysIn X.base) (I : L2.Inv X pins σ H s) {a : Addr} {o : Obj} {vs : Array Value} {n : Nat} (h : s.heap.get? a = some o) (hd : o.data = .seq vs n) : sysModules ≠ a := by
  rintro rfl
  obtain ⟨m, o', es, ep, e1, e2, _⟩ := hsy
  have e3 := (I.env0.bs _ _ e1).1
  rw [h] at e3
  cases e3
  rw [hd] at e2
  cases e2
theorem kv_reads {P : Program} {w : World} : ∀ {kvs : List (Key × V)} {vs : List (Key × Value)} {es : List DictEntry}, KV kvs vs → Pairs (mixKind P w) es vs →
    ReadsAll s.heap (es.map (·.key)) (kvs.map fun p => keyD p.1) [] ∧ Vals (kvs.map (·.2)) (es.map (·.val)) := by
  intro kvs vs es h1 h2
  induction h1 generalizing es with
  | nil =>
    cases h2
    exact ⟨.nil, .nil⟩
  | cons a b ih =>
    cases h2 with
    | cons c d f =>
      obtain ⟨i1, i2⟩ := ih f
      refine ⟨ReadsAll.cons (as := []) (bs := []) (key_reads ?_) i1, .cons ?_ i2⟩
      · rw [a.1]
        exact c
      · have e := a.2
        rw [← d] at e
        exact e
theorem DaKv.keys {K : PySem.W.Frag} : ∀ {kvs : List (Key × V)} {ds : List (PyData × PyData)}, DaKv K H kvs ds → (kvs.map fun p => keyD p.1) = ds.map (·.1)
  | _, _, .nil => rfl
  | _, _, .cons _ h => by rw [List.map_cons, List.map_cons, DaKv.keys h]
mutual
theorem Da.reads (hsy : SysIn X.base) (I : L2.Inv X pins σ H s) : ∀ {d : PyData} {v : V} {u : Value}, Da X.K H v d → L2.RelV v u → ∃ as, Reads s.heap u d as ∧ sysModules ∉ as
  | _, _, _, .non, r => by
    cases r
    exact ⟨_, Reads.none, by simp⟩
  | _, _, _, .bl b, r => by
    cases r
    exact ⟨_, Reads.bool b, by simp⟩
  | _, _, _, .int i, r => by
    obtain ⟨t, rfl⟩ := r
    exact ⟨_, Reads.int i t, by simp⟩
  | _, _, _, .str x, r => by
    obtain ⟨t, rfl⟩ := r
    exact ⟨_, Reads.str x t, by simp⟩
  | _, _, _, .lst h hs, r => by
    cases r
    obtain ⟨its, rv, ⟨o, n, ho, hc, _, hd⟩, _⟩ := I.list (SqL.of h)
    obtain ⟨as, hr, hn⟩ := DaAll.reads hsy I hs rv
    refine ⟨_, Reads.list ho hc hd hr, fun hm => ?_⟩
    rcases List.mem_cons.mp hm with e | e
    · exact not_sys hsy I ho hd e
    · exact hn e
  | _, _, _, .tup h hs, r => by
    cases r
    obtain ⟨its, rv, ⟨o, ho, hc, n, hd⟩, _⟩ := I.tuple h
    obtain ⟨as, hr, hn⟩ := DaAll.reads hsy I hs rv
    exact ⟨_, Reads.tuple ho hc hd hr, hn⟩
  | _, _, _, .dct h hs, r => by
    cases r
    obtain ⟨_, hsm, vs, hkv, o, es, ep, ho, hx, hd, _, hp, _⟩ := I.hok _ _ h
    obtain ⟨k1, k2⟩ := kv_reads (s := s) hkv hp
    obtain ⟨as, hr, hn⟩ := DaKv.reads hsy I hs k2
    have ek : _ = _ := DaKv.keys hs
    rw [ek] at k1
    refine ⟨_, Reads.dict ho hx.1 hd k1 hr, fun hm => ?_⟩
    rcases List.mem_cons.mp hm with e | e
    · rw [← e] at hsm
      exact absurd hsm (by decide)
    · exact hn e
theorem DaAll.reads (hsy : SysIn X.base) (I : L2.Inv X pins σ H s) : ∀ {ds : List PyData} {vs : List V} {us : List Value}, DaAll X.K H vs ds → Vals vs us → ∃ as, ReadsAll s.heap us ds as ∧ sysModules ∉ as
  | _, _, _, .nil, r => by
    cases r
    exact ⟨_, ReadsAll.nil, by simp⟩
  | _, _, _, .cons h hs, .cons r rs => by
    obtain ⟨as, h1, h2⟩ := Da.reads hsy I h r
    obtain ⟨bs, h3, h4⟩ := DaAll.reads hsy I hs rs
    exact ⟨_, ReadsAll.cons h1 h3, fun hm => (List.mem_append.mp hm).elim h2 h4⟩
theorem DaKv.reads (hsy : SysIn X.base) (I : L2.Inv X pins σ H s) : ∀ {ds : List (PyData × PyData)} {vs : List (Key × V)} {us : List Value}, DaKv X.K H vs ds → Vals (vs.map (·.2)) us → ∃ as, ReadsAll s.heap us (ds.map (·.2)) as ∧ sysModules ∉ as
  | _, _, _, .nil, r => by
    cases r
    exact ⟨_, ReadsAll.nil, by simp⟩
  | _, _, _, .cons h hs, .cons r rs => by
    obtain ⟨as, h1, h2⟩ := Da.reads hsy I h r
    obtain ⟨bs, h3, h4⟩ := DaKv.reads hsy I hs rs
    exact ⟨_, ReadsAll.cons h1 h3, fun hm => (List.mem_append.mp hm).elim h2 h4⟩
end
end
def rReprA (K : PySem.W.Frag) : List V → Hp → VK → Prop := fun xs H Q => ∃ (v : V) (d : PyData), xs = [v] ∧ Da K H v d ∧ d.showable = true ∧ d.depth ≤ 190 ∧ d.shown.length ≤ sizeLine ∧ Q (.str d.shown) H
section
variable {X : Cx}
theorem call_reprA (hsy : SysIn X.base) (hgd : X.A.guards = some []) (hu : X.A.units + 200 < cLine) : CallR X (.builtin "repr") (rReprA X.K) := by
  intro pins s σ H xs us Q I r h
  obtain ⟨v, d, rfl, hd, hs, hz, hl, q⟩ := h
  obtain ⟨u, rfl, rx⟩ := vals1 r
  have fin : ∀ tk tk', EP X pins σ Q (.str d.shown tk) { s with toks := tk' } := fun tk tk' => ⟨.str d.shown, H, I.tok _, ⟨_, rfl⟩, q⟩
  obtain ⟨as, rd, hn⟩ := Da.reads hsy I hd rx
  have deep : ∀ {a : Addr}, u = .ref a → wpAny (model X.prog X.w) X.A (call (.builtin "repr") [u]) (EP X pins σ Q) X.xe s := by
    rintro a rfl
    refine repr_of_reads' rd hs (fun _ => hn) hgd (by omega) (fun b o e => e) (fun h' u' tk hk => ?_) hl
    exact ⟨.str _, H, I.kept (t' := tk) hk, ⟨_, rfl⟩, q⟩
  cases hd with
  | non =>
    cases rx
    exact PySem.P.repr_of_none (fin _ _)
  | bl b =>
    cases rx
    exact PySem.P.repr_of_bool (fin _ _)
  | int i =>
    obtain ⟨t, rfl⟩ := rx
    exact PySem.P.repr_of_int (of_decide_eq_true hs) (fin _ _)
  | str z =>
    obtain ⟨t, rfl⟩ := rx
    exact PySem.P.repr_of_str (fin _ _) hl
  | lst h1 h2 => exact deep rx
  | tup h1 h2 => exact deep rx
  | dct h1 h2 => exact deep rx
end
theorem rep_A {K : PySem.W.Frag} {H : Hp} {Q : VK} {v : V} {d : PyData} (h : Da K H v d) (hs : d.showable = true) (hz : d.depth ≤ 190) (hl : d.shown.length ≤ sizeLine) (q : Q (.str d.shown) H) : rReprA K [v] H Q := ⟨v, d, rfl, h, hs, hz, hl, q⟩
theorem law_callS {P : Program} {w : World} {K : PySem.W.Frag} {mg mb : Str → Option Value} {k : Nat} {fa a : Addr} {fd : FuncData} {x : Str} {sp : Sp} {z : Shared} {vs : List Value} {ns : List Int}
    (KX : K.In z.heap) (hns : z.heap.Ns mainGlobals mg) (hb : z.heap.Ns builtinsNs mb) (hbb : ∀ x : Str, x ≠ "__name__" → mb x = bootBuiltins x) (hlim : z.heap.NoLimit) (hsz : SysIn z.heap) (hg : z.gens = #[])
    (ha : z.heap.get? a = some { cls := .type "list", data := .seq vs.toArray }) (hi : IntsAre vs ns) (hl : ns.length ≤ sizeLine) (hr : Room k callerA)
    (F : ∀ base : Heap, K.In base → base.Ns mainGlobals mg → SysIn base → FnG P w K mg base CX0 k fa fd [x] sp) (hbind : ∀ (s : Shared) (u : Value), BindsTo s fd ⟨[u], []⟩ [(x, u)])
    (hsp : ∀ H : Hp, Only H → SqL K H a (ns.map V.int) → sp [.ref a] H (fun v _ => v = .bl true) fun _ _ _ => False) :
    codeAny (model P w) callerA (.call (.ref fa) ⟨[.ref a], []⟩) (fun r s' => r = .ok (.ret (.bool true)) ∧ OldK z.heap s'.heap ∧ s'.os = z.os ∧ AllBare s'.gens) z := by
  have rv := vals_ints hi
  have lenV := hi.length
  suffices main : ∃ H : Hp, Only H ∧ SqL K H a (ns.map V.int) ∧ HOk P w H z.heap ∧ (∀ b, H b ≠ none → b = a) ∧ (H a ≠ none → K.lookup a = none) by
    obtain ⟨H, hO, hS, hok, hA, hK⟩ := main
    have isA : ∀ {b : Addr} {u : HO}, H b = some u → b = a := fun {b u} q => hA b (fun n => by rw [q] at n; cases n)
    have free : ∀ {b : Addr}, b ≠ a → H b = none := fun {b} n => by
      cases q : H b with
      | none => rfl
      | some u => exact absurd (isA q) n
    have nsK : ∀ {b : Addr} {m : Str → Option Value}, z.heap.Ns b m → (hidT z.heap H).Ns b m := by
      rintro b m ⟨o, es, ep, e, d, r⟩
      refine ⟨o, es, ep, hidT_get e (free ?_), d, r⟩
      intro q
      subst q
      rw [ha] at e
      cases e
      cases d
    have hKb : K.In (hidT z.heap H) := by
      intro b o e
      refine hidT_get (KX b o e) ?_
      cases q : H b with
      | none => rfl
      | some u =>
        have q2 := isA q
        subst q2
        rw [hK (fun n => by rw [q] at n; cases n)] at e
        cases e
    obtain ⟨mc, c1, c2⟩ := hlim
    have hS2 : SysIn (hidT z.heap H) := by
      obtain ⟨m, hm⟩ := hsz
      exact ⟨m, nsK hm⟩
    have hM : Mod K mg (hidT z.heap H) := ⟨hKb, nsK hns, ⟨mb, nsK hb, hbb⟩, ⟨mc, nsK c1, c2⟩⟩
    have nil0 : ∀ b : Addr, b ∉ ([] : List Addr) := fun b q => by cases q
    have e0 : Env0 P w K mg (hidT z.heap H) callerA [] z H := ⟨rfl, hM, fun b o e => of_hidT e, Nat.le_of_eq (hidT_size _ _), trivial, fun b q => absurd q (nil0 b), hok, .of_eq hg⟩
    have go := (F _ hKb (nsK hns) hS2).run callerA [] z H ⟨[.ref a], []⟩ [.ref a] [.ref a] _ _ hr rfl e0 (hbind z (.ref a)) (.cons rfl .nil) (hsp H hO hS)
    refine codeAny_mono go fun r s' h => ?_
    cases r with
    | error e => exact False.elim h
    | ok fl =>
      cases fl with
      | next => exact False.elim h
      | brk => exact False.elim h
      | cont => exact False.elim h
      | ret u =>
        obtain ⟨v, H', hos, bare, un, hok', r', q⟩ := h
        have q2 : v = .bl true := q
        subst q2
        have r2 : u = Value.bool true := r'
        subst r2
        refine ⟨rfl, OldK.of_keep fun b o e => ?_, hos, bare⟩
        cases hb2 : H b with
        | none => exact un.keep b o e hb2 (nil0 b) (nil0 b)
        | some u2 =>
          rcases hO b with y | ⟨ob, xs, y⟩
          · rw [hb2] at y
            cases y
          · have y2 := un.frzs b ob _ y
            have y3 := (hok b _ y).1
            have y4 := (hok' b _ y2).1
            rw [e] at y3
            rw [y4, ← y3]
  cases hk : K.lookup a with
  | some o =>
    have e := KX a o hk
    rw [ha] at e
    cases e
    refine ⟨fun _ => none, fun _ => .inl rfl, .inr ⟨_, vs.toArray, _, hk, rfl, rfl, rfl, ?_, by simpa using rv⟩, fun b u y => (nomatch y), fun b y => absurd rfl y, fun y => absurd rfl y⟩
    rw [List.size_toArray, lenV]
    exact hl
  | none =>
    have here : ∀ b u, (fun b => if b = a then some (HO.frz { cls := .type "list", data := .seq vs.toArray } (.lst (ns.map V.int))) else none) b = some u → b = a ∧ u = HO.frz { cls := .type "list", data := .seq vs.toArray } (.lst (ns.map V.int)) := by
      intro b u y
      by_cases hba : b = a
      · have y2 := (if_pos hba).symm.trans y
        exact ⟨hba, (Option.some.inj y2).symm⟩
      · have y2 := (if_neg hba).symm.trans y
        cases y2
    refine ⟨fun b => if b = a then some (HO.frz { cls := .type "list", data := .seq vs.toArray } (.lst (ns.map V.int))) else none, fun b => ?_, .inl (.inr ⟨_, if_pos rfl⟩), fun b u y => ?_, fun b y => ?_, fun _ => rfl⟩
    · by_cases hba : b = a
      · exact .inr ⟨_, _, if_pos hba⟩
      · exact .inl (if_neg hba)
    · obtain ⟨rfl, rfl⟩ := here b u y
      exact ⟨ha, by rw [List.length_map]; exact hl, vs, _, rv, ha⟩
    · by_cases hba : b = a
      · exact hba
      · exact absurd (if_neg hba) y
theorem walk_S {l : PySem.W.OpenLaw} {n k : Nat} {q : Program} {loose : List Str} {XP : (Str → Option Value) → Heap → Prop} {YP : World → Heap → Prop} {d : DefRec} {K : Params → PySem.W.Frag} {sp : PySem.W.Frag → Sp} {x : Str}
    (hn : l.most = some n) (hn2 : n ≤ sizeLine) (hdf : d.params.defaults = []) (hin : importsNone q = true) (hr : Room k callerA) (hY : ∀ (w : World) (h : Heap), YP w h → (K w.params).In h)
    (F : ∀ (w : World) (mg : Str → Option Value) (fa : Addr) (h : Heap), (K w.params).In h → h.Ns mainGlobals mg → mg d.name = some (.ref fa) →
      ∃ fd : FuncData, (∀ (s : Shared) (u : Value), BindsTo s fd ⟨[u], []⟩ [(x, u)]) ∧ ∀ base : Heap, (K w.params).In base → base.Ns mainGlobals mg → SysIn base → FnG l.prog w (K w.params) mg base CX0 k fa fd [x] (sp (K w.params)))
    (hsp : ∀ (K : PySem.W.Frag) (H : Hp) (a : Addr) (ns : List Int), ns.length ≤ n → Only H → SqL K H a (ns.map V.int) → sp K [.ref a] H (fun v _ => v = .bl true) fun _ _ _ => False) :
    PySem.W.WalkO q loose XP YP l.row.toRowW d [] (fun f vs => PySem.call f vs) := by
  refine Att.attach_call hn hdf fun w y0 y1 mg mb fa o pm cd doc a vs ns G Y ho hd hcd hmg hobj hints hlen hg => ?_
  obtain ⟨fd, hb, hF⟩ := F w mg fa _ (hY w _ Y) G.T.g hmg
  exact law_callS (hY w _ Y) G.T.g G.T.b G.T.builtins G.T.nolimit (let ⟨m, hm, _⟩ := (G.T.seer hin).mods; ⟨m, hm⟩) hg hobj hints (Nat.le_trans hlen hn2) hr hF hb fun H hO hS => hsp _ H a ns hlen hO hS
end CN

set_option Elab.async false
set_option linter.all false
set_option maxRecDepth 100000
set_option maxHeartbeats 4000000
namespace CN
open PySem PySem.Spec PyProof.Rows L2 Evl
open Classical in
noncomputable def hdn (N : Addr → Prop) (H : Hp) : Hp := fun x => if N x then none else H x
def Sits (N : Addr → Prop) (H : Hp) : Prop := ∀ a, N a → H a ≠ none
section
variable {K : PySem.W.Frag} {N N' : Addr → Prop} {H H' : Hp}
theorem hdn_ex : Ex (hdn N H) H := fun x o h => by
  unfold hdn at h
  by_cases e : N x
  · rw [if_pos e] at h
    cases h
  · rw [if_neg e] at h
    exact h
theorem hdn_at {x : Addr} {o : HO} (h : H x = some o) (n : ¬ N x) : hdn N H x = some o := by
  unfold hdn
  rw [if_neg n]
  exact h
theorem hdn_no {x : Addr} {o : HO} (h : hdn N H x = some o) : ¬ N x := fun n => by
  unfold hdn at h
  rw [if_pos n] at h
  cases h
theorem hdn_mo (e : Ex H H') : Ex (hdn N H) (hdn N H') := fun x o h => hdn_at (e x o (hdn_ex x o h)) (hdn_no h)
theorem Sits.ex (s : Sits N H) (e : Ex H H') : Sits N H' := fun a n => by
  have := s a n
  cases h : H a with
  | none => exact absurd h this
  | some o =>
    rw [e a o h]
    intro q
    cases q
theorem Sits.bx {b : Addr} {o : HO} (s : Sits N H) (e : ExBx b H H') (hb : H' b = some o) : Sits N H' := fun a n => by
  by_cases q : a = b
  · subst q
    rw [hb]
    intro z
    cases z
  · have := s a n
    cases h : H a with
    | none => exact absurd h this
    | some o =>
      rw [e a o q h]
      intro z
      cases z
theorem Sits.upd {p : Addr} {o : HO} (s : Sits N H) : Sits N (L2.upd H p o) := fun a n => by
  by_cases q : a = p
  · subst q
    rw [upd_same]
    intro z
    cases z
  · rw [upd_ne q]
    exact s a n
theorem Sits.or {p : Addr} {o : HO} (s : Sits N H) (h : H p = some o) : Sits (fun a => N a ∨ a = p) H := fun a n => n.elim (s a) fun e => by
  rw [e, h]
  intro z
  cases z
theorem Sits.new {p : Addr} (s : Sits N H) (n : H p = none) : ¬ N p := fun q => s p q n
theorem da_tup {p : Addr} {xs : List V} {ds : List PyData} (s : Sits N H) (n : H p = none) (e : Ex H H') (hp : H' p = some (.tup xs)) (h : DaAll K (hdn N H) xs ds) : Da K (hdn N H') (.ref p) (.tuple ds) :=
  .tup (SqT.of (hdn_at hp (s.new n))) (h.ex (hdn_mo e))
theorem da_lst {p : Addr} {xs : List V} {ds : List PyData} (s : Sits N H) (n : H p = none) (e : Ex H H') (hp : H' p = some (.lst xs)) (h : DaAll K (hdn N H) xs ds) : Da K (hdn N H') (.ref p) (.list ds) :=
  .lst (hdn_at hp (s.new n)) (h.ex (hdn_mo e))
theorem Da.up {v : V} {d : PyData} (h : Da K (hdn N H) v d) : Da K H v d := h.ex hdn_ex
theorem DaAll.up {v : List V} {d : List PyData} (h : DaAll K (hdn N H) v d) : DaAll K H v d := h.ex hdn_ex
theorem Da.to {v : V} {d : PyData} (h : Da K (hdn N H) v d) (e : Ex H H') : Da K (hdn N H') v d := h.ex (hdn_mo e)
theorem DaAll.to {v : List V} {d : List PyData} (h : DaAll K (hdn N H) v d) (e : Ex H H') : DaAll K (hdn N H') v d := h.ex (hdn_mo e)
theorem Da.tupI {v : V} {ds : List PyData} (h : Da K H v (.tuple ds)) : ∃ a xs, v = .ref a ∧ SqT K H a xs ∧ DaAll K H xs ds := by
  cases h with
  | tup h1 h2 => exact ⟨_, _, rfl, h1, h2⟩
theorem Da.lstI {v : V} {ds : List PyData} (h : Da K H v (.list ds)) : ∃ a xs, v = .ref a ∧ H a = some (.lst xs) ∧ DaAll K H xs ds := by
  cases h with
  | lst h1 h2 => exact ⟨_, _, rfl, h1, h2⟩
theorem Da.strI {v : V} {z : Str} (h : Da K H v (.str z)) : v = .str z := by
  cases h
  rfl
theorem Da.intI {v : V} {z : Int} (h : Da K H v (.int z)) : v = .int z := by
  cases h
  rfl
theorem Da.blI {v : V} {z : Bool} (h : Da K H v (.bool z)) : v = .bl z := by
  cases h
  rfl
theorem Da.nonI {v : V} (h : Da K H v .none) : v = .non := by
  cases h
  rfl
theorem at_nat {α : Type} {xs : List α} {i : Nat} {v : α} (h : xs[i]? = some v) : atI xs (i : Int) = some v := by
  have hi : i < xs.length := by
    rw [List.getElem?_eq_some_iff] at h
    exact h.1
  have h1 : ¬ ((i : Int) < 0) := by omega
  unfold atI ixN
  simp only [h1, if_false, Int.toNat_natCast]
  simpa [hi] using h
end
section
variable {K : PySem.W.Frag} {N : Addr → Prop} {H : Hp} {Q : VK} {a b : Addr} {xs ys : List V} {ds es : List PyData}
theorem da_cat (s : Sits N H) (hx : SqT K (hdn N H) a xs) (h : DaAll K (hdn N H) xs ds) (hy : SqT K (hdn N H) b ys) (h' : DaAll K (hdn N H) ys es) (hl : ds.length + es.length ≤ 1000000)
    (q : ∀ v H', Ex H H' → Da K (hdn N H') v (.tuple (ds ++ es)) → Q v H') : rAddW K (.ref a) (.ref b) H Q := by
  refine .inr ⟨a, b, xs, ys, rfl, rfl, ex_t hdn_ex hx, ex_t hdn_ex hy, ?_, ?_, ?_, ?_⟩
  · rw [h.length, h'.length]
    exact line_ge (by omega)
  · rintro rfl
    cases h
    exact q _ H (Ex.refl H) (.tup hy h')
  · rintro rfl
    cases h'
    rw [List.append_nil] at q
    exact q _ H (Ex.refl H) (.tup hx h)
  · exact fun p H' n e hp => q _ H' e (da_tup s n e hp (h.append h'))
end
section
variable {K : PySem.W.Frag} {N : Addr → Prop} {σ : L2.St} {H1 : Hp} {j : Nat} {xs : List V} {ds : List PyData} {a : Addr} {tt : TT} {te : TE} {Q : VK}
end
inductive Fine : PyData → Prop
  | non : Fine .none
  | bl (b : Bool) : Fine (.bool b)
  | int {i : Int} : -10 ≤ i → i < 100000000000 → Fine (.int i)
  | str {z : Str} : z.length ≤ 100 → OkS z → Fine (.str z)
  | lst {l : List PyData} : l.length ≤ 1000 → (∀ x ∈ l, Fine x) → Fine (.list l)
  | tup {l : List PyData} : l.length ≤ 1000 → (∀ x ∈ l, Fine x) → Fine (.tuple l)
  | dct0 : Fine (.dict [])
theorem leavesAll_of {B : Nat} : ∀ {l : List PyData}, (∀ x ∈ l, PyData.leavesShort B x = true) → PyData.leavesShortAll B l = true
  | [], _ => rfl
  | x :: l, h => by
    show (PyData.leavesShort B x && PyData.leavesShortAll B l) = true
    rw [h x (List.mem_cons_self ..), leavesAll_of fun y hy => h y (List.mem_cons_of_mem _ hy)]
    rfl
theorem int_shown {i : Int} (h : -10 ≤ i) (h2 : i < 100000000000) : (PyData.shown (.int i)).length ≤ 13 := by
  show (Str.ofString (toString i)).length ≤ 13
  by_cases h0 : 0 ≤ i
  · have e : ((10 : Int) ^ (10 + 1)) = 100000000000 := by decide
    exact Nat.le_trans (str_int_len (k := 10) h0 (by rw [e]; exact h2)) (by decide)
  · have hc : i = -1 ∨ i = -2 ∨ i = -3 ∨ i = -4 ∨ i = -5 ∨ i = -6 ∨ i = -7 ∨ i = -8 ∨ i = -9 ∨ i = -10 := by omega
    rcases hc with rfl | rfl | rfl | rfl | rfl | rfl | rfl | rfl | rfl | rfl <;> decide +kernel
theorem Fine.leaves {d : PyData} (h : Fine d) : d.leavesShort 13 = true := by
  induction h with
  | non => rfl
  | bl b => rfl
  | int h h2 => exact decide_eq_true (int_shown h h2)
  | @str z _ h =>
    show (z.cps.toList.all fun c => decide (c < 16 ^ 8)) = true
    rw [List.all_eq_true]
    intro c hc
    exact decide_eq_true (Nat.lt_trans (h c hc) (by decide))
  | lst _ _ ih => exact leavesAll_of ih
  | tup _ _ ih => exact leavesAll_of ih
  | dct0 => rfl
theorem Fine.fits {d : PyData} (h : Fine d) (hb : d.bulk ≤ 1000000) : d.shown.length ≤ sizeLine := PyData.shown_fits_bulk (B := 13) (by decide) (by decide) h.leaves (Nat.le_trans hb (by decide))
end CN

set_option Elab.async false
set_option linter.all false
set_option maxRecDepth 100000
set_option maxHeartbeats 4000000
namespace CN
open PySem PySem.Spec PyProof.Rows L2 Evl

inductive UV where
  | dat (d : PyData)
  | ref (a : Addr)
inductive MO where
  | lst (us : List UV)
  | tpl (us : List UV)
  | dct (kvs : List (Key × UV))
  | ins (c : Str) (fs : List (Str × UV))
  | shd (x : Addr)
  | box (m : Int) (us : List UV := [])
  | lkd (o : Obj) (ws : List (Key × V)) (kvs : List (Key × UV))
  | exn (c : Str) (fs : List (Str × UV))
abbrev Mem := Addr → Option MO
def put (μ : Mem) (a : Addr) (m : MO) : Mem := fun b => if b = a then some m else μ b
def del (μ : Mem) (a : Addr) : Mem := fun b => if b = a then none else μ b
theorem put_same {μ : Mem} {a : Addr} {m : MO} : put μ a m a = some m := if_pos rfl
theorem put_ne {μ : Mem} {a b : Addr} {m : MO} (h : b ≠ a) : put μ a m b = μ b := if_neg h
theorem del_same {μ : Mem} {a : Addr} : del μ a a = none := if_pos rfl
theorem del_ne {μ : Mem} {a b : Addr} (h : b ≠ a) : del μ a b = μ b := if_neg h
theorem pmap {α β : Type} {F F' : α → β → Prop} {l : List α} {m : List β} (h : Paired F l m) (hm : ∀ a b, F a b → F' a b) : Paired F' l m := Paired.mono hm h
abbrev Hid := Addr → Prop
def hs (N : Hid) (μ : Mem) : Hid := fun a => N a ∨ μ a ≠ none
noncomputable abbrev fz (N : Hid) (μ : Mem) (H : Hp) : Hp := hdn (hs N μ) H

structure IsC (K : PySem.W.Frag) (c : Str) (C : Addr) (fs : List (Str × UV)) : Prop where
  ns : PySem.W.nsIn K mainGlobals c = some (some (.ref C))
  cl : Cls K C
  na : ∀ q ∈ fs, NoAttr K C q.1
structure IsX (K : PySem.W.Frag) (c : Str) (C : Addr) (fs : List (Str × UV)) : Prop where
  ns : PySem.W.nsIn K mainGlobals c = some (some (.ref C))
  ec : ExcC K C
  na : ∀ q ∈ fs, PySem.W.findIn K (.ref C) q.1 = some none
section
variable (K : PySem.W.Frag) (N : Hid) (μ : Mem) (H : Hp)
def VR : V → UV → Prop
  | v, .dat d => Da K (fz N μ H) v d
  | v, .ref a => v = .ref a
def MR (a : Addr) : MO → Prop
  | .lst us => ∃ vs, H a = some (.lst vs) ∧ Paired (VR K N μ H) vs us
  | .tpl us => ∃ vs, H a = some (.tup vs) ∧ Paired (VR K N μ H) vs us
  | .dct kvs => ∃ ws, H a = some (.dK ws) ∧ Paired (fun (p : Key × V) (q : Key × UV) => p.1 = q.1 ∧ VR K N μ H p.2 q.2) ws kvs
  | .ins c fs => ∃ C dx ws, IsC K c C fs ∧ H a = some (.ins C dx ws) ∧ μ dx = some (.shd a) ∧ Paired (fun (p : Str × V) (q : Str × UV) => p.1 = q.1 ∧ VR K N μ H p.2 q.2) ws fs
  | .shd x => H a = some (.own x)
  | .box m us => ∃ vs, BoxX H a m vs ∧ Paired (VR K N μ H) vs us
  | .lkd o ws kvs => H a = some (.frz o (.dK ws)) ∧ Paired (fun (p : Key × V) (q : Key × UV) => p.1 = q.1 ∧ VR K N μ H p.2 q.2) ws kvs
  | .exn c fs => ∃ C d, IsX K c C fs ∧ H a = some (exo a C d) ∧ (d = none ∧ fs = [] ∨ ∃ dx ws, d = some dx ∧ fz N μ H dx = some (exd dx ws) ∧ Paired (fun (p : Str × V) (q : Str × UV) => p.1 = q.1 ∧ VR K N μ H p.2 q.2) ws fs)
end
structure Gr (N : Hid) (H : Hp) (μ : Mem) (H' : Hp) (μ' : Mem) : Prop where
  ex : Ex (fz N μ H) (fz N μ' H')
  fx : ∀ a, N a → H' a = H a
structure Link where
  p : Hid → Hp → Mem → Prop
  mo : ∀ N H μ H' μ', p N H μ → Gr N H μ H' μ' → p N H' μ'
def L0 : Link := ⟨fun _ _ _ => True, fun _ _ _ _ _ _ _ => trivial⟩
structure HR (K : PySem.W.Frag) (L : Link) (N : Hid) (H : Hp) (μ : Mem) : Prop where
  mo : ∀ a m, μ a = some m → ¬ N a ∧ MR K N μ H a m
  sit : ∀ a, N a → H a ≠ none
  lk : L.p N H μ
theorem HR.drop {K : PySem.W.Frag} {L : Link} {N : Hid} {H : Hp} {μ : Mem} (h : HR K L N H μ) : HR K L0 N H μ := ⟨h.mo, h.sit, trivial⟩
theorem HR.with {K : PySem.W.Frag} {L L' : Link} {N : Hid} {H : Hp} {μ : Mem} (h : HR K L N H μ) (l : L'.p N H μ) : HR K L' N H μ := ⟨h.mo, h.sit, l⟩
section
variable {K : PySem.W.Frag} {L : Link} {N : Hid} {H H1 H2 : Hp} {μ μ1 μ2 : Mem}
theorem Gr.refl : Gr N H μ H μ := ⟨Ex.refl _, fun _ _ => rfl⟩
theorem Gr.trans (g : Gr N H μ H1 μ1) (h : Gr N H1 μ1 H2 μ2) : Gr N H μ H2 μ2 := ⟨g.ex.trans h.ex, fun a n => (h.fx a n).trans (g.fx a n)⟩
theorem VR.to (g : Gr N H μ H1 μ1) : ∀ {v : V} {x : UV}, VR K N μ H v x → VR K N μ1 H1 v x
  | _, .dat _, h => Da.ex g.ex h
  | _, .ref _, h => h
theorem MR.at {a : Addr} {m : MO} (h : MR K N μ H a m) : ∃ o, H a = some o := by
  cases m with
  | lst us => obtain ⟨vs, h, _⟩ := h; exact ⟨_, h⟩
  | tpl us => obtain ⟨vs, h, _⟩ := h; exact ⟨_, h⟩
  | dct us => obtain ⟨vs, h, _⟩ := h; exact ⟨_, h⟩
  | ins c fs => obtain ⟨C, dx, ws, hc, h, _⟩ := h; exact ⟨_, h⟩
  | shd x => exact ⟨_, h⟩
  | box m us => obtain ⟨vs, ⟨n, r, c, h, _⟩, _⟩ := h; exact ⟨_, h⟩
  | lkd o ws kvs => exact ⟨_, h.1⟩
  | exn c fs => obtain ⟨C, d, _, h, _⟩ := h; exact ⟨_, h⟩
theorem HR.sits (h : HR K L N H μ) : Sits (hs N μ) H := fun a q => by
  rcases q with q | q
  · exact h.sit a q
  · cases e : μ a with
    | none => exact absurd e q
    | some m =>
      obtain ⟨o, ho⟩ := (h.mo a m e).2.at
      rw [ho]
      intro z
      cases z
theorem HR.new (h : HR K L N H μ) {p : Addr} (n : H p = none) : ¬ N p ∧ μ p = none := by
  have := h.sits.new n
  refine ⟨fun q => this (.inl q), ?_⟩
  cases e : μ p with
  | none => rfl
  | some m => exact absurd (.inr (by rw [e]; intro z; cases z)) this
theorem MR.mo {a b : Addr} {m : MO} (g : Gr N H μ H1 μ1) (h : MR K N μ H a m) (hk : ∀ o, H a = some o → H1 a = some o) (hsd : ∀ x, μ b = some (.shd x) → μ1 b = some (.shd x) ∨ x ≠ a) (hsn : ∀ dx, dx ≠ b → μ1 dx = μ dx) : MR K N μ1 H1 a m := by
  cases m with
  | lst us =>
    obtain ⟨vs, h, hp⟩ := h
    exact ⟨vs, hk _ h, pmap hp fun _ _ => VR.to g⟩
  | tpl us =>
    obtain ⟨vs, h, hp⟩ := h
    exact ⟨vs, hk _ h, pmap hp fun _ _ => VR.to g⟩
  | dct us =>
    obtain ⟨vs, h, hp⟩ := h
    exact ⟨vs, hk _ h, pmap hp fun _ _ q => ⟨q.1, VR.to g q.2⟩⟩
  | ins c fs =>
    obtain ⟨C, dx, ws, hc, h, h1, hp⟩ := h
    refine ⟨C, dx, ws, hc, hk _ h, ?_, pmap hp fun _ _ q => ⟨q.1, VR.to g q.2⟩⟩
    by_cases e : dx = b
    · subst e
      rcases hsd a h1 with q | q
      · exact q
      · exact absurd rfl q
    · rw [hsn dx e]
      exact h1
  | shd x => exact hk _ h
  | box m us =>
    obtain ⟨vs, ⟨n, r, c, h, h1⟩, hp⟩ := h
    exact ⟨vs, ⟨n, r, c, hk _ h, h1⟩, pmap hp fun _ _ => VR.to g⟩
  | lkd o ws kvs =>
    obtain ⟨h, hp⟩ := h
    exact ⟨hk _ h, pmap hp fun _ _ q => ⟨q.1, VR.to g q.2⟩⟩
  | exn c fs =>
    obtain ⟨C, d, hc, h, hp⟩ := h
    refine ⟨C, d, hc, hk _ h, hp.imp id ?_⟩
    rintro ⟨dx, ws, rfl, h1, h2⟩
    exact ⟨dx, ws, rfl, g.ex _ _ h1, pmap h2 fun _ _ q => ⟨q.1, VR.to g q.2⟩⟩
theorem Gr.ofEx (h : HR K L N H μ) (e : Ex H H1) : Gr N H μ H1 μ := ⟨hdn_mo e, fun a n => by
  cases q : H a with
  | none => exact absurd q (h.sit a n)
  | some o => exact e a o q⟩
theorem HR.ofEx (h : HR K L N H μ) (e : Ex H H1) : HR K L N H1 μ := by
  refine ⟨fun a m q => ⟨(h.mo a m q).1, ?_⟩, fun a n => ?_, L.mo _ _ _ _ _ h.lk (Gr.ofEx h e)⟩
  · exact MR.mo (b := a) (Gr.ofEx h e) (h.mo a m q).2 (fun o => e a o) (fun x q => .inl q) (fun _ _ => rfl)
  · cases q : H a with
    | none => exact absurd q (h.sit a n)
    | some o =>
      rw [e a o q]
      intro z
      cases z
theorem Gr.put (h : HR K L N H μ) {p : Addr} {m : MO} (n : H p = none) (e : Ex H H1) : Gr N H μ H1 (CN.put μ p m) := by
  refine ⟨fun x o q => ?_, (Gr.ofEx h e).fx⟩
  have nx := hdn_no q
  have q2 := hdn_ex x o q
  refine hdn_at (e x o q2) fun z => nx ?_
  rcases z with z | z
  · exact .inl z
  · have : x ≠ p := fun z => by
      rw [z, n] at q2
      cases q2
    rw [put_ne this] at z
    exact .inr z
theorem Gr.set (h : HR K L N H μ) {p : Addr} {m m0 : MO} (hp : μ p = some m0) (hk : ∀ a o, a ≠ p → H a = some o → H1 a = some o) : Gr N H μ H1 (CN.put μ p m) := by
  have np := (h.mo p m0 hp).1
  refine ⟨fun x o q => ?_, fun a na => ?_⟩
  · have nx := hdn_no q
    have q2 := hdn_ex x o q
    have : x ≠ p := fun z => nx (.inr (by rw [z, hp]; intro z; cases z))
    refine hdn_at (hk x o this q2) fun z => nx ?_
    rcases z with z | z
    · exact .inl z
    · rw [put_ne this] at z
      exact .inr z
  · have : a ≠ p := fun z => np (z ▸ na)
    cases q : H a with
    | none => exact absurd q (h.sit a na)
    | some o => exact hk a o this q
theorem HR.put (h : HR K L N H μ) {p : Addr} {m : MO} (hn : ¬ N p) (g : Gr N H μ H1 (CN.put μ p m)) (hk : ∀ a o, a ≠ p → H a = some o → H1 a = some o) (hm : MR K N (CN.put μ p m) H1 p m) (hsd : ∀ x, μ p = some (.shd x) → m = .shd x) : HR K L N H1 (CN.put μ p m) := by
  refine ⟨fun a m' q => ?_, fun a n => by rw [g.fx a n]; exact h.sit a n, L.mo _ _ _ _ _ h.lk g⟩
  by_cases e : a = p
  · subst e
    rw [put_same] at q
    cases q
    exact ⟨hn, hm⟩
  · rw [put_ne e] at q
    refine ⟨(h.mo a m' q).1, MR.mo (b := p) g (h.mo a m' q).2 (fun o => hk a o e) (fun x q => .inl ?_) (fun dx e => put_ne e)⟩
    rw [put_same, hsd x q]
structure Wk (μ μ' : Mem) : Prop where
  at_ : ∀ a, μ' a = none ∨ μ' a = μ a ∨ ∃ c c' bu, c ≤ c' ∧ μ a = some (.box c bu) ∧ μ' a = some (.box c' bu)
  sh : ∀ dx x, μ dx = some (.shd x) → μ' dx = none → μ' x = none
theorem Wk.refl : Wk μ μ := ⟨fun _ => .inr (.inl rfl), fun dx x h h' => by rw [h] at h'; cases h'⟩
theorem Wk.dom (w : Wk μ μ1) {a : Addr} (h : μ1 a ≠ none) : μ a ≠ none := by
  rcases w.at_ a with q | q | ⟨c, c', bu, _, q, _⟩
  · exact absurd q h
  · rw [← q]
    exact h
  · rw [q]
    intro z
    cases z
theorem Wk.gr (w : Wk μ μ1) : Gr N H μ H μ1 := ⟨fun x o q => hdn_at (hdn_ex x o q) fun z => hdn_no q (z.imp id w.dom), fun _ _ => rfl⟩
theorem HR.wk (h : HR K L N H μ) (w : Wk μ μ1) : HR K L N H μ1 := by
  refine ⟨fun a m q => ?_, h.sit, L.mo _ _ _ _ _ h.lk w.gr⟩
  rcases w.at_ a with e | e | ⟨c, c', bu, hc, e, e'⟩
  · rw [e] at q
    cases q
  · rw [e] at q
    refine ⟨(h.mo a m q).1, ?_⟩
    have hm := (h.mo a m q).2
    cases m with
    | lst us =>
      obtain ⟨vs, h, hp⟩ := hm
      exact ⟨vs, h, pmap hp fun _ _ => VR.to w.gr⟩
    | tpl us =>
      obtain ⟨vs, h, hp⟩ := hm
      exact ⟨vs, h, pmap hp fun _ _ => VR.to w.gr⟩
    | dct us =>
      obtain ⟨vs, h, hp⟩ := hm
      exact ⟨vs, h, pmap hp fun _ _ q => ⟨q.1, VR.to w.gr q.2⟩⟩
    | ins c fs =>
      obtain ⟨C, dx, ws, hc, h, h1, hp⟩ := hm
      refine ⟨C, dx, ws, hc, h, ?_, pmap hp fun _ _ q => ⟨q.1, VR.to w.gr q.2⟩⟩
      rcases w.at_ dx with z | z | ⟨c, c', bu, _, z, _⟩
      · have := w.sh dx a h1 z
        rw [e, q] at this
        cases this
      · rw [z]
        exact h1
      · rw [h1] at z
        cases z
    | shd x => exact hm
    | box m us =>
      obtain ⟨vs, h, hp⟩ := hm
      exact ⟨vs, h, pmap hp fun _ _ => VR.to w.gr⟩
    | lkd o ws kvs =>
      obtain ⟨h, hp⟩ := hm
      exact ⟨h, pmap hp fun _ _ q => ⟨q.1, VR.to w.gr q.2⟩⟩
    | exn c fs =>
      obtain ⟨C, d, hc, h, hp⟩ := hm
      refine ⟨C, d, hc, h, hp.imp id ?_⟩
      rintro ⟨dx, ws, rfl, h1, h2⟩
      exact ⟨dx, ws, rfl, w.gr.ex _ _ h1, pmap h2 fun _ _ q => ⟨q.1, VR.to w.gr q.2⟩⟩
  · rw [e'] at q
    cases q
    refine ⟨(h.mo a _ e).1, ?_⟩
    have hm := (h.mo a _ e).2
    obtain ⟨vs, h, hp⟩ := hm
    exact ⟨vs, h.mono hc, pmap hp fun _ _ => VR.to w.gr⟩
end
abbrev Rho := List (Option UV)
def SR (K : PySem.W.Frag) (N : Hid) (μ : Mem) (H : Hp) (σ : L2.St) (ρ : Rho) : Prop := σ.length = ρ.length ∧ ∀ (i : Nat) (x : UV), ρ[i]? = some (some x) → ∃ v, σ[i]? = some (some v) ∧ VR K N μ H v x
abbrev UK := UV → Mem → Prop
abbrev UE := Rho → Mem → UK → Prop
abbrev UT := Rho → Mem → (Bool → Mem → Prop) → Prop
abbrev UA := Rho → Mem → (List UV → Mem → Prop) → Prop
structure UEnds where
  nx : Rho → Mem → Prop
  rt : UK
  bk : Rho → Mem → Prop := fun _ _ => False
  ct : Rho → Mem → Prop := fun _ _ => False
abbrev US := UEnds → Rho → Mem → Prop
abbrev UG := UV → Rho → Mem → (Rho → Mem → Prop) → Prop
structure IT where
  items : List UV
  chk : Mem → Prop
abbrev UI := Rho → Mem → (IT → Mem → Prop) → Prop
section
variable (K : PySem.W.Frag)
structure ItS (N : Hid) (H0 : Hp) (μ0 : Mem) (J : It) (it : IT) : Prop where
  go : ∀ (i : Nat) (L' : Link) (N' : Hid) (H : Hp) (μ : Mem), Ex (fz N μ0 H0) (fz N' μ H) → HR K L' N' H μ → it.chk μ → i < it.items.length → J.go i H
  yld : ∀ (i : Nat) (L' : Link) (N' : Hid) (H : Hp) (μ : Mem) (x : V) (H' : Hp), Ex (fz N μ0 H0) (fz N' μ H) → HR K L' N' H μ → it.chk μ → i < it.items.length → J.yld i H x H' → ∃ u, it.items[i]? = some u ∧ VR K N' μ H' x u ∧ Ex H H'
  stop : ∀ (i : Nat) (L' : Link) (N' : Hid) (H : Hp) (μ : Mem), Ex (fz N μ0 H0) (fz N' μ H) → HR K L' N' H μ → it.chk μ → it.items.length ≤ i → J.stop i H
end
section
variable (K : PySem.W.Frag) (L : Link)
def SE (t : TE) (u : UE) : Prop := ∀ N σ H ρ μ Q R, HR K L N H μ → SR K N μ H σ ρ → u ρ μ R → (∀ v H' x μ', Gr N H μ H' μ' → HR K L N H' μ' → VR K N μ' H' v x → R x μ' → Q v H') → t σ H Q
def SA (t : TA) (u : UA) : Prop := ∀ N σ H ρ μ Q R, HR K L N H μ → SR K N μ H σ ρ → u ρ μ R → (∀ v H' x μ', Gr N H μ H' μ' → HR K L N H' μ' → Paired (VR K N μ' H') v x → R x μ' → Q v H') → t σ H Q
def ST (t : TT) (u : UT) : Prop := ∀ N σ H ρ μ Q R, HR K L N H μ → SR K N μ H σ ρ → u ρ μ R → (∀ b H' μ', Gr N H μ H' μ' → HR K L N H' μ' → R b μ' → Q b H') → t σ H Q
def SG (g : TG) (u : UG) (vs : List Nat) : Prop := ∀ N v σ H x ρ μ Q R, HR K L N H μ → SR K N μ H σ ρ → VR K N μ H v x → u x ρ μ R → (∀ σ' H' ρ' μ', Gr N H μ H' μ' → HR K L N H' μ' → SR K N μ' H' σ' ρ' → wipe σ' vs = wipe σ vs → R ρ' μ' → Q σ' H') → g v σ H Q
structure Lk (N : Hid) (H : Hp) (μ : Mem) (D : Ends) (U : UEnds) : Prop where
  nx : ∀ σ H' ρ μ', Gr N H μ H' μ' → HR K L N H' μ' → SR K N μ' H' σ ρ → U.nx ρ μ' → D.nx σ H'
  rt : ∀ v H' x μ', Gr N H μ H' μ' → HR K L N H' μ' → VR K N μ' H' v x → U.rt x μ' → D.rt v H'
  bk : ∀ σ H' ρ μ', Gr N H μ H' μ' → HR K L N H' μ' → SR K N μ' H' σ ρ → U.bk ρ μ' → D.bk σ H'
  ct : ∀ σ H' ρ μ', Gr N H μ H' μ' → HR K L N H' μ' → SR K N μ' H' σ ρ → U.ct ρ μ' → D.ct σ H'
def SS (t : TS) (u : US) : Prop := ∀ N D U σ H ρ μ, HR K L N H μ → SR K N μ H σ ρ → u U ρ μ → Lk K L N H μ D U → t D σ H
def SI (w : TI) (u : UI) : Prop := ∀ N σ H ρ μ Q R, HR K L N H μ → SR K N μ H σ ρ → u ρ μ R → (∀ J H' it μ', Gr N H μ H' μ' → HR K L N H' μ' → ItS K N H' μ' J it → R it μ' → Q J H') → w σ H Q
end
section
variable {K : PySem.W.Frag} {L : Link} {N : Hid} {H H1 : Hp} {μ μ1 : Mem} {σ : L2.St} {ρ : Rho}
theorem SR.to (g : Gr N H μ H1 μ1) (h : SR K N μ H σ ρ) : SR K N μ1 H1 σ ρ := ⟨h.1, fun i x e => by
  obtain ⟨v, h1, h2⟩ := h.2 i x e
  exact ⟨v, h1, VR.to g h2⟩⟩
theorem Lk.to {D : Ends} {U : UEnds} (h : Lk K L N H μ D U) (g : Gr N H μ H1 μ1) : Lk K L N H1 μ1 D U :=
  ⟨fun s H' r m g' => h.nx s H' r m (g.trans g'), fun s H' r m g' => h.rt s H' r m (g.trans g'), fun s H' r m g' => h.bk s H' r m (g.trans g'), fun s H' r m g' => h.ct s H' r m (g.trans g')⟩
theorem SR.set (h : SR K N μ H σ ρ) {i : Nat} {v : V} {x : UV} (hv : VR K N μ H v x) : SR K N μ H (σ.set i (some v)) (ρ.set i (some x)) := by
  refine ⟨by rw [List.length_set, List.length_set]; exact h.1, fun j y e => ?_⟩
  by_cases hij : i = j
  · subst hij
    rw [List.getElem?_set] at e ⊢
    simp only [if_true] at e ⊢
    by_cases hl : i < ρ.length
    · rw [if_pos hl] at e
      cases e
      rw [if_pos (by rw [h.1]; exact hl)]
      exact ⟨v, rfl, hv⟩
    · rw [if_neg hl] at e
      cases e
  · rw [List.getElem?_set_ne hij] at e ⊢
    exact h.2 j y e
theorem SR.unset (h : SR K N μ H σ ρ) {i : Nat} {o : Option V} : SR K N μ H (σ.set i o) (ρ.set i none) := by
  refine ⟨by rw [List.length_set, List.length_set]; exact h.1, fun j y e => ?_⟩
  by_cases hij : i = j
  · subst hij
    rw [List.getElem?_set] at e
    simp only [if_true] at e
    split at e <;> cases e
  · rw [List.getElem?_set_ne hij] at e ⊢
    exact h.2 j y e
end
def wipeU (ρ : Rho) : List Nat → Rho
  | [] => ρ
  | v :: vs => (wipeU ρ vs).set v none
theorem SR.wipe {K : PySem.W.Frag} {N : Hid} {H : Hp} {μ : Mem} {σ : L2.St} {ρ : Rho} (h : SR K N μ H σ ρ) : ∀ vs, SR K N μ H (wipe σ vs) (wipeU ρ vs)
  | [] => h
  | v :: vs => (SR.wipe h vs).unset
theorem wipe_set {σ : L2.St} {j : Nat} {o : Option V} : ∀ {vs : List Nat}, j ∈ vs → wipe (σ.set j o) vs = wipe σ vs
  | [], h => by cases h
  | v :: vs, h => by
    show (wipe (σ.set j o) vs).set v none = (wipe σ vs).set v none
    by_cases e : j ∈ vs
    · rw [wipe_set e]
    · have hj : j = v := by
        rcases List.mem_cons.mp h with q | q
        · exact q
        · exact absurd q e
      subst hj
      have key : ∀ (ws : List Nat), j ∉ ws → wipe (σ.set j o) ws = (wipe σ ws).set j o := by
        intro ws
        induction ws with
        | nil => intro _; rfl
        | cons w ws ih =>
          intro hn
          have n1 : j ≠ w := fun q => hn (by rw [q]; exact List.mem_cons_self)
          have n2 : j ∉ ws := fun q => hn (List.mem_cons_of_mem _ q)
          show (wipe (σ.set j o) ws).set w none = ((wipe σ ws).set w none).set j o
          rw [ih n2, List.set_comm _ _ n1]
      rw [key vs e, List.set_set]
theorem wipe_wipe {σ : L2.St} {vs : List Nat} : wipe (wipe σ vs) vs = wipe σ vs := by
  have key : ∀ (ws : List Nat), (∀ j ∈ ws, j ∈ vs) → wipe (wipe σ ws) vs = wipe σ vs := by
    intro ws
    induction ws with
    | nil => intro _; rfl
    | cons w ws ih =>
      intro h
      show wipe ((wipe σ ws).set w none) vs = _
      rw [wipe_set (h w List.mem_cons_self)]
      exact ih fun j hj => h j (List.mem_cons_of_mem _ hj)
  exact key vs fun _ h => h
end CN

set_option Elab.async false
set_option linter.all false
set_option maxRecDepth 100000
set_option maxHeartbeats 4000000
namespace CN
open PySem PySem.Spec PyProof.Rows L2 Evl

def allD : List UV → Option (List PyData)
  | [] => some []
  | .dat d :: r => match allD r with
    | some ds => some (d :: ds)
    | none => none
  | .ref _ :: _ => none
@[simp] theorem allD_map : ∀ ds : List PyData, allD (ds.map UV.dat) = some ds
  | [] => rfl
  | d :: ds => by rw [List.map_cons, allD, allD_map ds]
theorem allD_some : ∀ {us : List UV} {ds : List PyData}, allD us = some ds → us = ds.map UV.dat
  | [], ds, h => by cases h; rfl
  | .dat d :: r, ds, h => by
    unfold allD at h
    split at h
    · rename_i e
      cases h
      rw [List.map_cons, allD_some e]
    · cases h
  | .ref _ :: _, _, h => by cases h
def rdv (μ : Mem) : UV → Option PyData
  | .dat d => some d
  | .ref p => match μ p with
    | some (.lst us) => (match allD us with
      | some ds => some (.list ds)
      | none => none)
    | _ => none
@[simp] theorem rdv_dat {μ : Mem} {d : PyData} : rdv μ (.dat d) = some d := rfl
def Dw (K : PySem.W.Frag) (N : Hid) (μ : Mem) (H : Hp) (v : V) (d : PyData) : Prop := Da K (fz N μ H) v d ∨ ∃ p vs ds, v = .ref p ∧ d = .list ds ∧ H p = some (.lst vs) ∧ DaAll K (fz N μ H) vs ds
section
variable {K : PySem.W.Frag} {L : Link} {N : Hid} {μ : Mem} {H : Hp}
theorem paired_dat : ∀ {vs : List V} {ds : List PyData}, Paired (VR K N μ H) vs (ds.map UV.dat) → DaAll K (fz N μ H) vs ds
  | _, [], h => by cases h; exact .nil
  | _, d :: ds, h => by
    cases h with
    | cons a b => exact .cons a (paired_dat b)
theorem dat_paired : ∀ {vs : List V} {ds : List PyData}, DaAll K (fz N μ H) vs ds → Paired (VR K N μ H) vs (ds.map UV.dat)
  | _, _, .nil => .nil
  | _, _, .cons a b => .cons a (dat_paired b)
theorem rdv_dw (h : HR K L N H μ) {v : V} {x : UV} {d : PyData} (hv : VR K N μ H v x) (e : rdv μ x = some d) : Dw K N μ H v d := by
  cases x with
  | dat d' =>
    cases e
    exact .inl hv
  | ref p =>
    simp only [rdv] at e
    split at e
    · rename_i us hp
      split at e
      · rename_i ds he
        cases e
        rw [allD_some he] at hp
        obtain ⟨_, vs, h1, h2⟩ := h.mo p _ hp
        exact .inr ⟨p, vs, ds, hv, rfl, h1, paired_dat h2⟩
      · cases e
    · cases e
theorem Dw.da {v : V} {d : PyData} (h : Dw K N μ H v d) : Da K H v d := by
  rcases h with h | ⟨p, vs, ds, rfl, rfl, h1, h2⟩
  · exact Da.up h
  · exact .lst h1 (DaAll.up h2)
theorem Dw.lst {v : V} {ds : List PyData} (h : Dw K N μ H v (.list ds)) : ∃ p vs, v = .ref p ∧ H p = some (.lst vs) ∧ DaAll K (fz N μ H) vs ds := by
  rcases h with h | ⟨p, vs, ds, rfl, e, h1, h2⟩
  · cases h with
    | lst h1 h2 => exact ⟨_, _, rfl, hdn_ex _ _ h1, h2⟩
  · cases e
    exact ⟨_, _, rfl, h1, h2⟩
theorem Dw.tup {v : V} {ds : List PyData} (h : Dw K N μ H v (.tuple ds)) : ∃ p vs, v = .ref p ∧ SqT K (fz N μ H) p vs ∧ DaAll K (fz N μ H) vs ds := by
  rcases h with h | ⟨p, vs, ds, rfl, e, h1, h2⟩
  · exact Da.tupI h
  · cases e
theorem Dw.str {v : V} {z : Str} (h : Dw K N μ H v (.str z)) : v = .str z := h.da.strI
theorem Dw.int {v : V} {z : Int} (h : Dw K N μ H v (.int z)) : v = .int z := h.da.intI
theorem Dw.bl {v : V} {z : Bool} (h : Dw K N μ H v (.bool z)) : v = .bl z := h.da.blI
theorem Dw.non {v : V} (h : Dw K N μ H v .none) : v = .non := h.da.nonI
theorem nw_l (h : HR K L N H μ) {vs : List V} {ds : List PyData} {Q : VK} (hd : DaAll K (fz N μ H) vs ds) (q : ∀ u H', Ex H H' → Da K (fz N μ H') u (.list ds) → Q u H') : nwL vs H Q :=
  fun p H' n e hp => q _ H' e (da_lst h.sits n e hp hd)
theorem nw_t (h : HR K L N H μ) {vs : List V} {ds : List PyData} {Q : VK} (hd : DaAll K (fz N μ H) vs ds) (q : ∀ u H', Ex H H' → Da K (fz N μ H') u (.tuple ds) → Q u H') : nwT vs H Q :=
  fun p H' n e hp => q _ H' e (da_tup h.sits n e hp hd)
end
def uVar (i : Nat) : UE := fun ρ μ R => match ρ[i]? with
  | some (some x) => R x μ
  | _ => False
def uC (d : PyData) : UE := fun _ μ R => R (.dat d) μ
def uNil : UA := fun _ μ R => R [] μ
def uCons (a : UE) (r : UA) : UA := fun ρ μ R => a ρ μ fun x μ1 => r ρ μ1 fun xs μ2 => R (x :: xs) μ2
def okD (o : Option PyData) (μ : Mem) (R : UK) : Prop := match o with
  | some r => R (.dat r) μ
  | none => False
def uUn1 (f : PyData → Option PyData) (x : UV) (μ : Mem) (R : UK) : Prop := match rdv μ x with
  | some a => okD (f a) μ R
  | none => False
def uBin (f : PyData → PyData → Option PyData) (x y : UV) (μ : Mem) (R : UK) : Prop := match rdv μ x with
  | some a => (match rdv μ y with
    | some b => okD (f a b) μ R
    | none => False)
  | none => False
def uUn (f : PyData → Option PyData) (a : UE) : UE := fun ρ μ R => a ρ μ fun x μ1 => uUn1 f x μ1 R
def uOp (f : PyData → PyData → Option PyData) (a b : UE) : UE := fun ρ μ R => a ρ μ fun x μ1 => b ρ μ1 fun y μ2 => uBin f x y μ2 R
def uM1 (f : PyData → PyData → Option PyData) (a b : UE) : UE := fun ρ μ R => a ρ μ fun x μ1 => match x with
  | .dat (.str z) => b ρ μ1 fun y μ2 => uBin f (.dat (.str z)) y μ2 R
  | _ => False
def asB (x : UV) (μ : Mem) (R : Bool → Mem → Prop) : Prop := match x with
  | .dat (.bool b) => R b μ
  | _ => False
def uTst (a : UE) : UT := fun ρ μ R => a ρ μ fun x μ1 => asB x μ1 R
def uNotT (a : UT) : UT := fun ρ μ R => a ρ μ fun b μ1 => R (!b) μ1
def uAnd (a b : UT) : UT := fun ρ μ R => a ρ μ fun c μ1 => if c = true then b ρ μ1 R else R false μ1
def uOr (a b : UT) : UT := fun ρ μ R => a ρ μ fun c μ1 => if c = true then R true μ1 else b ρ μ1 R
def uAndV (a b : UE) : UE := fun ρ μ R => a ρ μ fun x μ1 => asB x μ1 fun c μ1 => if c = true then b ρ μ1 R else R (.dat (.bool false)) μ1
def uOrV (a b : UE) : UE := fun ρ μ R => a ρ μ fun x μ1 => asB x μ1 fun c μ1 => if c = true then R (.dat (.bool true)) μ1 else b ρ μ1 R
def uNotV (a : UE) : UE := fun ρ μ R => a ρ μ fun x μ1 => asB x μ1 fun c μ1 => R (.dat (.bool (!c))) μ1
def uIfE (t : UT) (a b : UE) : UE := fun ρ μ R => t ρ μ fun c μ1 => if c = true then a ρ μ1 R else b ρ μ1 R
def uChain (f g : PyData → PyData → Option PyData) (a b c : UE) : UE := fun ρ μ R => a ρ μ fun x μ1 => b ρ μ1 fun y μ2 => uBin f x y μ2 fun z μ3 => asB z μ3 fun k μ3 => if k = true then c ρ μ3 fun w μ4 => uBin g y w μ4 R else R (.dat (.bool false)) μ3
def ixU (x y : UV) (μ : Mem) (R : UK) (f : PyData → PyData → Option PyData) : Prop := match y with
  | .dat i => (match x with
    | .dat d => okD (f d i) μ R
    | .ref p => (match μ p with
      | some (.lst us) => (match i with
        | .int i => (match atI us i with
          | some u => R u μ
          | none => False)
        | _ => False)
      | _ => False))
  | _ => False
def opIx : PyData → PyData → Option PyData
  | .list ds, .int i => atI ds i
  | .tuple ds, .int i => atI ds i
  | .str z, .int i => if z.length ≤ 1000000 then (match atI z.cps.toList i with
    | some c => some (.str ⟨#[c]⟩)
    | none => none) else none
  | _, _ => none
def uIx (a b : UE) : UE := fun ρ μ R => a ρ μ fun x μ1 => b ρ μ1 fun y μ2 => ixU x y μ2 R opIx
def uTup (a : UA) : UE := fun ρ μ R => a ρ μ fun xs μ1 => xs.length ≤ 1000 ∧ (match allD xs with
  | some ds => R (.dat (.tuple ds)) μ1
  | none => ∀ p, μ1 p = none → R (.ref p) (put μ1 p (.tpl xs)))
def uLst (a : UA) : UE := fun ρ μ R => a ρ μ fun xs μ1 => xs.length ≤ 1000 ∧ (match allD xs with
  | some ds => R (.dat (.list ds)) μ1
  | none => False)
def uLstM (a : UA) : UE := fun ρ μ R => a ρ μ fun xs μ1 => xs.length ≤ 1000 ∧ ∀ p, μ1 p = none → R (.ref p) (put μ1 p (.lst xs))
def tyU (μ : Mem) : UV → Option String
  | .dat d => some (tyD d)
  | .ref p => match μ p with
    | some (.lst _) => some "list"
    | some (.dct _) => some "dict"
    | _ => none
def uIsi (n : String) (a : UE) : UE := fun ρ μ R => a ρ μ fun x μ1 => match tyU μ1 x with
  | some m => (match kitB m n with
    | some b => R (.dat (.bool b)) μ1
    | none => False)
  | none => False
def uIsN (a : UE) : UE := fun ρ μ R => a ρ μ fun x μ1 => match x with
  | .dat .none => R (.dat (.bool true)) μ1
  | _ => R (.dat (.bool false)) μ1
def uNotN (a : UE) : UE := fun ρ μ R => a ρ μ fun x μ1 => match x with
  | .dat .none => R (.dat (.bool false)) μ1
  | _ => R (.dat (.bool true)) μ1
abbrev UO := Rho → Mem → (Option Int → Mem → Prop) → Prop
def uNoPart : UO := fun _ μ R => R none μ
def uPart (a : UE) : UO := fun ρ μ R => a ρ μ fun x μ1 => match x with
  | .dat (.int i) => R (some i) μ1
  | _ => False
def opSl (lo hi : Option Int) : PyData → Option PyData
  | .str z => if z.length ≤ 1000000 then some (.str (cutS z lo hi)) else none
  | .list ds => some (.list (cutD ds lo hi))
  | .tuple ds => some (.tuple (cutD ds lo hi))
  | _ => none
def uSl (a : UE) (lo hi : UO) : UE := fun ρ μ R => a ρ μ fun x μ1 => lo ρ μ1 fun l μ2 => hi ρ μ2 fun h μ3 => uUn1 (opSl l h) x μ3 R
abbrev UX := Str → UV → Mem → Prop
def UX0 : UX := fun _ _ _ => False
abbrev USp := List UV → Mem → UK → UX → Prop
def uCall (sp : USp) (X : UX) (a : UA) : UE := fun ρ μ R => a ρ μ fun us μ1 => sp us μ1 R X
def frzU (x : UV) (μ : Mem) (R : UK) : Prop := match x with
  | .dat d => R (.dat d) μ
  | .ref p => match μ p with
    | some (.lst us) => (match allD us with
      | some ds => R (.dat (.list ds)) (del μ p)
      | none => False)
    | _ => False
def uFrz (a : UE) : UE := fun ρ μ R => a ρ μ fun x μ1 => frzU x μ1 R
def uAppend (o : UE) (a : UA) : UE := fun ρ μ R => o ρ μ fun x μ1 => match x with
  | .ref p => (match μ1 p with
    | some (.lst _) => a ρ μ1 fun ys μ2 => (match ys with
      | [y] => (match μ2 p with
        | some (.lst us) => us.length < 1000000 ∧ R (.dat .none) (put μ2 p (.lst (us ++ [y])))
        | _ => False)
      | _ => False)
    | _ => False)
  | _ => False
def lenU (μ : Mem) : UV → Option Nat
  | .dat (.list ds) => some ds.length
  | .dat (.tuple ds) => some ds.length
  | .dat (.dict ds) => some ds.length
  | .dat (.str z) => if z.length ≤ 1000000 then some z.length else none
  | .dat _ => none
  | .ref p => match μ p with
    | some (.lst us) => some us.length
    | some (.dct us) => some us.length
    | _ => none
def uLen (a : UE) : UE := fun ρ μ R => a ρ μ fun x μ1 => match lenU μ1 x with
  | some n => R (.dat (.int n)) μ1
  | none => False
def uNext : US := fun U ρ μ => U.nx ρ μ
def uSeq (s t : US) : US := fun U ρ μ => s { U with nx := t U } ρ μ
def uDrop (a : UE) : US := fun U ρ μ => a ρ μ fun _ μ1 => U.nx ρ μ1
def uRet (a : UE) : US := fun U ρ μ => a ρ μ U.rt
def uRetN : US := fun U _ μ => U.rt (.dat .none) μ
def uIf (c : UT) (s t : US) : US := fun U ρ μ => c ρ μ fun b μ1 => if b = true then s U ρ μ1 else t U ρ μ1
def gNameU (i : Nat) : UG := fun x ρ μ k => k (ρ.set i (some x)) μ
def asgAll : List Nat → List PyData → Rho → Option Rho
  | [], [], ρ => some ρ
  | i :: is, d :: ds, ρ => asgAll is ds (ρ.set i (some (.dat d)))
  | _, _, _ => none
def asgAllU : List Nat → List UV → Rho → Option Rho
  | [], [], ρ => some ρ
  | i :: is, d :: ds, ρ => asgAllU is ds (ρ.set i (some d))
  | _, _, _ => none
def gTupU (is : List Nat) : UG := fun x ρ μ k => match x with
  | .dat (.tuple ds) => (match asgAll is ds ρ with
    | some ρ' => k ρ' μ
    | none => False)
  | .ref p => (match μ p with
    | some (.tpl us) => (match asgAllU is us ρ with
      | some ρ' => k ρ' μ
      | none => False)
    | _ => False)
  | _ => False
def uAsg (a : UE) (g : UG) : US := fun U ρ μ => a ρ μ fun x μ1 => g x ρ μ1 U.nx
def uPar (i j : Nat) (a : UA) : US := fun U ρ μ => a ρ μ fun xs μ1 => match xs with
  | [x, y] => U.nx ((ρ.set i (some x)).set j (some y)) μ1
  | _ => False
def uFz (i : Nat) (s : US) : US := fun U ρ μ => match ρ[i]? with
  | some (some x) => frzU x μ fun y μ1 => s U (ρ.set i (some y)) μ1
  | _ => False
def forL (chk : Mem → Prop) (g : UG) (b : US) : List UV → US
  | [] => fun U ρ μ => chk μ ∧ U.nx ρ μ
  | x :: xs => fun U ρ μ => chk μ ∧ g x ρ μ fun ρ' μ' => b { U with nx := forL chk g b xs U, ct := forL chk g b xs U, bk := U.nx } ρ' μ'
def uFor (i : UI) (g : UG) (b : US) : US := fun U ρ μ => i ρ μ fun it μ1 => forL it.chk g b it.items U ρ μ1
def lcL (chk : Mem → Prop) (g : UG) (t : UT) (e : UE) (vs : List Nat) (ρ : Rho) (R : List UV → Mem → Prop) : List UV → List UV → Mem → Prop
  | [], acc => fun μ => chk μ ∧ R acc μ
  | x :: xs, acc => fun μ => chk μ ∧ g x (wipeU ρ vs) μ fun ρ2 μ2 => t ρ2 μ2 fun b μ3 => if b = true then e ρ2 μ3 fun y μ4 => lcL chk g t e vs ρ R xs (acc ++ [y]) μ4 else lcL chk g t e vs ρ R xs acc μ3
def uYes : UT := fun _ μ R => R true μ
def uLc (i : UI) (g : UG) (t : UT) (e : UE) (vs : List Nat) : UE := fun ρ μ R => i ρ μ fun it μ1 => it.items.length ≤ 1000000 ∧ lcL it.chk g t e vs ρ (fun acc μ2 => match allD acc with
  | some ds => R (.dat (.list ds)) μ2
  | none => False) it.items [] μ1
def uRng1 (a : UA) : UI := fun ρ μ R => a ρ μ fun xs μ1 => match xs with
  | [.dat (.int j)] => (-(2 ^ 62) ≤ j ∧ j < 2 ^ 62) ∧ R ⟨(List.range j.toNat).map fun (k : Nat) => UV.dat (.int k), fun _ => True⟩ μ1
  | _ => False
def uRng2 (a : UA) : UI := fun ρ μ R => a ρ μ fun xs μ1 => match xs with
  | [.dat (.int i), .dat (.int j)] => (-(2 ^ 62) ≤ i ∧ i < 2 ^ 62 ∧ -(2 ^ 62) ≤ j ∧ j < 2 ^ 62) ∧ R ⟨(List.range (j - i).toNat).map fun (k : Nat) => UV.dat (.int (i + k)), fun _ => True⟩ μ1
  | _ => False
def itemsU (x : UV) (μ : Mem) (R : IT → Mem → Prop) : Prop := match x with
  | .dat (.list ds) => R ⟨ds.map UV.dat, fun _ => True⟩ μ
  | .dat (.tuple ds) => R ⟨ds.map UV.dat, fun _ => True⟩ μ
  | .dat (.str z) => R ⟨z.cps.toList.map fun c => UV.dat (.str ⟨#[c]⟩), fun _ => True⟩ μ
  | .dat _ => False
  | .ref p => match μ p with
    | some (.lst us) => R ⟨us, fun μ => μ p = some (.lst us)⟩ μ
    | _ => False
def uAny (a : UE) : UI := fun ρ μ R => a ρ μ fun x μ1 => itemsU x μ1 R
end CN

set_option Elab.async false
set_option linter.all false
set_option maxRecDepth 100000
set_option maxHeartbeats 4000000
namespace CN
open PySem PySem.Spec PyProof.Rows L2 Evl

section
variable {K : PySem.W.Frag} {L : Link}
theorem vrD {N : Hid} {μ : Mem} {H : Hp} {v : V} {d : PyData} (h : Da K (fz N μ H) v d) : VR K N μ H v (.dat d) := h
theorem okD_some {o : Option PyData} {μ : Mem} {R : UK} (h : okD o μ R) : ∃ r, o = some r ∧ R (.dat r) μ := by
  unfold okD at h
  split at h
  · exact ⟨_, rfl, h⟩
  · exact h.elim
theorem uUn1_some {f : PyData → Option PyData} {x : UV} {μ : Mem} {R : UK} (h : uUn1 f x μ R) : ∃ a r, rdv μ x = some a ∧ f a = some r ∧ R (.dat r) μ := by
  unfold uUn1 at h
  split at h
  · obtain ⟨r, h1, h2⟩ := okD_some h
    exact ⟨_, r, by assumption, h1, h2⟩
  · exact h.elim
theorem uBin_some {f : PyData → PyData → Option PyData} {x y : UV} {μ : Mem} {R : UK} (h : uBin f x y μ R) : ∃ a b r, rdv μ x = some a ∧ rdv μ y = some b ∧ f a b = some r ∧ R (.dat r) μ := by
  unfold uBin at h
  split at h
  · split at h
    · obtain ⟨r, h1, h2⟩ := okD_some h
      exact ⟨_, _, r, by assumption, by assumption, h1, h2⟩
    · exact h.elim
  · exact h.elim
theorem asB_some {x : UV} {μ : Mem} {R : Bool → Mem → Prop} (h : asB x μ R) : ∃ b, x = .dat (.bool b) ∧ R b μ := by
  unfold asB at h
  split at h
  · exact ⟨_, rfl, h⟩
  · exact h.elim
theorem se_var {i : Nat} : SE K L (tVar i) (uVar i) := fun N σ H ρ μ Q R hr sr hu k => by
  unfold uVar at hu
  split at hu
  · rename_i x e
    obtain ⟨v, h1, h2⟩ := sr.2 i x e
    exact ⟨v, h1, k v H x μ Gr.refl hr h2 hu⟩
  · exact hu.elim
theorem se_c {v : V} {d : PyData} (h : ∀ H, Da K H v d) : SE K L (tC v) (uC d) := fun N σ H ρ μ Q R hr sr hu k => k v H _ μ Gr.refl hr (vrD (h _)) hu
theorem se_non : SE K L (tC .non) (uC .none) := se_c fun _ => .non
theorem se_bl {b : Bool} : SE K L (tC (.bl b)) (uC (.bool b)) := se_c fun _ => .bl b
theorem se_int {b : Int} : SE K L (tC (.int b)) (uC (.int b)) := se_c fun _ => .int b
theorem se_str {b : Str} : SE K L (tC (.str b)) (uC (.str b)) := se_c fun _ => .str b
theorem sa_nil : SA K L tNil uNil := fun N σ H ρ μ Q R hr sr hu k => k [] H [] μ Gr.refl hr .nil hu
theorem sa_cons {ta : TE} {tr : TA} {ua : UE} {ur : UA} (h : SE K L ta ua) (h' : SA K L tr ur) : SA K L (tCons ta tr) (uCons ua ur) := fun N σ H ρ μ Q R hr sr hu k =>
  h N σ H ρ μ _ _ hr sr hu fun v H1 x μ1 g1 hr1 hv hu1 => h' N σ H1 ρ μ1 _ _ hr1 (sr.to g1) hu1 fun vs H2 xs μ2 g2 hr2 hvs hu2 =>
    k (v :: vs) H2 (x :: xs) μ2 (g1.trans g2) hr2 (.cons (VR.to g2 hv) hvs) hu2
def OpS (K : PySem.W.Frag) (r : R2) (f : PyData → PyData → Option PyData) : Prop := ∀ L N μ H v w a b res Q, HR K L N H μ → Dw K N μ H v a → Dw K N μ H w b → f a b = some res → (∀ u H', Ex H H' → Da K (fz N μ H') u res → Q u H') → r v w H Q
def U1S (K : PySem.W.Frag) (r : V → Hp → VK → Prop) (f : PyData → Option PyData) : Prop := ∀ L N μ H v a res Q, HR K L N H μ → Dw K N μ H v a → f a = some res → (∀ u H', Ex H H' → Da K (fz N μ H') u res → Q u H') → r v H Q
theorem bin_ok {r : R2} {f : PyData → PyData → Option PyData} (ho : OpS K r f) {N : Hid} {H : Hp} {μ : Mem} {v w : V} {x y : UV} {Q : VK} {R : UK} (hr : HR K L N H μ) (hv : VR K N μ H v x) (hw : VR K N μ H w y) (hu : uBin f x y μ R)
    (k : ∀ v H' x μ', Gr N H μ H' μ' → HR K L N H' μ' → VR K N μ' H' v x → R x μ' → Q v H') : r v w H Q := by
  obtain ⟨a, b, res, h1, h2, h3, h4⟩ := uBin_some hu
  exact ho L N μ H v w a b res Q hr (rdv_dw hr hv h1) (rdv_dw hr hw h2) h3 fun u H' e hd => k u H' _ μ (Gr.ofEx hr e) (hr.ofEx e) (vrD hd) h4
theorem un_ok {r : V → Hp → VK → Prop} {f : PyData → Option PyData} (ho : U1S K r f) {N : Hid} {H : Hp} {μ : Mem} {v : V} {x : UV} {Q : VK} {R : UK} (hr : HR K L N H μ) (hv : VR K N μ H v x) (hu : uUn1 f x μ R)
    (k : ∀ v H' x μ', Gr N H μ H' μ' → HR K L N H' μ' → VR K N μ' H' v x → R x μ' → Q v H') : r v H Q := by
  obtain ⟨a, res, h1, h3, h4⟩ := uUn1_some hu
  exact ho L N μ H v a res Q hr (rdv_dw hr hv h1) h3 fun u H' e hd => k u H' _ μ (Gr.ofEx hr e) (hr.ofEx e) (vrD hd) h4
section
variable {ta tb tc : TE} {ua ub uc : UE}
theorem se_op {r : R2} {f : PyData → PyData → Option PyData} (ho : OpS K r f) (ha : SE K L ta ua) (hb : SE K L tb ub) : SE K L (tOp r ta tb) (uOp f ua ub) := fun N σ H ρ μ Q R hr sr hu k =>
  ha N σ H ρ μ _ _ hr sr hu fun v H1 x μ1 g1 hr1 hv hu1 => hb N σ H1 ρ μ1 _ _ hr1 (sr.to g1) hu1 fun w H2 y μ2 g2 hr2 hw hu2 =>
    bin_ok ho hr2 (VR.to g2 hv) hw hu2 fun v' H3 x' μ3 g3 => k v' H3 x' μ3 ((g1.trans g2).trans g3)
theorem se_un {r : V → Hp → VK → Prop} {f : PyData → Option PyData} (ho : U1S K r f) (ha : SE K L ta ua) : SE K L (tUn r ta) (uUn f ua) := fun N σ H ρ μ Q R hr sr hu k =>
  ha N σ H ρ μ _ _ hr sr hu fun v H1 x μ1 g1 hr1 hv hu1 => un_ok ho hr1 hv hu1 fun v' H3 x' μ3 g3 => k v' H3 x' μ3 (g1.trans g3)
theorem st_test (ha : SE K L ta ua) : ST K L (tTest ta) (uTst ua) := fun N σ H ρ μ Q R hr sr hu k =>
  ha N σ H ρ μ _ _ hr sr hu fun v H1 x μ1 g1 hr1 hv hu1 => by
    obtain ⟨b, rfl, hu1⟩ := asB_some hu1
    exact ⟨b, Da.blI hv, k b H1 μ1 g1 hr1 hu1⟩
theorem st_b (ha : SE K L ta ua) : ST K L (tB ta) (uTst ua) := fun N σ H ρ μ Q R hr sr hu k =>
  ha N σ H ρ μ _ _ hr sr hu fun v H1 x μ1 g1 hr1 hv hu1 => by
    obtain ⟨b, rfl, hu1⟩ := asB_some hu1
    exact ⟨b, Da.blI hv, k b H1 μ1 g1 hr1 hu1⟩
section
variable {t1 t2 : TT} {u1 u2 : UT}
theorem st_or (h : ST K L t1 u1) (h' : ST K L t2 u2) : ST K L (tOr t1 t2) (uOr u1 u2) := fun N σ H ρ μ Q R hr sr hu k =>
  h N σ H ρ μ _ _ hr sr hu fun b H1 μ1 g1 hr1 hu1 => by
    cases b with
    | true => exact k true H1 μ1 g1 hr1 hu1
    | false => exact h' N σ H1 ρ μ1 _ _ hr1 (sr.to g1) hu1 fun b H2 μ2 g2 => k b H2 μ2 (g1.trans g2)
theorem se_ife (h : ST K L t1 u1) (ha : SE K L ta ua) (hb : SE K L tb ub) : SE K L (tIf t1 ta tb) (uIfE u1 ua ub) := fun N σ H ρ μ Q R hr sr hu k =>
  h N σ H ρ μ _ _ hr sr hu fun b H1 μ1 g1 hr1 hu1 => by
    cases b with
    | true => exact ha N σ H1 ρ μ1 _ _ hr1 (sr.to g1) hu1 fun v H2 x μ2 g2 => k v H2 x μ2 (g1.trans g2)
    | false => exact hb N σ H1 ρ μ1 _ _ hr1 (sr.to g1) hu1 fun v H2 x μ2 g2 => k v H2 x μ2 (g1.trans g2)
end
end
theorem atI_pair {α β : Type} {F : α → β → Prop} {xs : List α} {ys : List β} (h : Paired F xs ys) {i : Int} {y : β} (e : atI ys i = some y) : ∃ x, atI xs i = some x ∧ F x y := by
  have key : ∀ {xs : List α} {ys : List β}, Paired F xs ys → ∀ {j : Nat} {y : β}, ys[j]? = some y → ∃ x, xs[j]? = some x ∧ F x y := by
    intro xs ys h
    induction h with
    | nil => intro j y e; simp at e
    | cons a b ih =>
      intro j y e
      cases j with
      | zero => cases e; exact ⟨_, rfl, a⟩
      | succ j => exact ih e
  unfold atI at e ⊢
  rw [h.length]
  cases q : ixN ys.length i with
  | none => rw [q] at e; cases e
  | some j =>
    rw [q] at e
    exact key h e
theorem da_pair {H : Hp} : ∀ {vs : List V} {ds : List PyData}, DaAll K H vs ds → Paired (Da K H) vs ds
  | _, _, .nil => .nil
  | _, _, .cons a b => .cons a (da_pair b)
theorem ixU_some {x y : UV} {μ : Mem} {R : UK} (h : ixU x y μ R opIx) : ∃ i, y = .dat (.int i) ∧ ((∃ d r, x = .dat d ∧ opIx d (.int i) = some r ∧ R (.dat r) μ) ∨ ∃ p us u, x = .ref p ∧ μ p = some (.lst us) ∧ atI us i = some u ∧ R u μ) := by
  unfold ixU at h
  split at h
  · rename_i i
    split at h
    · rename_i d
      obtain ⟨r, h1, h2⟩ := okD_some h
      cases i with
      | int i => exact ⟨i, rfl, .inl ⟨d, r, rfl, h1, h2⟩⟩
      | _ => cases d <;> cases h1
    · split at h
      · split at h
        · split at h
          · exact ⟨_, rfl, .inr ⟨_, _, _, rfl, by assumption, by assumption, h⟩⟩
          · exact h.elim
        · exact h.elim
      · exact h.elim
  · exact h.elim
theorem se_ix {ta tb : TE} {ua ub : UE} (ha : SE K L ta ua) (hb : SE K L tb ub) : SE K L (tOp (rIx K) ta tb) (uIx ua ub) := fun N σ H ρ μ Q R hr sr hu k =>
  ha N σ H ρ μ _ _ hr sr hu fun v H1 x μ1 g1 hr1 hv hu1 => hb N σ H1 ρ μ1 _ _ hr1 (sr.to g1) hu1 fun w H2 y μ2 g2 hr2 hw hu2 => by
    obtain ⟨i, rfl, h⟩ := ixU_some hu2
    have ew : w = .int i := Da.intI hw
    subst ew
    have hv2 := VR.to g2 hv
    rcases h with ⟨d, r, rfl, e, hR⟩ | ⟨p, us, u, rfl, hp, e, hR⟩
    · have hd : Da K (fz N μ2 H2) v d := hv2
      cases d with
      | list ds =>
        obtain ⟨a, xs, rfl, h1, h2⟩ := hd.lstI
        obtain ⟨z, e1, e2⟩ := atI_pair (da_pair h2) e
        exact ix_l (hdn_ex _ _ h1) e1 (k z H2 _ μ2 (g1.trans g2) hr2 (vrD e2) hR)
      | tuple ds =>
        obtain ⟨a, xs, rfl, h1, h2⟩ := hd.tupI
        obtain ⟨z, e1, e2⟩ := atI_pair (da_pair h2) e
        exact ix_T (ex_t hdn_ex h1) e1 (k z H2 _ μ2 (g1.trans g2) hr2 (vrD e2) hR)
      | str z =>
        cases hd
        simp only [opIx] at e
        split at e
        · rename_i hz
          split at e
          · rename_i c hc
            cases e
            exact ix_S (line_ge (by omega)) hc (k _ H2 _ μ2 (g1.trans g2) hr2 (vrD (.str _)) hR)
          · cases e
        · cases e
      | none => cases e
      | bool _ => cases e
      | int _ => cases e
      | dict _ => cases e
    · have ev : v = .ref p := hv2
      subst ev
      obtain ⟨_, vs, h1, h2⟩ := hr2.mo p _ hp
      obtain ⟨z, e1, e2⟩ := atI_pair h2 e
      exact ix_l h1 e1 (k z H2 _ μ2 (g1.trans g2) hr2 e2 hR)
theorem hr_newT {N : Hid} {H H1 : Hp} {μ : Mem} {p : Addr} {vs : List V} {us : List UV} (hr : HR K L N H μ) (n : H p = none) (e : Ex H H1) (hp : H1 p = some (.tup vs)) (hv : Paired (VR K N μ H) vs us) : Gr N H μ H1 (put μ p (.tpl us)) ∧ HR K L N H1 (put μ p (.tpl us)) := by
  have g : Gr N H μ H1 (put μ p (.tpl us)) := Gr.put hr n e
  refine ⟨g, hr.put (hr.new n).1 g (fun a o _ q => e a o q) ⟨vs, hp, pmap hv fun _ _ => VR.to g⟩ fun x q => ?_⟩
  rw [(hr.new n).2] at q
  cases q
theorem se_tup {t : TA} {u : UA} (h : SA K L t u) : SE K L (tTupG t) (uTup u) := fun N σ H ρ μ Q R hr sr hu k =>
  h N σ H ρ μ _ _ hr sr hu fun vs H1 xs μ1 g1 hr1 hv hu1 => by
    obtain ⟨hl, hu1⟩ := hu1
    split at hu1
    · rename_i ds e
      rw [allD_some e] at hv
      refine ⟨line_ge (by rw [hv.length, List.length_map]; rw [allD_some e, List.length_map] at hl; omega), nw_t hr1 (paired_dat hv) fun u H' e' hd => k u H' _ μ1 (g1.trans (Gr.ofEx hr1 e')) (hr1.ofEx e') (vrD hd) hu1⟩
    · refine ⟨line_ge (by rw [hv.length]; omega), fun p H2 n e hp => ?_⟩
      obtain ⟨g, hr2⟩ := hr_newT hr1 n e hp hv
      exact k _ H2 (.ref p) _ (g1.trans g) hr2 rfl (hu1 p (hr1.new n).2)
theorem se_lst {t : TA} {u : UA} (h : SA K L t u) : SE K L (tLstG t) (uLst u) := fun N σ H ρ μ Q R hr sr hu k =>
  h N σ H ρ μ _ _ hr sr hu fun vs H1 xs μ1 g1 hr1 hv hu1 => by
    obtain ⟨hl, hu1⟩ := hu1
    split at hu1
    · rename_i ds e
      rw [allD_some e] at hv
      refine ⟨line_ge (by rw [hv.length, List.length_map]; rw [allD_some e, List.length_map] at hl; omega), nw_l hr1 (paired_dat hv) fun u H' e' hd => k u H' _ μ1 (g1.trans (Gr.ofEx hr1 e')) (hr1.ofEx e') (vrD hd) hu1⟩
    · exact hu1.elim
theorem hr_new {N : Hid} {H H1 : Hp} {μ : Mem} {p : Addr} {vs : List V} {us : List UV} (hr : HR K L N H μ) (n : H p = none) (e : Ex H H1) (hp : H1 p = some (.lst vs)) (hv : Paired (VR K N μ H) vs us) : Gr N H μ H1 (put μ p (.lst us)) ∧ HR K L N H1 (put μ p (.lst us)) := by
  have g : Gr N H μ H1 (put μ p (.lst us)) := Gr.put hr n e
  refine ⟨g, hr.put (hr.new n).1 g (fun a o _ q => e a o q) ⟨vs, hp, pmap hv fun _ _ => VR.to g⟩ fun x q => ?_⟩
  rw [(hr.new n).2] at q
  cases q
theorem se_lstM {t : TA} {u : UA} (h : SA K L t u) : SE K L (tLstG t) (uLstM u) := fun N σ H ρ μ Q R hr sr hu k =>
  h N σ H ρ μ _ _ hr sr hu fun vs H1 xs μ1 g1 hr1 hv hu1 => by
    obtain ⟨hl, hu1⟩ := hu1
    refine ⟨line_ge (by rw [hv.length]; omega), fun p H2 n e hp => ?_⟩
    obtain ⟨g, hr2⟩ := hr_new hr1 n e hp hv
    exact k _ H2 (.ref p) _ (g1.trans g) hr2 rfl (hu1 p (hr1.new n).2)
theorem se_isi {ta : TE} {ua : UE} {n : String} (ha : SE K L ta ua) : SE K L (tCB (rIsiU K) (tCons ta (tCons (tC (.ty n)) tNil))) (uIsi n ua) := fun N σ H ρ μ Q R hr sr hu k =>
  ha N σ H ρ μ _ _ hr sr hu fun v H1 x μ1 g1 hr1 hv hu1 => by
    split at hu1
    · rename_i m hm
      split at hu1
      · rename_i b hb
        have q : Q (.bl b) H1 := k _ H1 _ μ1 g1 hr1 (vrD (.bl b)) hu1
        cases x with
        | dat d =>
          cases hm
          exact da_isi (Da.up hv) hb q
        | ref p =>
          have ev : v = .ref p := hv
          subst ev
          simp only [tyU] at hm
          split at hm
          · rename_i us hp
            cases hm
            obtain ⟨_, vs, h1, _⟩ := hr1.mo p _ hp
            exact isi_ty (.base (.lst h1)) hb q
          · rename_i us hp
            cases hm
            obtain ⟨_, vs, h1, _⟩ := hr1.mo p _ hp
            exact isi_ty (.base (.dK h1)) hb q
          · cases hm
      · exact hu1.elim
    · exact hu1.elim
end
end CN

set_option Elab.async false
set_option linter.all false
set_option maxRecDepth 100000
set_option maxHeartbeats 4000000
namespace CN
open PySem PySem.Spec PyProof.Rows L2 Evl
abbrev CT := Str → Option (Addr × Str)
def ct0 : CT := fun _ => none
def XLk (K : PySem.W.Frag) (ct : CT) (N : Hid) (H : Hp) (μ : Mem) (E : XK) (X : UX) : Prop := ∀ c C f x v d H' μ', ct c = some (C, f) → Gr N H μ H' μ' → HR K L0 N H' μ' → ¬ hs N μ' d → H' d = some (.xd [(f, v)]) → VR K N μ' H' v x → X c x μ' → E (.ref C) (some d) H'
def liftX (K : PySem.W.Frag) (ct : CT) (sp : USp) : Sp := fun vs H Q E => ∃ N μ us R X, HR K L0 N H μ ∧ Paired (VR K N μ H) vs us ∧ sp us μ R X ∧ (∀ v H' x μ', Gr N H μ H' μ' → HR K L0 N H' μ' → VR K N μ' H' v x → R x μ' → Q v H') ∧ XLk K ct N H μ E X
abbrev lift (K : PySem.W.Frag) (sp : USp) : Sp := liftX K ct0 sp
section
variable {K : PySem.W.Frag} {L : Link}
theorem xlk0 {N : Hid} {H : Hp} {μ : Mem} {E : XK} {X : UX} : XLk K ct0 N H μ E X := fun c C f x v d H' μ' h => nomatch h
theorem se_call {sp : USp} {t : TA} {u : UA} (h : SA K L t u) : SE K L (tCall (lift K sp) [] E0 t) (uCall sp UX0 u) := fun N σ H ρ μ Q R hr sr hu k =>
  h N σ H ρ μ _ _ hr sr hu fun vs H1 xs μ1 g1 hr1 hv hu1 => ⟨N, μ1, xs, R, UX0, hr1.drop, by rw [List.append_nil]; exact hv, hu1, fun v H' x μ' g hr' => k v H' x μ' (g1.trans g) (hr'.with (L.mo _ _ _ _ _ hr1.lk g)), xlk0⟩
theorem hr_set {N : Hid} {H : Hp} {μ : Mem} {p : Addr} {us' : List UV} {m0 : MO} {vs' : List V} (hr : HR K L N H μ) (hp : μ p = some m0) (hm : ∀ x, m0 ≠ .shd x) (hv : Paired (VR K N μ H) vs' us') : Gr N H μ (upd H p (.lst vs')) (put μ p (.lst us')) ∧ HR K L N (upd H p (.lst vs')) (put μ p (.lst us')) := by
  have g : Gr N H μ (upd H p (.lst vs')) (put μ p (.lst us')) := Gr.set hr hp fun a o n q => by rw [upd_ne n]; exact q
  refine ⟨g, hr.put (hr.mo p _ hp).1 g (fun a o n q => by rw [upd_ne n]; exact q) ⟨vs', upd_same, pmap hv fun _ _ => VR.to g⟩ fun x q => ?_⟩
  rw [hp] at q
  cases q
  exact absurd rfl (hm x)
theorem paired_app {α β : Type} {F : α → β → Prop} : ∀ {l1 l2 : List α} {m1 m2 : List β}, Paired F l1 m1 → Paired F l2 m2 → Paired F (l1 ++ l2) (m1 ++ m2)
  | _, _, _, _, .nil, h => h
  | _, _, _, _, .cons a b, h => .cons a (paired_app b h)
theorem tyL {N : Hid} {H : Hp} {μ : Mem} {p : Addr} {us : List UV} (hr : HR K L N H μ) (hp : μ p = some (.lst us)) : tyV K "list" (.ref p) H := by
  obtain ⟨_, vs, h1, _⟩ := hr.mo p _ hp
  exact .inl ⟨rfl, vs, SqL.of h1⟩
theorem se_append {to : TE} {uo : UE} {t : TA} {u : UA} (ho : SE K L to uo) (h : SA K L t u) : SE K L (tBM K "list" rAppend to t) (uAppend uo u) := fun N σ H ρ μ Q R hr sr hu k =>
  ho N σ H ρ μ _ _ hr sr hu fun v H1 x μ1 g1 hr1 hv hu1 => by
    split at hu1
    · rename_i p
      have ev : v = .ref p := hv
      subst ev
      split at hu1
      · rename_i us0 hp0
        refine ⟨tyL hr1 hp0, h N σ H1 ρ μ1 _ _ hr1 (sr.to g1) hu1 fun ws H2 ys μ2 g2 hr2 hw hu2 => ?_⟩
        split at hu2
        · rename_i y
          cases hw with
          | cons hy hn =>
            cases hn
            split at hu2
            · rename_i us hp
              obtain ⟨_, vs, h1, h2⟩ := hr2.mo p _ hp
              obtain ⟨g3, hr3⟩ := hr_set hr2 hp (fun x z => nomatch z) (h2.snoc hy)
              exact ⟨p, vs, _, rfl, rfl, h1, by rw [h2.length, sizeLine_eq]; omega, k _ _ _ _ ((g1.trans g2).trans g3) hr3 (vrD .non) hu2.2⟩
            · exact hu2.elim
        · exact hu2.elim
      · exact hu1.elim
    · exact hu1.elim
theorem se_len {ta : TE} {ua : UE} (ha : SE K L ta ua) : SE K L (tCB (rLenU K) (tCons ta tNil)) (uLen ua) := fun N σ H ρ μ Q R hr sr hu k =>
  ha N σ H ρ μ _ _ hr sr hu fun v H1 x μ1 g1 hr1 hv hu1 => by
    split at hu1
    · rename_i n hn
      have q : Q (.int n) H1 := k _ H1 _ μ1 g1 hr1 (vrD (.int _)) hu1
      cases x with
      | dat d =>
        have hd : Da K H1 v d := Da.up hv
        cases d with
        | list ds =>
          obtain ⟨a, xs, rfl, h1, h2⟩ := hd.lstI
          cases hn
          exact .inl ⟨xs, .inl (SqL.of h1), by rw [h2.length]; exact q⟩
        | tuple ds =>
          obtain ⟨a, xs, rfl, h1, h2⟩ := hd.tupI
          cases hn
          exact .inl ⟨xs, .inr h1, by rw [h2.length]; exact q⟩
        | dict ds =>
          cases hd with
          | dct h1 h2 =>
            cases hn
            refine .inr ⟨_, h1, ?_⟩
            have e : ∀ {kvs : List (Key × V)} {ds : List (PyData × PyData)}, DaKv K H1 kvs ds → kvs.length = ds.length := by
              intro kvs ds h
              have := congrArg List.length h.keys
              simpa using this
            rw [e h2]
            exact q
        | str z =>
          cases hd
          simp only [lenU] at hn
          split at hn
          · cases hn
            exact ⟨line_ge (by omega), q⟩
          · cases hn
        | none => cases hn
        | bool _ => cases hn
        | int _ => cases hn
      | ref p =>
        have ev : v = .ref p := hv
        subst ev
        simp only [lenU] at hn
        split at hn
        · rename_i us hp
          cases hn
          obtain ⟨_, vs, h1, h2⟩ := hr1.mo p _ hp
          exact .inl ⟨vs, .inl (SqL.of h1), by rw [h2.length]; exact q⟩
        · rename_i us hp
          cases hn
          obtain ⟨_, vs, h1, h2⟩ := hr1.mo p _ hp
          exact .inr ⟨vs, h1, by rw [h2.length]; exact q⟩
        · cases hn
    · exact hu1.elim
section
variable {t1 t2 : TS} {u1 u2 : US} {ta : TE} {ua : UE} {tt : TT} {ut : UT}
theorem ss_next : SS K L tNext uNext := fun N D U σ H ρ μ hr sr hu lk => lk.nx σ H ρ μ Gr.refl hr sr hu
theorem ss_seq (h1 : SS K L t1 u1) (h2 : SS K L t2 u2) : SS K L (tSeq t1 t2) (uSeq u1 u2) := fun N D U σ H ρ μ hr sr hu lk =>
  h1 N _ _ σ H ρ μ hr sr hu ⟨fun σ1 H1 ρ1 μ1 g1 hr1 sr1 hu1 => h2 N D U σ1 H1 ρ1 μ1 hr1 sr1 hu1 (lk.to g1), lk.rt, lk.bk, lk.ct⟩
theorem ss_drop (h : SE K L ta ua) : SS K L (tDrop ta) (uDrop ua) := fun N D U σ H ρ μ hr sr hu lk => h N σ H ρ μ _ _ hr sr hu fun v H1 x μ1 g1 hr1 hv hu1 => lk.nx σ H1 ρ μ1 g1 hr1 (sr.to g1) hu1
theorem ss_ret (h : SE K L ta ua) : SS K L (tRet ta) (uRet ua) := fun N D U σ H ρ μ hr sr hu lk => h N σ H ρ μ _ _ hr sr hu fun v H1 x μ1 g1 hr1 hv hu1 => lk.rt v H1 x μ1 g1 hr1 hv hu1
theorem ss_if (h : ST K L tt ut) (h1 : SS K L t1 u1) (h2 : SS K L t2 u2) : SS K L (tIfS tt t1 t2) (uIf ut u1 u2) := fun N D U σ H ρ μ hr sr hu lk =>
  h N σ H ρ μ _ _ hr sr hu fun b H1 μ1 g1 hr1 hu1 => by
    cases b with
    | true => exact h1 N D U σ H1 ρ μ1 hr1 (sr.to g1) hu1 (lk.to g1)
    | false => exact h2 N D U σ H1 ρ μ1 hr1 (sr.to g1) hu1 (lk.to g1)
theorem sg_name {i : Nat} {vs : List Nat} (hi : i ∈ vs) : SG K L (gName i) (gNameU i) vs := fun N v σ H x ρ μ Q R hr sr hv hu k => k _ H _ μ Gr.refl hr (sr.set hv) (wipe_set hi) hu
inductive TGsOk (K : PySem.W.Frag) : TGs → List Nat → Prop
  | nil : TGsOk K gNil []
  | cons {g : TGs} {i : Nat} {is : List Nat} : TGsOk K g is → TGsOk K (gCons (gName i) g) (i :: is)
theorem gs_ok {N : Hid} {H : Hp} {μ : Mem} {Q : L2.St → Hp → Prop} {ws : List Nat} : ∀ {is : List Nat} {g : TGs} {ds : List PyData} {vs : List V} {σ : L2.St} {ρ ρ' : Rho}, TGsOk K g is → SR K N μ H σ ρ → DaAll K (fz N μ H) vs ds → asgAll is ds ρ = some ρ' →
    (∀ i ∈ is, i ∈ ws) → (∀ σ', SR K N μ H σ' ρ' → wipe σ' ws = wipe σ ws → Q σ' H) → g vs σ H Q := by
  intro is
  induction is with
  | nil =>
    intro g ds vs σ ρ ρ' hg sr hd e hw k
    cases hg
    cases hd with
    | nil =>
      cases e
      exact ⟨rfl, k σ sr rfl⟩
    | cons a b => cases e
  | cons i is ih =>
    intro g ds vs σ ρ ρ' hg sr hd e hw k
    cases hg with
    | cons hg =>
      cases hd with
      | nil => cases e
      | cons a b =>
        refine ⟨_, _, rfl, ih hg (sr.set (vrD a)) b e (fun j hj => hw j (List.mem_cons_of_mem _ hj)) fun σ' sr' hw' => k σ' sr' ?_⟩
        rw [hw', wipe_set (hw i List.mem_cons_self)]
theorem gs_okU {N : Hid} {H : Hp} {μ : Mem} {Q : L2.St → Hp → Prop} {ws : List Nat} : ∀ {is : List Nat} {g : TGs} {ds : List UV} {vs : List V} {σ : L2.St} {ρ ρ' : Rho}, TGsOk K g is → SR K N μ H σ ρ → Paired (VR K N μ H) vs ds → asgAllU is ds ρ = some ρ' →
    (∀ i ∈ is, i ∈ ws) → (∀ σ', SR K N μ H σ' ρ' → wipe σ' ws = wipe σ ws → Q σ' H) → g vs σ H Q := by
  intro is
  induction is with
  | nil =>
    intro g ds vs σ ρ ρ' hg sr hd e hw k
    cases hg
    cases hd with
    | nil =>
      cases e
      exact ⟨rfl, k σ sr rfl⟩
    | cons a b => cases e
  | cons i is ih =>
    intro g ds vs σ ρ ρ' hg sr hd e hw k
    cases hg with
    | cons hg =>
      cases hd with
      | nil => cases e
      | cons a b =>
        refine ⟨_, _, rfl, ih hg (sr.set a) b e (fun j hj => hw j (List.mem_cons_of_mem _ hj)) fun σ' sr' hw' => k σ' sr' ?_⟩
        rw [hw', wipe_set (hw i List.mem_cons_self)]
theorem sg_tup {n : Nat} {g : TGs} {is ws : List Nat} (hn : is.length = n) (hg : TGsOk K g is) (hw : ∀ i ∈ is, i ∈ ws) : SG K L (gTup K n g) (gTupU is) ws := fun N v σ H x ρ μ Q R hr sr hv hu k => by
  unfold gTupU at hu
  split at hu
  · rename_i ds
    split at hu
    · rename_i ρ' e
      obtain ⟨a, xs, rfl, h1, h2⟩ := Da.tupI hv
      have hl : ds.length = is.length := by
        have key : ∀ (is : List Nat) (ds : List PyData) (ρ ρ' : Rho), asgAll is ds ρ = some ρ' → ds.length = is.length := by
          intro is
          induction is with
          | nil =>
            intro ds ρ ρ' e
            cases ds with
            | nil => rfl
            | cons _ _ => cases e
          | cons i is ih =>
            intro ds ρ ρ' e
            cases ds with
            | nil => cases e
            | cons d ds => exact congrArg Nat.succ (ih ds _ _ e)
        exact key is ds ρ ρ' e
      refine ⟨a, xs, rfl, ex_t hdn_ex h1, by rw [h2.length, hl, hn], gs_ok hg sr h2 e hw fun σ' sr' hw' => k σ' H ρ' μ Gr.refl hr sr' hw' hu⟩
    · exact hu.elim
  · rename_i p
    split at hu
    · rename_i us hp
      split at hu
      · rename_i ρ' e
        have ev : v = .ref p := hv
        subst ev
        obtain ⟨_, vs, h1, h2⟩ := hr.mo p _ hp
        have hl : us.length = is.length := by
          have key : ∀ (is : List Nat) (ds : List UV) (ρ ρ' : Rho), asgAllU is ds ρ = some ρ' → ds.length = is.length := by
            intro is
            induction is with
            | nil =>
              intro ds ρ ρ' e
              cases ds with
              | nil => rfl
              | cons _ _ => cases e
            | cons i is ih =>
              intro ds ρ ρ' e
              cases ds with
              | nil => cases e
              | cons d ds => exact congrArg Nat.succ (ih ds _ _ e)
          exact key is us ρ ρ' e
        refine ⟨p, vs, rfl, .inl (.inl h1), by rw [h2.length, hl, hn], gs_okU hg sr h2 e hw fun σ' sr' hw' => k σ' H ρ' μ Gr.refl hr sr' hw' hu⟩
      · exact hu.elim
    · exact hu.elim
  · exact hu.elim
theorem ss_asg {g : TG} {ug : UG} {ws : List Nat} (h : SE K L ta ua) (hg : SG K L g ug ws) : SS K L (tAsg ta g) (uAsg ua ug) := fun N D U σ H ρ μ hr sr hu lk => h N σ H ρ μ _ _ hr sr hu fun v H1 x μ1 g1 hr1 hv hu1 =>
  hg N v σ H1 x ρ μ1 _ _ hr1 (sr.to g1) hv hu1 fun σ2 H2 ρ2 μ2 g2 hr2 sr2 _ hu2 => lk.nx σ2 H2 ρ2 μ2 (g1.trans g2) hr2 sr2 hu2
theorem drop_at {α : Type} {l : List α} {i : Nat} {x : α} {r : List α} (h : l.drop i = x :: r) : l[i]? = some x ∧ i < l.length ∧ l.drop (i + 1) = r := by
  have hi : i < l.length := by
    apply Decidable.byContradiction
    intro hn
    rw [List.drop_of_length_le (by omega)] at h
    cases h
  have e := List.drop_eq_getElem_cons hi
  rw [h] at e
  cases e
  exact ⟨List.getElem?_eq_getElem hi, hi, rfl⟩
theorem drop_nil {α : Type} {l : List α} {i : Nat} (h : l.drop i = []) : l.length ≤ i := List.drop_eq_nil_iff.mp h
theorem ss_for {wi : TI} {ui : UI} {g : TG} {ug : UG} {ws : List Nat} (hi : SI K L wi ui) (hg : SG K L g ug ws) (hb : SS K L t1 u1) : SS K L (tFor wi g t1) (uFor ui ug u1) := fun N D U σ H ρ μ hr sr hu lk =>
  hi N σ H ρ μ _ _ hr sr hu fun J H1 it μ1 g1 hr1 its hu1 => by
    refine ⟨fun i m σ' H' => m = it.items.length - i ∧ ∃ ρ' μ', Gr N H1 μ1 H' μ' ∧ HR K L N H' μ' ∧ SR K N μ' H' σ' ρ' ∧ forL it.chk ug u1 (it.items.drop i) U ρ' μ', ⟨_, rfl, ρ, μ1, Gr.refl, hr1, sr.to g1, hu1⟩, ?_⟩
    rintro i m σ2 H2 ⟨rfl, ρ2, μ2, g2, hr2, sr2, hu2⟩
    cases hd : it.items.drop i with
    | nil =>
      rw [hd] at hu2
      exact .inl ⟨its.stop i L N H2 μ2 g2.ex hr2 hu2.1 (drop_nil hd), lk.nx σ2 H2 ρ2 μ2 (g1.trans g2) hr2 sr2 hu2.2⟩
    | cons x r =>
      rw [hd] at hu2
      obtain ⟨ex, hl, er⟩ := drop_at hd
      refine .inr ⟨its.go i L N H2 μ2 g2.ex hr2 hu2.1 hl, fun σ' H' => ∃ ρ' μ', Gr N H1 μ1 H' μ' ∧ HR K L N H' μ' ∧ SR K N μ' H' σ' ρ' ∧ forL it.chk ug u1 r U ρ' μ', ?_, fun v H3 hy => ?_⟩
      · rintro σ' H' ⟨ρ', μ', a, b, c, d⟩
        exact ⟨it.items.length - (i + 1), by omega, rfl, ρ', μ', a, b, c, by rw [er]; exact d⟩
      · obtain ⟨u, eu, hv, e3⟩ := its.yld i L N H2 μ2 v H3 g2.ex hr2 hu2.1 hl hy
        rw [ex] at eu
        cases eu
        have g3 := Gr.ofEx hr2 e3
        have hr3 := hr2.ofEx e3
        refine hg N v σ2 H3 x ρ2 μ2 _ _ hr3 (sr2.to g3) hv hu2.2 fun σ4 H4 ρ4 μ4 g4 hr4 sr4 _ hu4 => ?_
        have g34 := (g2.trans g3).trans g4
        refine hb N _ _ σ4 H4 ρ4 μ4 hr4 sr4 hu4 ⟨fun σ5 H5 ρ5 μ5 g5 hr5 sr5 hu5 => ⟨ρ5, μ5, g34.trans g5, hr5, sr5, hu5⟩, fun v5 H5 x5 μ5 g5 => lk.rt v5 H5 x5 μ5 ((g1.trans g34).trans g5), fun σ5 H5 ρ5 μ5 g5 => lk.nx σ5 H5 ρ5 μ5 ((g1.trans g34).trans g5),
          fun σ5 H5 ρ5 μ5 g5 hr5 sr5 hu5 => ⟨ρ5, μ5, g34.trans g5, hr5, sr5, hu5⟩⟩
end
end
end CN

set_option Elab.async false
set_option linter.all false
set_option maxRecDepth 100000
set_option maxHeartbeats 4000000
namespace CN
open PySem PySem.Spec PyProof.Rows L2 Evl
section
variable {K : PySem.W.Frag} {L : Link}
def hidD (N : Hid) (D : Addr) : Hid := fun a => N a ∨ a = D
theorem hr_in {N : Hid} {H : Hp} {μ : Mem} {D : Addr} {o : HO} (hr : HR K L N H μ) (n : H D = none) : HR K L0 (hidD N D) (upd H D o) μ ∧ Ex (fz N μ H) (fz (hidD N D) μ (upd H D o)) := by
  have ex : Ex (fz N μ H) (fz (hidD N D) μ (upd H D o)) := fun x u q => by
    have nx := hdn_no q
    have q2 := hdn_ex x u q
    have nd : x ≠ D := fun z => by rw [z, n] at q2; cases q2
    refine hdn_at (by rw [upd_ne nd]; exact q2) fun z => nx ?_
    rcases z with z | z
    · rcases z with z | z
      · exact .inl z
      · exact absurd z nd
    · exact .inr z
  refine ⟨⟨fun a m q => ?_, fun a z => ?_, trivial⟩, ex⟩
  · obtain ⟨h1, h2⟩ := hr.mo a m q
    have nd : a ≠ D := fun z => by
      obtain ⟨o', ho⟩ := h2.at
      rw [z, n] at ho
      cases ho
    refine ⟨fun z => z.elim h1 nd, ?_⟩
    have vr : ∀ v x, VR K N μ H v x → VR K (hidD N D) μ (upd H D o) v x := fun v x h => by
      cases x with
      | dat d => exact Da.ex ex h
      | ref a => exact h
    cases m with
    | lst us =>
      obtain ⟨vs, h, hp⟩ := h2
      exact ⟨vs, by rw [upd_ne nd]; exact h, pmap hp vr⟩
    | tpl us =>
      obtain ⟨vs, h, hp⟩ := h2
      exact ⟨vs, by rw [upd_ne nd]; exact h, pmap hp vr⟩
    | dct us =>
      obtain ⟨vs, h, hp⟩ := h2
      exact ⟨vs, by rw [upd_ne nd]; exact h, pmap hp fun _ _ q => ⟨q.1, vr _ _ q.2⟩⟩
    | ins c fs =>
      obtain ⟨C, dx, ws, hc, h, h1, hp⟩ := h2
      exact ⟨C, dx, ws, hc, by rw [upd_ne nd]; exact h, h1, pmap hp fun _ _ q => ⟨q.1, vr _ _ q.2⟩⟩
    | shd x =>
      show upd H D o a = _
      rw [upd_ne nd]
      exact h2
    | box m us =>
      obtain ⟨vs, ⟨n, r, c, h, h1⟩, hp⟩ := h2
      exact ⟨vs, ⟨n, r, c, by rw [upd_ne nd]; exact h, h1⟩, pmap hp vr⟩
    | lkd o' ws kvs => exact ⟨by rw [upd_ne nd]; exact h2.1, pmap h2.2 fun _ _ q => ⟨q.1, vr _ _ q.2⟩⟩
    | exn c fs =>
      obtain ⟨C, d, hc, h, hp⟩ := h2
      refine ⟨C, d, hc, by rw [upd_ne nd]; exact h, hp.imp id ?_⟩
      rintro ⟨dx, ws, rfl, h1, h2⟩
      exact ⟨dx, ws, rfl, ex _ _ h1, pmap h2 fun _ _ q => ⟨q.1, vr _ _ q.2⟩⟩
  · rcases z with z | z
    · by_cases e : a = D
      · rw [e, upd_same]
        intro w
        cases w
      · rw [upd_ne e]
        exact hr.sit a z
    · rw [z, upd_same]
      intro w
      cases w
theorem hr_out {N : Hid} {H0 H : Hp} {μ0 μ : Mem} {D : Addr} (hr : HR K L0 (hidD N D) H μ) (hn : ¬ N D) : HR K L0 N H μ ∧ Ex (fz (hidD N D) μ H) (fz N μ H) := by
  have ex : Ex (fz (hidD N D) μ H) (fz N μ H) := fun x u q => hdn_at (hdn_ex x u q) fun z => hdn_no q (z.imp .inl id)
  have vr : ∀ v x, VR K (hidD N D) μ H v x → VR K N μ H v x := fun v x h => by
    cases x with
    | dat d => exact Da.ex ex h
    | ref a => exact h
  refine ⟨⟨fun a m q => ?_, fun a z => hr.sit a (.inl z), trivial⟩, ex⟩
  obtain ⟨h1, h2⟩ := hr.mo a m q
  refine ⟨fun z => h1 (.inl z), ?_⟩
  cases m with
  | lst us =>
    obtain ⟨vs, h, hp⟩ := h2
    exact ⟨vs, h, pmap hp vr⟩
  | tpl us =>
    obtain ⟨vs, h, hp⟩ := h2
    exact ⟨vs, h, pmap hp vr⟩
  | dct us =>
    obtain ⟨vs, h, hp⟩ := h2
    exact ⟨vs, h, pmap hp fun _ _ q => ⟨q.1, vr _ _ q.2⟩⟩
  | ins c fs =>
    obtain ⟨C, dx, ws, hc, h, h1, hp⟩ := h2
    exact ⟨C, dx, ws, hc, h, h1, pmap hp fun _ _ q => ⟨q.1, vr _ _ q.2⟩⟩
  | shd x => exact h2
  | box m us =>
    obtain ⟨vs, h, hp⟩ := h2
    exact ⟨vs, h, pmap hp vr⟩
  | lkd o' ws kvs => exact ⟨h2.1, pmap h2.2 fun _ _ q => ⟨q.1, vr _ _ q.2⟩⟩
  | exn c fs =>
    obtain ⟨C, d, hc, h, hp⟩ := h2
    refine ⟨C, d, hc, h, hp.imp id ?_⟩
    rintro ⟨dx, ws, rfl, h1, h2⟩
    exact ⟨dx, ws, rfl, ex _ _ h1, pmap h2 fun _ _ q => ⟨q.1, vr _ _ q.2⟩⟩
structure InC (K : PySem.W.Frag) (N : Hid) (D : Addr) (H1 : Hp) (μ1 : Mem) (H : Hp) (μ : Mem) (vs : List V) (us : List UV) : Prop where
  hr : HR K L0 (hidD N D) H μ
  at_ : H D = some (.lst vs)
  pr : Paired (VR K (hidD N D) μ H) vs us
  ex : Ex (fz N μ1 H1) (fz (hidD N D) μ H)
  fx : ∀ a, N a → H a = H1 a
theorem upd_fz {N : Hid} {H : Hp} {μ : Mem} {D : Addr} {o : HO} : fz (hidD N D) μ (upd H D o) = fz (hidD N D) μ H := by
  funext x
  unfold fz hdn
  by_cases h : hs (hidD N D) μ x
  · rw [if_pos h, if_pos h]
  · rw [if_neg h, if_neg h, upd_ne fun z => h (.inl (.inr z))]
theorem InC.more {N : Hid} {D : Addr} {H1 H : Hp} {μ1 μ : Mem} {vs : List V} {us : List UV} {w : V} {u : UV} (h : InC K N D H1 μ1 H μ vs us) (hn : ¬ N D) (hv : VR K (hidD N D) μ H w u) : InC K N D H1 μ1 (upd H D (.lst (vs ++ [w]))) μ (vs ++ [w]) (us ++ [u]) := by
  have vr : ∀ v x, VR K (hidD N D) μ H v x → VR K (hidD N D) μ (upd H D (.lst (vs ++ [w]))) v x := fun v x h => by
    cases x with
    | dat d =>
      show Da K (fz (hidD N D) μ (upd H D _)) _ _
      rw [upd_fz]
      exact h
    | ref a => exact h
  refine ⟨⟨fun a m q => ?_, fun a z => ?_, trivial⟩, upd_same, ?_, ?_, fun a z => ?_⟩
  · obtain ⟨h1, h2⟩ := h.hr.mo a m q
    have nd : a ≠ D := fun z => h1 (.inr z)
    refine ⟨h1, ?_⟩
    cases m with
    | lst us =>
      obtain ⟨vs', h, hp⟩ := h2
      exact ⟨vs', by rw [upd_ne nd]; exact h, pmap hp vr⟩
    | tpl us =>
      obtain ⟨vs', h, hp⟩ := h2
      exact ⟨vs', by rw [upd_ne nd]; exact h, pmap hp vr⟩
    | dct us =>
      obtain ⟨vs', h, hp⟩ := h2
      exact ⟨vs', by rw [upd_ne nd]; exact h, pmap hp fun _ _ q => ⟨q.1, vr _ _ q.2⟩⟩
    | ins c fs =>
      obtain ⟨C, dx, ws, hc, h, h1, hp⟩ := h2
      exact ⟨C, dx, ws, hc, by rw [upd_ne nd]; exact h, h1, pmap hp fun _ _ q => ⟨q.1, vr _ _ q.2⟩⟩
    | shd x =>
      show upd H D _ a = _
      rw [upd_ne nd]
      exact h2
    | box m us =>
      obtain ⟨vs, ⟨n, r, c, h, h1⟩, hp⟩ := h2
      exact ⟨vs, ⟨n, r, c, by rw [upd_ne nd]; exact h, h1⟩, pmap hp vr⟩
    | lkd o' ws kvs => exact ⟨by rw [upd_ne nd]; exact h2.1, pmap h2.2 fun _ _ q => ⟨q.1, vr _ _ q.2⟩⟩
    | exn c fs =>
      obtain ⟨C, d, hc, h, hp⟩ := h2
      refine ⟨C, d, hc, by rw [upd_ne nd]; exact h, hp.imp id ?_⟩
      rintro ⟨dx, ws, rfl, h1, h2⟩
      exact ⟨dx, ws, rfl, by rw [upd_fz]; exact h1, pmap h2 fun _ _ q => ⟨q.1, vr _ _ q.2⟩⟩
  · by_cases e : a = D
    · rw [e, upd_same]
      intro y
      cases y
    · rw [upd_ne e]
      exact h.hr.sit a z
  · exact paired_app (pmap h.pr vr) (.cons (vr _ _ hv) .nil)
  · rw [upd_fz]
    exact h.ex
  · rw [upd_ne fun e => hn (by rw [← e]; exact z)]
    exact h.fx a z
theorem InC.to {N : Hid} {D : Addr} {H1 H H2 : Hp} {μ1 μ μ2 : Mem} {vs : List V} {us : List UV} (h : InC K N D H1 μ1 H μ vs us) (g : Gr (hidD N D) H μ H2 μ2) (hr : HR K L0 (hidD N D) H2 μ2) : InC K N D H1 μ1 H2 μ2 vs us :=
  ⟨hr, (g.fx D (.inr rfl)).trans h.at_, pmap h.pr fun _ _ => VR.to g, h.ex.trans g.ex, fun a z => (g.fx a (.inl z)).trans (h.fx a z)⟩
theorem InC.sr {N : Hid} {D : Addr} {H1 H : Hp} {μ1 μ : Mem} {vs : List V} {us : List UV} {σ : L2.St} {ρ : Rho} (h : InC K N D H1 μ1 H μ vs us) (sr : SR K N μ1 H1 σ ρ) : SR K (hidD N D) μ H σ ρ := ⟨sr.1, fun i x e => by
  obtain ⟨v, a, b⟩ := sr.2 i x e
  refine ⟨v, a, ?_⟩
  cases x with
  | dat d => exact Da.ex h.ex b
  | ref a => exact b⟩
theorem InC.out {N : Hid} {D : Addr} {H1 H : Hp} {μ1 μ : Mem} {vs : List V} {us : List UV} (h : InC K N D H1 μ1 H μ vs us) (hn : ¬ N D) : Gr N H1 μ1 H μ ∧ HR K L0 N H μ ∧ Paired (VR K N μ H) vs us ∧ μ D = none := by
  obtain ⟨a, b⟩ := hr_out (H0 := H) (μ0 := μ) h.hr hn
  refine ⟨⟨h.ex.trans b, h.fx⟩, a, pmap h.pr fun v x q => ?_, ?_⟩
  · cases x with
    | dat d => exact Da.ex b q
    | ref a => exact q
  · cases e : μ D with
    | none => rfl
    | some m => exact absurd (.inr rfl) (h.hr.mo D m e).1
theorem fz_put {N : Hid} {μ : Mem} {D : Addr} {m : MO} {H : Hp} : fz N (put μ D m) H = fz (hidD N D) μ H := by
  funext x
  unfold fz hdn
  have e : hs N (put μ D m) x ↔ hs (hidD N D) μ x := by
    unfold hs hidD
    by_cases h : x = D
    · subst h
      rw [put_same]
      constructor
      · intro _
        exact .inl (.inr rfl)
      · intro _
        exact .inr fun z => nomatch z
    · rw [put_ne h]
      constructor
      · rintro (z | z)
        · exact .inl (.inl z)
        · exact .inr z
      · rintro ((z | z) | z)
        · exact .inl z
        · exact absurd z h
        · exact .inr z
  by_cases h : hs (hidD N D) μ x
  · rw [if_pos h, if_pos (e.mpr h)]
  · rw [if_neg h, if_neg fun z => h (e.mp z)]
theorem InC.put {N : Hid} {D : Addr} {H1 H : Hp} {μ1 μ : Mem} {vs : List V} {us : List UV} (h : InC K N D H1 μ1 H μ vs us) (hn : ¬ N D) : HR K L0 N H (CN.put μ D (.lst us)) := by
  have hD : μ D = none := (h.out hn).2.2.2
  have vr : ∀ v x, VR K (hidD N D) μ H v x → VR K N (CN.put μ D (.lst us)) H v x := fun v x q => by
    cases x with
    | dat d =>
      show Da K (fz N (CN.put μ D (.lst us)) H) v d
      rw [fz_put]
      exact q
    | ref a => exact q
  refine ⟨fun a m q => ?_, fun a z => h.hr.sit a (.inl z), trivial⟩
  by_cases e : a = D
  · subst e
    rw [put_same] at q
    cases q
    exact ⟨hn, vs, h.at_, pmap h.pr vr⟩
  · rw [put_ne e] at q
    obtain ⟨h1, h2⟩ := h.hr.mo a m q
    refine ⟨fun z => h1 (.inl z), ?_⟩
    cases m with
    | lst us =>
      obtain ⟨vs, h, hp⟩ := h2
      exact ⟨vs, h, pmap hp vr⟩
    | tpl us =>
      obtain ⟨vs, h, hp⟩ := h2
      exact ⟨vs, h, pmap hp vr⟩
    | dct us =>
      obtain ⟨vs, h, hp⟩ := h2
      exact ⟨vs, h, pmap hp fun _ _ q => ⟨q.1, vr _ _ q.2⟩⟩
    | ins c fs =>
      obtain ⟨C, dx, ws, hc, h, h1, hp⟩ := h2
      exact ⟨C, dx, ws, hc, h, (put_ne fun z => by rw [z, hD] at h1; cases h1).trans h1, pmap hp fun _ _ q => ⟨q.1, vr _ _ q.2⟩⟩
    | shd x => exact h2
    | box m us =>
      obtain ⟨vs, h, hp⟩ := h2
      exact ⟨vs, h, pmap hp vr⟩
    | lkd o' ws kvs => exact ⟨h2.1, pmap h2.2 fun _ _ q => ⟨q.1, vr _ _ q.2⟩⟩
    | exn c fs =>
      obtain ⟨C, d, hc, h, hp⟩ := h2
      refine ⟨C, d, hc, h, hp.imp id ?_⟩
      rintro ⟨dx, ws, rfl, h1, h2⟩
      exact ⟨dx, ws, rfl, by rw [fz_put]; exact h1, pmap h2 fun _ _ q => ⟨q.1, vr _ _ q.2⟩⟩
theorem lc_ok {wi : TI} {ui : UI} {g : TG} {ug : UG} {tt : TT} {ut : UT} {te : TE} {ue : UE} {vs : List Nat} (hi : SI K L wi ui) (hg : SG K L0 g ug vs) (ht : ST K L0 tt ut) (he : SE K L0 te ue)
    {N : Hid} {σ : L2.St} {H : Hp} {ρ : Rho} {μ : Mem} {Q : VK} {R' : List UV → Mem → Prop} (hr : HR K L N H μ) (sr : SR K N μ H σ ρ) (hu : ui ρ μ fun it μ1 => it.items.length ≤ 1000000 ∧ lcL it.chk ug ut ue vs ρ R' it.items [] μ1)
    (k : ∀ (D : Addr) (H' : Hp) (xs : List V) (us : List UV) (μ' : Mem), H' D = some (.lst xs) → Gr N H μ H' μ' → HR K L N H' μ' → Paired (VR K N μ' H') xs us → (∀ a, hs N μ' a → a ≠ D) → (∀ m, Gr N H μ H' (put μ' D m)) → HR K L N H' (put μ' D (.lst us)) → μ' D = none → R' us μ' → Q (.ref D) H') : tLc wi g tt te vs σ H Q := by
  refine hi N σ H ρ μ _ _ hr sr hu fun J H1 it μ1 g1 hr1 its hu1 => ?_
  intro D hD
  have hnD := (hr1.new hD).1
  obtain ⟨hl, hu1⟩ := hu1
  have start : InC K N D H1 μ1 (upd H1 D (.lst [])) μ1 [] [] := by
    obtain ⟨a, b⟩ := hr_in (o := .lst []) hr1 hD
    exact ⟨a, upd_same, .nil, b, fun x z => upd_ne fun e => hnD (e ▸ z)⟩
  refine ⟨fun i m H' => m = it.items.length - i ∧ ∃ μ' xs us, us.length ≤ i ∧ InC K N D H1 μ1 H' μ' xs us ∧ lcL it.chk ug ut ue vs ρ R' (it.items.drop i) us μ', ⟨_, rfl, μ1, [], [], Nat.le_refl _, start, hu1⟩, ?_⟩
  rintro i m H2 ⟨rfl, μ2, xs, us, hus, inc, hu2⟩
  cases hd : it.items.drop i with
  | nil =>
    rw [hd] at hu2
    refine .inl ⟨its.stop i _ _ H2 μ2 inc.ex inc.hr hu2.1 (drop_nil hd), ?_⟩
    obtain ⟨g2, hr2, pr, hD2⟩ := inc.out hnD
    have gp : ∀ m, Gr N H μ H2 (put μ2 D m) := fun m => g1.trans ⟨fun x o q => by
      have q1 := inc.ex x o q
      have nx := hdn_no q1
      refine hdn_at (hdn_ex x o q1) fun z => nx ?_
      rcases z with z | z
      · exact .inl (.inl z)
      · by_cases e : x = D
        · exact .inl (.inr e)
        · rw [put_ne e] at z
          exact .inr z, g2.fx⟩
    refine k D H2 xs us μ2 inc.at_ (g1.trans g2) (hr2.with (L.mo _ _ _ _ _ hr1.lk g2)) pr (fun a z e => ?_) gp ((inc.put hnD).with (L.mo _ _ _ _ _ hr.lk (gp _))) hD2 hu2.2
    rw [e] at z
    rcases z with z | z
    · exact hnD z
    · exact z hD2
  | cons x r =>
    rw [hd] at hu2
    obtain ⟨ex, hlt, er⟩ := drop_at hd
    refine .inr ⟨its.go i _ _ H2 μ2 inc.ex inc.hr hu2.1 hlt, fun H' => ∃ μ' xs us, us.length ≤ i + 1 ∧ InC K N D H1 μ1 H' μ' xs us ∧ lcL it.chk ug ut ue vs ρ R' r us μ', ?_, fun v H3 hy => ?_⟩
    · rintro H' ⟨μ', xs', us', a, b, c⟩
      exact ⟨it.items.length - (i + 1), by omega, rfl, μ', xs', us', a, b, by rw [er]; exact c⟩
    · obtain ⟨u, eu, hv, e3⟩ := its.yld i _ _ H2 μ2 v H3 inc.ex inc.hr hu2.1 hlt hy
      rw [ex] at eu
      cases eu
      have inc3 := inc.to (Gr.ofEx inc.hr e3) (inc.hr.ofEx e3)
      refine hg _ v (wipe σ vs) H3 x (wipeU ρ vs) μ2 _ _ inc3.hr (inc3.sr ((sr.to g1).wipe vs)) hv hu2.2 fun σ4 H4 ρ4 μ4 g4 hr4 sr4 hw4 hu4 => ⟨by rw [hw4, wipe_wipe], ?_⟩
      have inc4 := inc3.to g4 hr4
      refine ht _ σ4 H4 ρ4 μ4 _ _ hr4 sr4 hu4 fun b H5 μ5 g5 hr5 hu5 => ?_
      have inc5 := inc4.to g5 hr5
      cases b with
      | false => exact ⟨μ5, xs, us, by omega, inc5, hu5⟩
      | true =>
        refine iteT (he _ σ4 H5 ρ4 μ5 _ _ hr5 (sr4.to g5) hu5 fun w H6 y μ6 g6 hr6 hw hu6 => ?_)
        have inc6 := inc5.to g6 hr6
        exact ⟨xs, inc6.at_, by rw [inc6.pr.length, sizeLine_eq]; omega, μ6, xs ++ [w], us ++ [y], by rw [List.length_append]; show us.length + 1 ≤ _; omega, inc6.more hnD hw, hu6⟩
theorem se_lc {wi : TI} {ui : UI} {g : TG} {ug : UG} {tt : TT} {ut : UT} {te : TE} {ue : UE} {vs : List Nat} (hi : SI K L wi ui) (hg : SG K L0 g ug vs) (ht : ST K L0 tt ut) (he : SE K L0 te ue) : SE K L (tLc wi g tt te vs) (uLc ui ug ut ue vs) := fun N σ H ρ μ Q R hr sr hu k => by
  refine lc_ok hi hg ht he hr sr hu fun D H' xs us μ' hD g hr' pr hn gp hrp hD0 hR => ?_
  split at hR
  · rename_i ds e
    rw [allD_some e] at pr
    exact k _ H' _ μ' g hr' (vrD (.lst (hdn_at hD fun z => hn D z rfl) (paired_dat pr))) hR
  · exact hR.elim
theorem si_rng1 {t : TA} {u : UA} (h : SA K L t u) : SI K L (iRng1 t) (uRng1 u) := fun N σ H ρ μ Q R hr sr hu k =>
  h N σ H ρ μ _ _ hr sr hu fun vs H1 xs μ1 g1 hr1 hv hu1 => by
    split at hu1
    · rename_i j
      cases hv with
      | cons a b =>
        cases b
        have ea := Da.intI a
        subst ea
        refine ⟨j, rfl, hu1.1.1, hu1.1.2, k _ H1 _ μ1 g1 hr1 ⟨fun i L' N' H μ _ _ _ hi => ?_, fun i L' N' H μ x H' _ _ _ hi hy => ?_, fun i L' N' H μ _ _ _ hi => ?_⟩ hu1.2⟩
        · rw [List.length_map, List.length_range] at hi
          exact hi
        · rw [List.length_map, List.length_range] at hi
          obtain ⟨rfl, rfl⟩ := hy
          refine ⟨_, by rw [List.getElem?_map, List.getElem?_range hi]; rfl, vrD ?_, Ex.refl _⟩
          rw [Int.zero_add]
          exact .int _
        · rw [List.length_map, List.length_range] at hi
          exact hi
    · exact hu1.elim
def iAny (K : PySem.W.Frag) (te : TE) : TI := fun σ H R => te σ H fun x H1 => (∃ a, x = .ref a ∧ (∃ xs, SqL K H1 a xs) ∧ R (Itl K a) H1) ∨ (∃ a, x = .ref a ∧ (∃ xs, SqT K H1 a xs) ∧ R (Itt K a) H1) ∨ ∃ z, x = .str z ∧ R (Its z) H1
theorem pi_any {X : Cx} {tg e : Expr} {te : TE} (he : PE X e te) : PI X tg e (iAny X.K te) := by
  refine ⟨fun pins s σ H R I h => ?_⟩
  refine thn (he.run pins s σ H _ I h) fun v s1 ⟨x, H1, I1, r1, q1⟩ => ?_
  rcases q1 with ⟨a, e, ⟨xs, hq⟩, q⟩ | ⟨a, e, ⟨xs, hq⟩, q⟩ | ⟨z, e, q⟩
  · subst e
    cases r1
    obtain ⟨its, rv, p, hz⟩ := I1.list hq
    refine wpAny_pyIter_list p.isList ?_
    refine ⟨s1.heap.objs.size, [s1.heap.objs.size], _, _, H1, rfl, I1.kept (t' := s1.toks) fun b o e => Heap.get?_push_of_some _ e, turn_list a _, ⟨_, Heap.get?_push_size _ rfl, rfl, rfl⟩, fun b hb => ?_, q⟩
    have e : b = s1.heap.objs.size := by simpa using hb
    subst e
    exact I1.fpOk (Nat.le_refl _) (I1.hok.fresh (Nat.le_refl _))
  · subst e
    cases r1
    obtain ⟨its, rv, p, hz⟩ := I1.tuple hq
    refine wpAny_pyIter_tuple (show s1.heap.IsTuple a its.toArray from p) ?_
    refine ⟨s1.heap.objs.size, [s1.heap.objs.size], _, _, H1, rfl, I1.kept (t' := s1.toks) fun b o e => Heap.get?_push_of_some _ e, turn_tuple a _, ⟨_, Heap.get?_push_size _ rfl, rfl, rfl⟩, fun b hb => ?_, q⟩
    have e : b = s1.heap.objs.size := by simpa using hb
    subst e
    exact I1.fpOk (Nat.le_refl _) (I1.hok.fresh (Nat.le_refl _))
  · subst e
    obtain ⟨t, rfl⟩ := r1
    cases ha : z.cps.all (· < 128)
    · exact wpAny_pyIter_wide ha (pi_one (tk := s1.toks) I1 _ (turn_str _ z t "str_iterator" (.inr rfl)) ⟨_, Heap.get?_push_size _ rfl, rfl, rfl⟩ q)
    · exact wpAny_pyIter_ascii ha (pi_one (tk := s1.toks) I1 _ (turn_str _ z t "str_ascii_iterator" (.inl rfl)) ⟨_, Heap.get?_push_size _ rfl, rfl, rfl⟩ q)
theorem its_L {N : Hid} {H : Hp} {μ : Mem} {a : Addr} {xs : List V} {ds : List PyData} (h : fz N μ H a = some (.lst xs)) (hd : DaAll K (fz N μ H) xs ds) : ItS K N H μ (Itl K a) ⟨ds.map UV.dat, fun _ => True⟩ := by
  have hl := hd.length
  refine ⟨fun i L' N' H' μ' e _ _ hi => ?_, fun i L' N' H' μ' x H2 e _ _ hi hy => ?_, fun i L' N' H' μ' e _ _ hi => ?_⟩
  · rw [List.length_map, ← hl] at hi
    exact ⟨xs, xs[i], SqL.of (hdn_ex _ _ (e _ _ h)), List.getElem?_eq_getElem hi⟩
  · rw [List.length_map] at hi
    obtain ⟨rfl, hy⟩ := hy
    have ex := hy xs (SqL.of (hdn_ex _ _ (e _ _ h)))
    obtain ⟨d, e1, e2⟩ := hd.getV i ex
    exact ⟨.dat d, by rw [List.getElem?_map, e1]; rfl, vrD (Da.ex e e2), Ex.refl _⟩
  · rw [List.length_map, ← hl] at hi
    exact ⟨xs, SqL.of (hdn_ex _ _ (e _ _ h)), hi⟩
theorem its_T {N : Hid} {H : Hp} {μ : Mem} {a : Addr} {xs : List V} {ds : List PyData} (h : SqT K (fz N μ H) a xs) (hd : DaAll K (fz N μ H) xs ds) : ItS K N H μ (Itt K a) ⟨ds.map UV.dat, fun _ => True⟩ := by
  have hl := hd.length
  refine ⟨fun i L' N' H' μ' e _ _ hi => ?_, fun i L' N' H' μ' x H2 e _ _ hi hy => ?_, fun i L' N' H' μ' e _ _ hi => ?_⟩
  · rw [List.length_map, ← hl] at hi
    exact ⟨xs, xs[i], ex_t hdn_ex (ex_t e h), List.getElem?_eq_getElem hi⟩
  · rw [List.length_map] at hi
    obtain ⟨rfl, hy⟩ := hy
    have ex := hy xs (ex_t hdn_ex (ex_t e h))
    obtain ⟨d, e1, e2⟩ := hd.getV i ex
    exact ⟨.dat d, by rw [List.getElem?_map, e1]; rfl, vrD (Da.ex e e2), Ex.refl _⟩
  · rw [List.length_map, ← hl] at hi
    exact ⟨xs, ex_t hdn_ex (ex_t e h), hi⟩
theorem paired_atL {α β : Type} {F : α → β → Prop} : ∀ {l1 : List α} {m1 : List β} {j : Nat} {x : α}, Paired F l1 m1 → l1[j]? = some x → ∃ y, m1[j]? = some y ∧ F x y
  | _, _, _, _, .nil, e => by simp at e
  | _, _, 0, _, .cons a b, e => by cases e; exact ⟨_, rfl, a⟩
  | _, _, j + 1, _, .cons a b, e => paired_atL (j := j) b e
theorem its_R {N : Hid} {H : Hp} {μ : Mem} {p : Addr} {us : List UV} : ItS K N H μ (Itl K p) ⟨us, fun μ => μ p = some (.lst us)⟩ := by
  refine ⟨fun i L' N' H' μ' e hr hc hi => ?_, fun i L' N' H' μ' x H2 e hr hc hi hy => ?_, fun i L' N' H' μ' e hr hc hi => ?_⟩
  · obtain ⟨_, vs, h1, h2⟩ := hr.mo p _ hc
    have hi' : i < vs.length := by rw [h2.length]; exact hi
    exact ⟨vs, vs[i], SqL.of h1, List.getElem?_eq_getElem hi'⟩
  · obtain ⟨_, vs, h1, h2⟩ := hr.mo p _ hc
    obtain ⟨rfl, hy⟩ := hy
    obtain ⟨u, e1, e2⟩ := paired_atL h2 (hy vs (SqL.of h1))
    exact ⟨u, e1, e2, Ex.refl _⟩
  · obtain ⟨_, vs, h1, h2⟩ := hr.mo p _ hc
    exact ⟨vs, SqL.of h1, by rw [h2.length]; exact hi⟩
theorem its_S {N : Hid} {H : Hp} {μ : Mem} {z : Str} : ItS K N H μ (Its z) ⟨z.cps.toList.map fun c => UV.dat (.str ⟨#[c]⟩), fun _ => True⟩ := by
  refine ⟨fun i L' N' H' μ' e hr hc hi => ?_, fun i L' N' H' μ' x H2 e hr hc hi hy => ?_, fun i L' N' H' μ' e hr hc hi => ?_⟩
  · rw [List.length_map, Array.length_toList] at hi
    exact hi
  · obtain ⟨rfl, c, hc, rfl⟩ := hy
    exact ⟨_, by rw [List.getElem?_map, Array.getElem?_toList, hc]; rfl, vrD (.str _), Ex.refl _⟩
  · rw [List.length_map, Array.length_toList] at hi
    exact hi
theorem si_any {ta : TE} {ua : UE} (ha : SE K L ta ua) : SI K L (iAny K ta) (uAny ua) := fun N σ H ρ μ Q R hr sr hu k =>
  ha N σ H ρ μ _ _ hr sr hu fun v H1 x μ1 g1 hr1 hv hu1 => by
    unfold itemsU at hu1
    split at hu1
    · obtain ⟨a, xs, rfl, h1, h2⟩ := Da.lstI hv
      exact .inl ⟨a, rfl, ⟨xs, SqL.of (hdn_ex _ _ h1)⟩, k _ H1 _ μ1 g1 hr1 (its_L h1 h2) hu1⟩
    · obtain ⟨a, xs, rfl, h1, h2⟩ := Da.tupI hv
      exact .inr (.inl ⟨a, rfl, ⟨xs, ex_t hdn_ex h1⟩, k _ H1 _ μ1 g1 hr1 (its_T h1 h2) hu1⟩)
    · have ev := Da.strI hv
      exact .inr (.inr ⟨_, ev, k _ H1 _ μ1 g1 hr1 its_S hu1⟩)
    · exact hu1.elim
    · rename_i p
      split at hu1
      · rename_i us hp
        obtain ⟨_, vs, h1, _⟩ := hr1.mo p _ hp
        exact .inl ⟨p, hv, ⟨vs, SqL.of h1⟩, k _ H1 _ μ1 g1 hr1 its_R hu1⟩
      · exact hu1.elim
end
end CN

set_option Elab.async false
set_option linter.all false
set_option maxRecDepth 100000
set_option maxHeartbeats 4000000
namespace CN
open PySem PySem.Spec PyProof.Rows L2 Evl
def opAdd : PyData → PyData → Option PyData
  | .int i, .int j => some (.int (i + j))
  | .str a, .str b => if a.length + b.length ≤ 1000000 then some (.str (a ++ b)) else none
  | .tuple a, .tuple b => if a.length + b.length ≤ 1000000 then some (.tuple (a ++ b)) else none
  | .list a, .list b => if a.length + b.length ≤ 1000000 then some (.list (a ++ b)) else none
  | _, _ => none
def opSub : PyData → PyData → Option PyData
  | .int i, .int j => some (.int (i - j))
  | _, _ => none
def opNeg : PyData → Option PyData
  | .int i => some (.int (-i))
  | _ => none
def eqB : PyData → PyData → Option Bool
  | .int i, .int j => some (decide (i = j))
  | .str x, .str y => some (decide (x = y))
  | .bool x, .bool y => some (decide (x = y))
  | .none, .none => some true
  | .none, .int _ => some false
  | .int _, .none => some false
  | .none, .bool _ => some false
  | .bool _, .none => some false
  | .none, .str _ => some false
  | .str _, .none => some false
  | .int _, .str _ => some false
  | .str _, .int _ => some false
  | .bool _, .str _ => some false
  | .str _, .bool _ => some false
  | a, b => if a.hasDict = false ∧ b.hasDict = false ∧ SeqAt.shaped a = true ∧ SeqAt.shaped b = true then some (PyData.eqv a b) else none
def shapedX (d : PyData) : Bool := d.canLay0 && decide (d.depth ≤ 190)
def eqX (a b : PyData) : Option Bool := match eqB a b with
  | some c => some c
  | none => if a.hasDict = false ∧ b.hasDict = false ∧ shapedX a = true ∧ shapedX b = true then some (PyData.eqv a b) else none
def eqE : PyData → PyData → Option Bool
  | .list a, .list b => if a.length = b.length then eqX (.list a) (.list b) else some false
  | a, b => eqX a b
def opEq (a b : PyData) : Option PyData := (eqE a b).map PyData.bool
def rEqW (K : PySem.W.Frag) : R2 := fun x y H Q => rEqU K x y H Q ∨ (∃ a b xs ys, x = .ref a ∧ y = .ref b ∧ SqL K H a xs ∧ SqL K H b ys ∧ xs.length ≠ ys.length ∧ Q (.bl false) H) ∨ ∃ d e, Dp K H x d ∧ Dp K H y e ∧ shapedX d = true ∧ shapedX e = true ∧ Q (.bl (PyData.eqv d e)) H
theorem op_eqL {X : Cx} (hu : X.A.units + 64 < cLine) : OpR X (compareOp .Eq) (fun x y H Q => ∃ a b xs ys, x = .ref a ∧ y = .ref b ∧ SqL X.K H a xs ∧ SqL X.K H b ys ∧ xs.length ≠ ys.length ∧ Q (.bl false) H) := by
  intro pins s σ H x y v u Q I rx ry h
  obtain ⟨a, b, xs, ys, rfl, rfl, h1, h2, hl, q⟩ := h
  cases rx
  cases ry
  obtain ⟨its, r1, p1, _⟩ := I.list h1
  obtain ⟨its2, r2, p2, _⟩ := I.list h2
  refine SeqAt.eq_list_lengthsAt p1.isList p2.isList ?_ (by omega) ⟨.bl false, H, I, rfl, q⟩
  rw [List.size_toArray, List.size_toArray, ← r1.length, ← r2.length]
  exact bne_iff_ne.mpr hl
theorem op_eqX {X : Cx} (hu : X.A.units + 200 < cLine) : OpR X (compareOp .Eq) (fun x y H Q => ∃ d e, Dp X.K H x d ∧ Dp X.K H y e ∧ shapedX d = true ∧ shapedX e = true ∧ Q (.bl (PyData.eqv d e)) H) := by
  intro pins s σ H x y v u Q I rx ry h
  obtain ⟨d, e, hd, he, sd, se, q⟩ := h
  obtain ⟨as, r1⟩ := Dp.reads I d x v hd rx
  obtain ⟨bs, r2⟩ := Dp.reads I e y u he ry
  unfold shapedX at sd se
  rw [Bool.and_eq_true] at sd se
  have h1 := of_decide_eq_true sd.2
  have h2 : min d.depth e.depth ≤ d.depth := Nat.min_le_left _ _
  exact SeqAt.compareEq_reads r1 r2 sd.1 se.1 (by omega) ⟨.bl _, H, I, rfl, q⟩
theorem op_eqW {X : Cx} (hu : X.A.units + 200 < cLine) : OpR X (compareOp .Eq) (rEqW X.K) := (op_eqU (by omega)).or ((op_eqL (by omega)).or (op_eqX hu))
def opNe (a b : PyData) : Option PyData := (eqB a b).map fun c => PyData.bool (!c)
def opLt : PyData → PyData → Option PyData
  | .int i, .int j => some (.bool (decide (i < j)))
  | .str a, .str b => some (.bool (decide (a.cps.toList < b.cps.toList)))
  | _, _ => none
def opLe : PyData → PyData → Option PyData
  | .int i, .int j => some (.bool (decide (i ≤ j)))
  | .str a, .str b => some (.bool (!decide (b.cps.toList < a.cps.toList)))
  | _, _ => none
def opGt : PyData → PyData → Option PyData
  | .int i, .int j => some (.bool (decide (j < i)))
  | .str a, .str b => some (.bool (decide (b.cps.toList < a.cps.toList)))
  | _, _ => none
def opGe : PyData → PyData → Option PyData
  | .int i, .int j => some (.bool (decide (j ≤ i)))
  | .str a, .str b => some (.bool (!decide (a.cps.toList < b.cps.toList)))
  | _, _ => none
def flV : PyData → V
  | .bool b => .bl b
  | .int i => .int i
  | .str z => .str z
  | _ => .non
def flatD : PyData → Bool
  | .none => true
  | .bool _ => true
  | .int _ => true
  | .str _ => true
  | _ => false
def inD (x : PyData) (ds : List PyData) : Bool := inV (flV x) (ds.map flV)
def inB (x : PyData) : PyData → Option Bool
  | .list ds => if flatD x = true ∧ ds.all flatD = true then some (inD x ds) else none
  | .tuple ds => if flatD x = true ∧ ds.all flatD = true then some (inD x ds) else none
  | .str z => (match x with
    | .str y => (match y.cps.toList with
      | [c] => some (decide (c ∈ z.cps.toList))
      | _ => none)
    | _ => none)
  | _ => none
def opIn (x y : PyData) : Option PyData := (inB x y).map PyData.bool
def opNotIn (x y : PyData) : Option PyData := (inB x y).map fun c => PyData.bool (!c)
def opInt : PyData → Option PyData
  | .int i => some (.int i)
  | .bool b => some (.int (if b then 1 else 0))
  | _ => none
def opRepr (d : PyData) : Option PyData := if d.showable = true ∧ d.depth ≤ 190 ∧ d.shown.length ≤ sizeLine then some (.str d.shown) else none
section
variable {K : PySem.W.Frag} {L : Link}
theorem da_app {N : Hid} {μ : Mem} {H : Hp} {a b : List PyData} {v w : V} {Q : VK} (hr : HR K L N H μ) (hv : Dw K N μ H v (.tuple a)) (hw : Dw K N μ H w (.tuple b)) (hl : a.length + b.length ≤ 1000000) (k : ∀ u H', Ex H H' → Da K (fz N μ H') u (.tuple (a ++ b)) → Q u H') : rAddW K v w H Q := by
  obtain ⟨p, xs, rfl, h1, h2⟩ := hv.tup
  obtain ⟨q, ys, rfl, h3, h4⟩ := hw.tup
  exact da_cat hr.sits h1 h2 h3 h4 hl k
theorem os_add : OpS K (rAddW K) opAdd := fun L N μ H v w a b res Q hr hv hw e k => by
  cases a with
  | int i =>
    cases b with
    | int j =>
      cases e
      rw [hv.int, hw.int]
      exact k _ H (Ex.refl H) (.int _)
    | _ => cases e
  | str i =>
    cases b with
    | str j =>
      simp only [opAdd] at e
      split at e
      · cases e
        rw [hv.str, hw.str]
        exact ⟨line_ge (by omega), k _ H (Ex.refl H) (.str _)⟩
      · cases e
    | _ => cases e
  | tuple i =>
    cases b with
    | tuple j =>
      simp only [opAdd] at e
      split at e
      · cases e
        exact da_app hr hv hw (by assumption) k
      · cases e
    | _ => cases e
  | list i =>
    cases b with
    | list j =>
      simp only [opAdd] at e
      split at e
      · cases e
        obtain ⟨p, xs, rfl, h1, h2⟩ := hv.lst
        obtain ⟨q, ys, rfl, h3, h4⟩ := hw.lst
        exact .inl ⟨p, q, xs, ys, rfl, rfl, h1, h3, by rw [h2.length, h4.length]; exact line_ge (by omega), nw_l hr (h2.append h4) k⟩
      · cases e
    | _ => cases e
  | _ => cases e
theorem us_neg : U1S K rNegI opNeg := fun L N μ H v a res Q hr hv e k => by
  cases a with
  | int i =>
    cases e
    rw [hv.int]
    exact k _ H (Ex.refl H) (.int _)
  | _ => cases e
theorem eqB_ok {N : Hid} {μ : Mem} {H : Hp} {a b : PyData} {v w : V} {c : Bool} (hv : Dw K N μ H v a) (hw : Dw K N μ H w b) (e : eqB a b = some c) : (scal v w = true ∧ decide (v = w) = c) ∨ (Dp K H v a ∧ Dp K H w b ∧ SeqAt.shaped a = true ∧ SeqAt.shaped b = true ∧ PyData.eqv a b = c) := by
  have gen : (if a.hasDict = false ∧ b.hasDict = false ∧ SeqAt.shaped a = true ∧ SeqAt.shaped b = true then some (PyData.eqv a b) else none) = some c → (Dp K H v a ∧ Dp K H w b ∧ SeqAt.shaped a = true ∧ SeqAt.shaped b = true ∧ PyData.eqv a b = c) := by
    intro e
    split at e
    · rename_i h
      cases e
      exact ⟨dp_of hv.da h.1, dp_of hw.da h.2.1, h.2.2.1, h.2.2.2, rfl⟩
    · cases e
  have h1 := hv.da
  have h2 := hw.da
  cases a with
  | none =>
    have q1 := h1.nonI
    subst q1
    cases b with
    | none => have q2 := h2.nonI; subst q2; cases e; exact .inl ⟨rfl, rfl⟩
    | bool _ => have q2 := h2.blI; subst q2; cases e; exact .inl ⟨rfl, rfl⟩
    | int _ => have q2 := h2.intI; subst q2; cases e; exact .inl ⟨rfl, rfl⟩
    | str _ => have q2 := h2.strI; subst q2; cases e; exact .inl ⟨rfl, rfl⟩
    | list _ => exact .inr (gen e)
    | tuple _ => exact .inr (gen e)
    | dict _ => exact .inr (gen e)
  | bool x =>
    have q1 := h1.blI
    subst q1
    cases b with
    | none => have q2 := h2.nonI; subst q2; cases e; exact .inl ⟨rfl, rfl⟩
    | bool y =>
      have q2 := h2.blI
      subst q2
      cases e
      refine .inl ⟨rfl, ?_⟩
      rw [decide_eq_decide]
      exact ⟨fun h => V.bl.inj h, fun h => by rw [h]⟩
    | int _ => exact .inr (gen e)
    | str _ => have q2 := h2.strI; subst q2; cases e; exact .inl ⟨rfl, rfl⟩
    | list _ => exact .inr (gen e)
    | tuple _ => exact .inr (gen e)
    | dict _ => exact .inr (gen e)
  | int x =>
    have q1 := h1.intI
    subst q1
    cases b with
    | none => have q2 := h2.nonI; subst q2; cases e; exact .inl ⟨rfl, rfl⟩
    | bool y => exact .inr (gen e)
    | int y =>
      have q2 := h2.intI
      subst q2
      cases e
      refine .inl ⟨rfl, ?_⟩
      rw [decide_eq_decide]
      exact ⟨fun h => V.int.inj h, fun h => by rw [h]⟩
    | str _ => have q2 := h2.strI; subst q2; cases e; exact .inl ⟨rfl, rfl⟩
    | list _ => exact .inr (gen e)
    | tuple _ => exact .inr (gen e)
    | dict _ => exact .inr (gen e)
  | str x =>
    have q1 := h1.strI
    subst q1
    cases b with
    | none => have q2 := h2.nonI; subst q2; cases e; exact .inl ⟨rfl, rfl⟩
    | bool y => have q2 := h2.blI; subst q2; cases e; exact .inl ⟨rfl, rfl⟩
    | int y => have q2 := h2.intI; subst q2; cases e; exact .inl ⟨rfl, rfl⟩
    | str y =>
      have q2 := h2.strI
      subst q2
      cases e
      refine .inl ⟨rfl, ?_⟩
      rw [decide_eq_decide]
      exact ⟨fun h => V.str.inj h, fun h => by rw [h]⟩
    | list _ => exact .inr (gen e)
    | tuple _ => exact .inr (gen e)
    | dict _ => exact .inr (gen e)
  | list x => exact .inr (gen (by cases b <;> exact e))
  | tuple x => exact .inr (gen (by cases b <;> exact e))
  | dict x => exact .inr (gen (by cases b <;> exact e))
theorem eqX_ok {a b : PyData} {c : Bool} (e : eqX a b = some c) : eqB a b = some c ∨ (a.hasDict = false ∧ b.hasDict = false ∧ shapedX a = true ∧ shapedX b = true ∧ PyData.eqv a b = c) := by
  unfold eqX at e
  split at e
  · rename_i c' h
    cases e
    exact .inl h
  · split at e
    · rename_i h
      cases e
      exact .inr ⟨h.1, h.2.1, h.2.2.1, h.2.2.2, rfl⟩
    · cases e
theorem eqE_ok {a b : PyData} {c : Bool} (e : eqE a b = some c) : eqB a b = some c ∨ (∃ xs ys, a = .list xs ∧ b = .list ys ∧ xs.length ≠ ys.length ∧ c = false) ∨ (a.hasDict = false ∧ b.hasDict = false ∧ shapedX a = true ∧ shapedX b = true ∧ PyData.eqv a b = c) := by
  unfold eqE at e
  split at e
  · split at e
    · exact (eqX_ok e).imp id .inr
    · rename_i h
      cases e
      exact .inr (.inl ⟨_, _, rfl, rfl, h, rfl⟩)
  · exact (eqX_ok e).imp id .inr
theorem os_eq : OpS K (rEqW K) opEq := fun L N μ H v w a b res Q hr hv hw e k => by
  unfold opEq at e
  cases q : eqE a b with
  | none => rw [q] at e; cases e
  | some c =>
    rw [q] at e
    cases e
    rcases eqE_ok q with q | ⟨xs, ys, rfl, rfl, hl, rfl⟩ | ⟨d1, d2, d3, d4, d5⟩
    · rcases eqB_ok hv hw q with ⟨h1, h2⟩ | ⟨h1, h2, h3, h4, h5⟩
      · exact .inl (.inl ⟨h1, by rw [h2]; exact k _ H (Ex.refl H) (.bl _)⟩)
      · exact .inl (.inr ⟨a, b, h1, h2, h3, h4, by rw [h5]; exact k _ H (Ex.refl H) (.bl _)⟩)
    · obtain ⟨p, vs, rfl, h1, h2⟩ := hv.lst
      obtain ⟨p', vs', rfl, h1', h2'⟩ := hw.lst
      exact .inr (.inl ⟨p, p', vs, vs', rfl, rfl, SqL.of h1, SqL.of h1', by rw [h2.length, h2'.length]; exact hl, k _ H (Ex.refl H) (.bl _)⟩)
    · exact .inr (.inr ⟨a, b, dp_of hv.da d1, dp_of hw.da d2, d3, d4, by rw [d5]; exact k _ H (Ex.refl H) (.bl _)⟩)
theorem os_cmp {r : R2} {f : PyData → PyData → Option PyData} {gi : Int → Int → Bool} {gs : Str → Str → Bool} (hi : ∀ i j H Q, Q (.bl (gi i j)) H → r (.int i) (.int j) H Q) (hs : ∀ i j H Q, Q (.bl (gs i j)) H → r (.str i) (.str j) H Q)
    (f1 : ∀ i j, f (.int i) (.int j) = some (.bool (gi i j))) (f2 : ∀ i j, f (.str i) (.str j) = some (.bool (gs i j))) (f3 : ∀ a b, (∀ i j, ¬ (a = .int i ∧ b = .int j)) → (∀ i j, ¬ (a = .str i ∧ b = .str j)) → f a b = none) : OpS K r f := fun L N μ H v w a b res Q hr hv hw e k => by
  by_cases h1 : ∃ i j, a = .int i ∧ b = .int j
  · obtain ⟨i, j, rfl, rfl⟩ := h1
    rw [f1] at e
    cases e
    rw [hv.int, hw.int]
    exact hi _ _ _ _ (k _ H (Ex.refl H) (.bl _))
  · by_cases h2 : ∃ i j, a = .str i ∧ b = .str j
    · obtain ⟨i, j, rfl, rfl⟩ := h2
      rw [f2] at e
      cases e
      rw [hv.str, hw.str]
      exact hs _ _ _ _ (k _ H (Ex.refl H) (.bl _))
    · rw [f3 a b (fun i j h => h1 ⟨i, j, h⟩) (fun i j h => h2 ⟨i, j, h⟩)] at e
      cases e
theorem os_lt : OpS K rLtU opLt := os_cmp (gi := fun i j => decide (i < j)) (gs := fun a b => decide (a.cps.toList < b.cps.toList)) (fun _ _ _ _ q => q) (fun _ _ _ _ q => q) (fun _ _ => rfl) (fun _ _ => rfl) fun a b h1 h2 => by
  cases a <;> cases b <;> first | rfl | exact absurd ⟨rfl, rfl⟩ (h1 _ _) | exact absurd ⟨rfl, rfl⟩ (h2 _ _)
def Fin (R : UK) : UK := fun x μ => ∃ μ', Wk μ μ' ∧ R x μ'
def endU (R : UK) : UEnds := { nx := fun _ μ => Fin R (.dat .none) μ, rt := Fin R }
def startU (n : Nat) (us : List UV) : Rho := us.map some ++ List.replicate (n - us.length) none
theorem sr_start {N : Hid} {μ : Mem} {H : Hp} {Nm : List Str} {vs : List V} {us : List UV} {n : Nat} (hn : Nm.length = n) (h : Paired (VR K N μ H) vs us) : SR K N μ H (L2.start Nm vs) (startU n us) := by
  unfold L2.start startU
  rw [hn, h.length]
  have key : ∀ {vs : List V} {us : List UV} (m : Nat), Paired (VR K N μ H) vs us → SR K N μ H (vs.map some ++ List.replicate m none) (us.map some ++ List.replicate m none) := by
    intro vs us m h
    refine ⟨by simp [h.length], ?_⟩
    induction h with
    | nil =>
      intro i x e
      rw [List.map_nil, List.nil_append, List.getElem?_replicate] at e
      split at e <;> cases e
    | cons a b ih =>
      intro i x e
      cases i with
      | zero =>
        cases e
        exact ⟨_, rfl, a⟩
      | succ i => exact ih i x e
  exact key _ h
theorem rd_of {t : TS} {u : US} {sp : USp} {Nm : List Str} {n : Nat} (hn : Nm.length = n) (hs : SS K L0 t u) (hd : ∀ us μ R X, sp us μ R X → u (endU R) (startU n us) μ) {vs : List V} {H : Hp} {Q : VK} {E : XK} (h : lift K sp vs H Q E) : t { nx := fun _ H' => Q .non H', rt := Q } (L2.start Nm vs) H := by
  obtain ⟨N, μ, us, R, X, hr, pv, hsp, k, _⟩ := h
  refine hs N _ _ _ H _ μ hr (sr_start hn pv) (hd us μ R X hsp) ⟨fun σ H' ρ μ' g hr' sr' hu => ?_, fun v H' x μ' g hr' hv hu => ?_, fun _ _ _ _ _ _ _ hu => hu.elim, fun _ _ _ _ _ _ _ hu => hu.elim⟩
  · obtain ⟨μ2, w, hR⟩ := hu
    exact k _ H' _ μ2 (g.trans w.gr) (hr'.wk w) (vrD .non) hR
  · obtain ⟨μ2, w, hR⟩ := hu
    exact k _ H' _ μ2 (g.trans w.gr) (hr'.wk w) (VR.to w.gr hv) hR
theorem len_of {sp : USp} {n : Nat} (h : ∀ us μ R X, sp us μ R X → us.length = n) {vs : List V} {H : Hp} {Q : VK} {E : XK} {ct : CT} (hl : liftX K ct sp vs H Q E) : vs.length = n := by
  obtain ⟨N, μ, us, R, X, hr, pv, hsp, k, _⟩ := hl
  rw [pv.length]
  exact h us μ R X hsp
def uTake : USp := fun us μ R _ => ∃ b c many bu, us = [.ref b, .dat (.int many)] ∧ μ b = some (.box c bu) ∧ c ≤ 1099511627776 ∧ 0 < many ∧ many < 1073741824 ∧ ∀ d : Int, 0 ≤ d → d < many → R (.dat (.int d)) (put μ b (.box (c + 1) bu))
theorem take_lift {vs : List V} {H : Hp} {Q : VK} {E : XK} (h : lift K uTake vs H Q E) : spTake vs H Q E := by
  obtain ⟨N, μ, us, R, X, hr, pv, ⟨b, c, many, bu, rfl, hb, hc, h0, h1, hR⟩, k, _⟩ := h
  cases pv with
  | cons a r =>
    cases r with
    | cons b' r =>
      cases r
      have ea : _ = V.ref b := a
      have eb := Da.intI b'
      subst ea eb
      obtain ⟨xs, hbx, hpx⟩ := (hr.mo b _ hb).2
      refine ⟨b, many, c, xs, rfl, hbx, hc, h0, h1, fun d H' hd0 hd1 ex hbx' => ?_⟩
      have g : Gr N H μ H' (put μ b (.box (c + 1) bu)) := Gr.set hr hb fun a o n q => ex a o n q
      refine k _ H' _ _ g (hr.put (hr.mo b _ hb).1 g (fun a o n q => ex a o n q) ⟨xs, hbx', pmap hpx fun _ _ => VR.to g⟩ fun x q => ?_) (vrD (.int d)) (hR d hd0 hd1)
      rw [hb] at q
      cases q
end
end CN

set_option Elab.async false
set_option linter.all false
set_option maxRecDepth 100000
set_option maxHeartbeats 4000000
namespace CN
open PySem PySem.Spec PyProof.Rows L2 Evl
theorem kb_NoneType_str : kitB "NoneType" "str" = some false := by decide +kernel
theorem kb_NoneType_tuple : kitB "NoneType" "tuple" = some false := by decide +kernel
theorem kb_NoneType_list : kitB "NoneType" "list" = some false := by decide +kernel
theorem kb_NoneType_dict : kitB "NoneType" "dict" = some false := by decide +kernel
theorem kb_NoneType_int : kitB "NoneType" "int" = some false := by decide +kernel
theorem kb_NoneType_bool : kitB "NoneType" "bool" = some false := by decide +kernel
theorem kb_bool_str : kitB "bool" "str" = some false := by decide +kernel
theorem kb_bool_tuple : kitB "bool" "tuple" = some false := by decide +kernel
theorem kb_bool_list : kitB "bool" "list" = some false := by decide +kernel
theorem kb_bool_dict : kitB "bool" "dict" = some false := by decide +kernel
theorem kb_bool_int : kitB "bool" "int" = some true := by decide +kernel
theorem kb_bool_bool : kitB "bool" "bool" = some true := by decide +kernel
theorem kb_int_str : kitB "int" "str" = some false := by decide +kernel
theorem kb_int_tuple : kitB "int" "tuple" = some false := by decide +kernel
theorem kb_int_list : kitB "int" "list" = some false := by decide +kernel
theorem kb_int_dict : kitB "int" "dict" = some false := by decide +kernel
theorem kb_int_int : kitB "int" "int" = some true := by decide +kernel
theorem kb_int_bool : kitB "int" "bool" = some false := by decide +kernel
theorem kb_str_str : kitB "str" "str" = some true := by decide +kernel
theorem kb_str_tuple : kitB "str" "tuple" = some false := by decide +kernel
theorem kb_str_list : kitB "str" "list" = some false := by decide +kernel
theorem kb_str_dict : kitB "str" "dict" = some false := by decide +kernel
theorem kb_str_int : kitB "str" "int" = some false := by decide +kernel
theorem kb_str_bool : kitB "str" "bool" = some false := by decide +kernel
theorem kb_list_str : kitB "list" "str" = some false := by decide +kernel
theorem kb_list_tuple : kitB "list" "tuple" = some false := by decide +kernel
theorem kb_list_list : kitB "list" "list" = some true := by decide +kernel
theorem kb_list_dict : kitB "list" "dict" = some false := by decide +kernel
theorem kb_list_int : kitB "list" "int" = some false := by decide +kernel
theorem kb_list_bool : kitB "list" "bool" = some false := by decide +kernel
theorem kb_tuple_str : kitB "tuple" "str" = some false := by decide +kernel
theorem kb_tuple_tuple : kitB "tuple" "tuple" = some true := by decide +kernel
theorem kb_tuple_list : kitB "tuple" "list" = some false := by decide +kernel
theorem kb_tuple_dict : kitB "tuple" "dict" = some false := by decide +kernel
theorem kb_tuple_int : kitB "tuple" "int" = some false := by decide +kernel
theorem kb_tuple_bool : kitB "tuple" "bool" = some false := by decide +kernel
theorem kb_dict_str : kitB "dict" "str" = some false := by decide +kernel
theorem kb_dict_tuple : kitB "dict" "tuple" = some false := by decide +kernel
theorem kb_dict_list : kitB "dict" "list" = some false := by decide +kernel
theorem kb_dict_dict : kitB "dict" "dict" = some true := by decide +kernel
theorem kb_dict_int : kitB "dict" "int" = some false := by decide +kernel
theorem kb_dict_bool : kitB "dict" "bool" = some false := by decide +kernel
theorem atI_0 {α : Type} {x : α} {l : List α} : atI (x :: l) 0 = some x := at_nat (i := 0) rfl
theorem atI_1 {α : Type} {x y : α} {l : List α} : atI (x :: y :: l) 1 = some y := at_nat (i := 1) rfl
theorem atI_2 {α : Type} {x y z : α} {l : List α} : atI (x :: y :: z :: l) 2 = some z := at_nat (i := 2) rfl
theorem atI_3 {α : Type} {x y z w : α} {l : List α} : atI (x :: y :: z :: w :: l) 3 = some w := at_nat (i := 3) rfl
theorem atI_4 {α : Type} {x y z w v : α} {l : List α} : atI (x :: y :: z :: w :: v :: l) 4 = some v := at_nat (i := 4) rfl
theorem fin_of {R : UK} {x : UV} {μ μ' : Mem} (w : Wk μ μ') (h : R x μ') : Fin R x μ := ⟨μ', w, h⟩
theorem Wk.drop {μ μ' : Mem} {p : Addr} {us : List UV} (w : Wk μ μ') (n : μ' p = none) : Wk (put μ p (.lst us)) μ' := by
  refine ⟨fun a => ?_, fun dx x h h' => ?_⟩
  · by_cases e : a = p
    · rw [e]
      exact .inl n
    · rw [put_ne e]
      exact w.at_ a
  · by_cases e : dx = p
    · rw [e, put_same] at h
      cases h
    · rw [put_ne e] at h
      exact w.sh dx x h h'
theorem Wk.box {μ : Mem} {b : Addr} {c c' : Int} {bu : List UV} (h : c ≤ c') : Wk (put μ b (.box c bu)) (put μ b (.box c' bu)) := by
  refine ⟨fun a => ?_, fun dx x h1 h2 => ?_⟩
  · by_cases e : a = b
    · rw [e, put_same, put_same]
      exact .inr (.inr ⟨c, c', bu, h, rfl, rfl⟩)
    · rw [put_ne e, put_ne e]
      exact .inr (.inl rfl)
  · by_cases e : dx = b
    · rw [e, put_same] at h1
      cases h1
    · rw [put_ne e] at h1 h2
      rw [h1] at h2
      cases h2
def spF (f : PyData → PyData) : USp := fun us μ R _ => match us with
  | [.dat d] => Fine d ∧ R (.dat (f d)) μ
  | _ => False
theorem in_sign {c : Nat} {z : Str} : inB (.str ⟨#[c]⟩) (.str z) = some (decide (c ∈ z.cps.toList)) := rfl
theorem inV_cons (f a : Str) (r : List V) : inV (.str f) (.str a :: r) = (decide (f = a) || inV (.str f) r) := by
  unfold inV
  rw [List.any_cons]
  congr 1
  show (a == f) = _
  by_cases h : f = a
  · rw [h, beq_self_eq_true, decide_eq_true rfl]
  · rw [decide_eq_false h, beq_eq_false_iff_ne]
    exact Ne.symm h
theorem inV_nil (f : Str) : inV (.str f) [] = false := rfl
theorem in_tup2 (f a b : Str) : inB (.str f) (.tuple [.str a, .str b]) = some (decide (f = a) || decide (f = b)) := by
  show some (inV (.str f) [.str a, .str b]) = _
  rw [inV_cons, inV_cons, inV_nil, Bool.or_false]
theorem in_tup3 (f a b c : Str) : inB (.str f) (.tuple [.str a, .str b, .str c]) = some (decide (f = a) || decide (f = b) || decide (f = c)) := by
  show some (inV (.str f) [.str a, .str b, .str c]) = _
  rw [inV_cons, inV_cons, inV_cons, inV_nil, Bool.or_false, Bool.or_assoc]
theorem seq_step {s t : US} {U : UEnds} {ρ : Rho} {μ : Mem} (h : ∀ K, K = t U → s { U with nx := K } ρ μ) : uSeq s t U ρ μ := h _ rfl
theorem lc_pure {g : UG} {t : UT} {e : UE} {vs : List Nat} {ρ : Rho} {R : List UV → Mem → Prop} {μ : Mem} (f : UV → Bool) (h : UV → UV) : ∀ (xs acc : List UV),
    (∀ x ∈ xs, ∀ (K1 : UV → Mem → Prop) (K2 : Mem → Prop), (f x = true → K1 (h x) μ) → (f x = false → K2 μ) → g x (wipeU ρ vs) μ fun ρ2 μ2 => t ρ2 μ2 fun b μ3 => if b = true then e ρ2 μ3 K1 else K2 μ3) →
    R (acc ++ (xs.filter f).map h) μ → lcL (fun _ => True) g t e vs ρ R xs acc μ
  | [], acc, _, q => ⟨trivial, by simpa using q⟩
  | x :: xs, acc, hx, q => by
    refine ⟨trivial, hx x List.mem_cons_self _ _ (fun hf => ?_) (fun hf => ?_)⟩
    · refine lc_pure f h xs _ (fun y hy => hx y (List.mem_cons_of_mem _ hy)) ?_
      rw [List.filter_cons_of_pos hf, List.map_cons] at q
      simpa using q
    · refine lc_pure f h xs _ (fun y hy => hx y (List.mem_cons_of_mem _ hy)) ?_
      rw [List.filter_cons_of_neg (by rw [hf]; exact Bool.false_ne_true)] at q
      exact q
theorem lc_data {g : UG} {t : UT} {e : UE} {vs : List Nat} {ρ : Rho} {R : List UV → Mem → Prop} {μ : Mem} (f : PyData → Bool) (h : PyData → PyData) (ds : List PyData)
    (hx : ∀ x ∈ ds, ∀ (K1 : UV → Mem → Prop) (K2 : Mem → Prop), (f x = true → K1 (.dat (h x)) μ) → (f x = false → K2 μ) → g (.dat x) (wipeU ρ vs) μ fun ρ2 μ2 => t ρ2 μ2 fun b μ3 => if b = true then e ρ2 μ3 K1 else K2 μ3)
    (q : R (((ds.filter f).map h).map UV.dat) μ) : lcL (fun _ => True) g t e vs ρ R (ds.map UV.dat) [] μ := by
  refine lc_pure (fun x => match x with | .dat d => f d | _ => false) (fun x => match x with | .dat d => .dat (h d) | x => x) _ _ (fun x hm K1 K2 h1 h2 => ?_) ?_
  · obtain ⟨d, hd, rfl⟩ := List.mem_map.mp hm
    exact hx d hd K1 K2 h1 h2
  · rw [List.nil_append, List.filter_map, List.map_map]
    rw [List.map_map] at q
    exact q
theorem take_intro {b : Addr} {c many : Int} {μ : Mem} {R : UK} {X : UX} {bu : List UV} (hb : μ b = some (.box c bu)) (hc : c ≤ 1099511627776) (h0 : 0 < many) (h1 : many < 1073741824) (h : ∀ d : Int, 0 ≤ d → d < many → R (.dat (.int d)) (put μ b (.box (c + 1) bu))) : uTake [.ref b, .dat (.int many)] μ R X :=
  ⟨b, c, many, bu, rfl, hb, hc, h0, h1, h⟩
theorem for_inv {chk : Mem → Prop} {g : UG} {b : US} {U : UEnds} (I : Nat → Rho → Mem → Prop) : ∀ (xs : List UV) (ρ : Rho) (μ : Mem) (k : Nat), I k ρ μ → (∀ j ρ μ, I j ρ μ → chk μ) →
    (∀ (j : Nat) (x : UV) (ρ : Rho) (μ : Mem) (U' : UEnds), xs[j]? = some x → I (k + j) ρ μ → (∀ ρ μ, I (k + j + 1) ρ μ → U'.nx ρ μ) → (∀ ρ μ, I (k + j + 1) ρ μ → U'.ct ρ μ) → (∀ ρ μ, U.nx ρ μ → U'.bk ρ μ) → (∀ x μ, U.rt x μ → U'.rt x μ) → g x ρ μ fun ρ' μ' => b U' ρ' μ') →
    (∀ ρ μ, I (k + xs.length) ρ μ → U.nx ρ μ) → forL chk g b xs U ρ μ
  | [], ρ, μ, k, hi, hc, _, q => ⟨hc k ρ μ hi, q ρ μ hi⟩
  | x :: xs, ρ, μ, k, hi, hc, hs, q => by
    have next : ∀ ρ' μ', I (k + 1) ρ' μ' → forL chk g b xs U ρ' μ' := fun ρ' μ' h => by
      refine for_inv I xs ρ' μ' (k + 1) h hc (fun j y ρ μ U' hy hj h1 h2 h3 h4 => ?_) (fun ρ μ hq => q ρ μ ?_)
      · refine hs (j + 1) y ρ μ U' hy (by rw [show k + (j + 1) = k + 1 + j by omega]; exact hj) (fun ρ μ h => h1 ρ μ ?_) (fun ρ μ h => h2 ρ μ ?_) h3 h4
        · rw [show k + 1 + j + 1 = k + (j + 1) + 1 by omega]
          exact h
        · rw [show k + 1 + j + 1 = k + (j + 1) + 1 by omega]
          exact h
      · rw [List.length_cons, show k + (xs.length + 1) = k + 1 + xs.length by omega]
        exact hq
    exact ⟨hc k ρ μ hi, hs 0 x ρ μ _ rfl hi (fun ρ μ h => next ρ μ h) (fun ρ μ h => next ρ μ h) (fun _ _ h => h) (fun _ _ h => h)⟩
end CN

set_option Elab.async false
set_option linter.all false
set_option maxRecDepth 100000
namespace CN
open PySem
end CN

set_option Elab.async false
set_option linter.all false
set_option maxRecDepth 100000
set_option maxHeartbeats 4000000
namespace PySem
open Sem (wp)
section
variable {prog : Program} {w : World} {A : Around} {R : Result → Shared → Prop} {I : Addr} {fp wr : List Addr} {n : Nat} {P : Nat → Value → Prop} {St : Nat → Heap → Prop} {kw : List (Str × Value)}
end
section
variable {prog : Program} {w : World} {A : Around} {E : Value → Shared → Prop} {s : Shared} {l : Addr} {xs : Array (Int × Tok)} {d : Value}
end
end PySem

namespace CN
open PySem PySem.Spec PyProof.Rows L2 Evl
def intsD : List PyData → Option (List Int)
  | [] => some []
  | .int i :: r => (intsD r).map (i :: ·)
  | _ => none
section
variable {K : PySem.W.Frag} {L : Link}
inductive SJ (K : PySem.W.Frag) (L : Link) : List TE → List UE → Prop
  | nil : SJ K L [] []
  | cons {t : TE} {u : UE} {ts : List TE} {us : List UE} : SE K L t u → SJ K L ts us → SJ K L (t :: ts) (u :: us)
end
end CN

set_option Elab.async false
set_option linter.all false
set_option maxRecDepth 100000
set_option maxHeartbeats 4000000
namespace CN
open PySem PySem.Spec PyProof.Rows L2 Evl
abbrev WXU := Str → UV → Rho → Mem → Prop
section
variable {K : PySem.W.Frag} {ct : CT} {W : WX} {WU : WXU}
def LE (K : PySem.W.Frag) (L : Link) (dd : Addr) (f : Str) (v : V) (x : UV) : Link where
  p := fun N H μ => L.p N H μ ∧ fz N μ H dd = some (.xd [(f, v)]) ∧ VR K N μ H v x
  mo := fun N H μ H1 μ1 h g => ⟨L.mo _ _ _ _ _ h.1 g, g.ex _ _ h.2.1, VR.to g h.2.2⟩
end
section
variable {X : Cx} {a : Addr} {oe : Obj} {cls : Value} {d : Option Addr} {pn : List (Addr × Obj)}
end
section
variable {K : PySem.W.Frag} {L : Link} {N : Hid} {H : Hp} {μ : Mem}
def itemsL (μ : Mem) : UV → Option (List UV)
  | .dat (.list ds) => some (ds.map UV.dat)
  | .ref p => match μ p with
    | some (.lst us) => some us
    | _ => none
  | _ => none
theorem itemsL_ok (hr : HR K L N H μ) {v : V} {x : UV} {us : List UV} (hv : VR K N μ H v x) (e : itemsL μ x = some us) : ∃ p vs, v = .ref p ∧ H p = some (.lst vs) ∧ Paired (VR K N μ H) vs us := by
  cases x with
  | dat d =>
    cases d with
    | list ds =>
      cases e
      obtain ⟨p, vs, rfl, h1, h2⟩ := Da.lstI hv
      exact ⟨p, vs, rfl, hdn_ex _ _ h1, dat_paired h2⟩
    | _ => cases e
  | ref p =>
    simp only [itemsL] at e
    split at e
    · rename_i us' hp
      cases e
      obtain ⟨_, vs, h1, h2⟩ := hr.mo p _ hp
      exact ⟨p, vs, hv, h1, h2⟩
    · cases e
def uCatM (a b : UE) : UE := fun ρ μ R => a ρ μ fun x μ1 => b ρ μ1 fun y μ2 => match itemsL μ2 x with
  | some us => (match itemsL μ2 y with
    | some ws => us.length + ws.length ≤ 1000000 ∧ ∀ p, μ2 p = none → R (.ref p) (put μ2 p (.lst (us ++ ws)))
    | none => False)
  | none => False
theorem se_catM {ta tb : TE} {ua ub : UE} (ha : SE K L ta ua) (hb : SE K L tb ub) : SE K L (tOp (rAddW K) ta tb) (uCatM ua ub) := fun N σ H ρ μ Q R hr sr hu k =>
  ha N σ H ρ μ _ _ hr sr hu fun v H1 x μ1 g1 hr1 hv hu1 => hb N σ H1 ρ μ1 _ _ hr1 (sr.to g1) hu1 fun w H2 y μ2 g2 hr2 hw hu2 => by
    split at hu2
    · rename_i us e1
      split at hu2
      · rename_i ws e2
        obtain ⟨p, vs, rfl, h1, h2⟩ := itemsL_ok hr2 (VR.to g2 hv) e1
        obtain ⟨q, xs, rfl, h3, h4⟩ := itemsL_ok hr2 hw e2
        refine .inl ⟨p, q, vs, xs, rfl, rfl, h1, h3, by rw [h2.length, h4.length]; exact line_ge (by omega), fun r H3 n e hq => ?_⟩
        obtain ⟨g, hr3⟩ := hr_new hr2 n e hq (paired_app h2 h4)
        exact k _ H3 (.ref r) _ ((g1.trans g2).trans g) hr3 rfl (hu2.2 r (hr2.new n).2)
      · exact hu2.elim
    · exact hu2.elim
end
def spFL (f : PyData → PyData) (r : PyData) : USp := fun us μ R _ => match us with
  | [.dat d] => Fine d ∧ R (.dat (f d)) μ
  | [.ref p] => (∃ vs, μ p = some (.lst vs)) ∧ R (.dat r) μ
  | _ => False
structure Kp (b : Addr) (μ0 μ : Mem) : Prop where
  at_ : ∀ a, a ≠ b → μ0 a ≠ none → μ a = μ0 a
  sh : ∀ a x, μ a = some (.shd x) → μ0 a = some (.shd x)
  bx : ∃ c bu, μ b = some (.box c bu)
theorem Kp.refl {b : Addr} {c : Int} {bu : List UV} {μ : Mem} (h : μ b = some (.box c bu)) : Kp b μ μ := ⟨fun _ _ _ => rfl, fun _ _ h => h, c, bu, h⟩
theorem Kp.new {b p : Addr} {μ0 μ : Mem} (k : Kp b μ0 μ) (h : μ p = none) : p ≠ b ∧ μ0 p = none := by
  obtain ⟨c, bu, hc⟩ := k.bx
  have e : p ≠ b := fun z => by rw [z, hc] at h; cases h
  refine ⟨e, ?_⟩
  cases q : μ0 p with
  | none => rfl
  | some m =>
    have := k.at_ p e (by rw [q]; intro z; cases z)
    rw [h, q] at this
    cases this
theorem Kp.lst {b p : Addr} {μ0 μ : Mem} {us : List UV} (k : Kp b μ0 μ) (e : p ≠ b) (h : μ0 p = none) : Kp b μ0 (put μ p (.lst us)) := by
  refine ⟨fun a ha hn => ?_, fun a x hx => ?_, ?_⟩
  · rw [put_ne (fun z => hn (by rw [z, h]))]
    exact k.at_ a ha hn
  · by_cases z : a = p
    · rw [z, put_same] at hx
      cases hx
    · rw [put_ne z] at hx
      exact k.sh a x hx
  · obtain ⟨c, bu, hc⟩ := k.bx
    exact ⟨c, bu, by rw [put_ne e.symm]; exact hc⟩
theorem Kp.box {b : Addr} {μ0 μ : Mem} {c : Int} {bu : List UV} (k : Kp b μ0 μ) : Kp b μ0 (put μ b (.box c bu)) := by
  refine ⟨fun a ha hn => ?_, fun a x hx => ?_, c, bu, put_same⟩
  · rw [put_ne ha]
    exact k.at_ a ha hn
  · by_cases z : a = b
    · rw [z, put_same] at hx
      cases hx
    · rw [put_ne z] at hx
      exact k.sh a x hx
theorem Kp.del {b p : Addr} {μ0 μ : Mem} (k : Kp b μ0 μ) (e : p ≠ b) (h : μ0 p = none) : Kp b μ0 (CN.del μ p) := by
  refine ⟨fun a ha hn => ?_, fun a x hx => ?_, ?_⟩
  · rw [del_ne (fun z => hn (by rw [z, h]))]
    exact k.at_ a ha hn
  · by_cases z : a = p
    · rw [z, del_same] at hx
      cases hx
    · rw [del_ne z] at hx
      exact k.sh a x hx
  · obtain ⟨c, bu, hc⟩ := k.bx
    exact ⟨c, bu, by rw [del_ne e.symm]; exact hc⟩
theorem Kp.wk {b : Addr} {μ0 μ : Mem} {c c' : Int} {bu : List UV} (k : Kp b μ0 μ) (h : μ b = some (.box c bu)) (hc : c ≤ c') : Wk μ (put μ0 b (.box c' bu)) := by
  refine ⟨fun a => ?_, fun dx x h1 h2 => ?_⟩
  · by_cases e : a = b
    · rw [e, put_same]
      exact .inr (.inr ⟨c, c', bu, hc, h, rfl⟩)
    · rw [put_ne e]
      cases q : μ0 a with
      | none => exact .inl rfl
      | some m => exact .inr (.inl (by rw [k.at_ a e (by rw [q]; intro z; cases z), q]))
  · have e : dx ≠ b := fun z => by rw [z, h] at h1; cases h1
    rw [put_ne e, k.sh dx x h1] at h2
    cases h2
theorem kitCls_of {K : PySem.W.Frag} {t : Value} {D : Addr} {b : Bool} (h2 : PySem.W.isClsIn K D = true) (h3 : PySem.W.typeIn K (.ref D) = some (.type "type")) (h4 : PySem.W.subIn K t (.ref D) = some b) : PySem.W.kitCls K t (.ref D) = some b := by
  have e2 : ((PySem.W.clsIn K D).isSome && PySem.W.typeIn K (.ref D) == some (.type "type")) = true := by
    have h2' : (PySem.W.clsIn K D).isSome = true := h2
    rw [h2', h3] <;> rfl
  show (if ((PySem.W.clsIn K D).isSome && PySem.W.typeIn K (.ref D) == some (.type "type")) = true then PySem.W.subIn K t (.ref D) else none) = some b
  rw [if_pos e2]
  exact h4
theorem kit_of {K : PySem.W.Frag} {C D : Addr} {b : Bool} (h2 : PySem.W.isClsIn K D = true) (h3 : PySem.W.typeIn K (.ref D) = some (.type "type")) (h4 : PySem.W.subIn K (.ref C) (.ref D) = some b) (h5 : PySem.W.subIn K (.ref C) (.ref C) = some true) : PySem.W.kitOne K (.ref C) (.ref D) = some b := by
  unfold PySem.W.kitOne
  split
  · rename_i e
    have e' : (Value.ref C) = Value.ref D := by simpa using e
    cases e'
    rw [h5] at h4
    exact h4
  · exact kitCls_of h2 h3 h4
end CN

set_option Elab.async false
set_option linter.all false
set_option maxRecDepth 100000
set_option maxHeartbeats 4000000
namespace CN
open PySem PySem.Spec PyProof.Rows L2 Evl
section
variable {K : PySem.W.Frag} {L : Link}
end
end CN

set_option Elab.async false
set_option linter.all false
set_option maxRecDepth 100000
set_option maxHeartbeats 4000000
namespace CN
open PySem
section
variable {prog : Program} {w : World} {K : Type} [DecidableEq K] {knd : KeyKind prog w K} {A : Around} {E : Value → Shared → Prop} {s : Shared}
end
end CN

set_option Elab.async false
set_option linter.all false
set_option maxRecDepth 100000
set_option maxHeartbeats 4000000
namespace CN
open PySem PySem.Spec PyProof.Rows L2 Evl
end CN

set_option Elab.async false
set_option linter.all false
set_option maxRecDepth 100000
set_option maxHeartbeats 4000000
namespace CN
open PySem PySem.Spec PyProof.Rows L2 Evl
section
variable {κ : Type} [DecidableEq κ]
end
def keyU : PyData → Option Key
  | .int i => some (.inl i)
  | .str x => some (.inr x)
  | _ => none
theorem keyU_keyD : ∀ k : Key, keyU (keyD k) = some k
  | .inl _ => rfl
  | .inr _ => rfl
def valD (ds : List (PyData × PyData)) (k : Key) : Option PyData := (ds.find? fun q => decide (keyU q.1 = some k)).map (·.2)
def putD (ds : List (PyData × PyData)) (k : Key) (v : PyData) : List (PyData × PyData) :=
  if (ds.any fun q => decide (keyU q.1 = some k)) = true then ds.map (fun q => if keyU q.1 = some k then (q.1, v) else q) else ds ++ [(keyD k, v)]
section
variable {K : PySem.W.Frag} {L : Link}
theorem DaKv.val {F : Hp} {k : Key} : ∀ {kvs : List (Key × V)} {ds : List (PyData × PyData)}, DaKv K F kvs ds → (valV kvs k = none ∧ valD ds k = none) ∨ ∃ v d, valV kvs k = some v ∧ valD ds k = some d ∧ Da K F v d
  | _, _, .nil => .inl ⟨rfl, rfl⟩
  | (k', v) :: kvs, _, .cons (d := d) (ds := ds) a b => by
    by_cases e : k' = k
    · subst e
      refine .inr ⟨v, d, valV_pos rfl, ?_, a⟩
      simp [valD, List.find?_cons, keyU_keyD]
    · have h1 : valV ((k', v) :: kvs) k = valV kvs k := valV_neg e
      have h2 : valD ((keyD k', d) :: ds) k = valD ds k := by
        simp [valD, List.find?_cons, keyU_keyD, e]
      rw [h1, h2]
      exact DaKv.val b
theorem DaKv.any {F : Hp} {k : Key} : ∀ {kvs : List (Key × V)} {ds : List (PyData × PyData)}, DaKv K F kvs ds → (kvs.any fun kv => decide (kv.1 = k)) = ds.any fun q => decide (keyU q.1 = some k)
  | _, _, .nil => rfl
  | (k', v) :: kvs, _, .cons (d := d) (ds := ds) a b => by
    rw [List.any_cons, List.any_cons, DaKv.any b, keyU_keyD]
    by_cases e : k' = k
    · simp [e]
    · simp [e]
theorem DaKv.snoc {F : Hp} {k : Key} {v : V} {dv : PyData} (hv : Da K F v dv) : ∀ {kvs : List (Key × V)} {ds : List (PyData × PyData)}, DaKv K F kvs ds → DaKv K F (kvs ++ [(k, v)]) (ds ++ [(keyD k, dv)])
  | _, _, .nil => .cons hv .nil
  | _, _, .cons a b => .cons a (DaKv.snoc hv b)
theorem DaKv.repl {F : Hp} {k : Key} {v : V} {dv : PyData} (hv : Da K F v dv) : ∀ {kvs : List (Key × V)} {ds : List (PyData × PyData)}, DaKv K F kvs ds →
    DaKv K F (kvs.map fun kv => if kv.1 = k then (kv.1, v) else kv) (ds.map fun q => if keyU q.1 = some k then (q.1, dv) else q)
  | _, _, .nil => .nil
  | (k', v') :: kvs, _, .cons (d := d) (ds := ds) a b => by
    rw [List.map_cons, List.map_cons]
    by_cases e : k' = k
    · rw [if_pos e, if_pos (by rw [keyU_keyD, e])]
      exact .cons hv (DaKv.repl hv b)
    · rw [if_neg e, if_neg (by rw [keyU_keyD]; intro z; cases z; exact e rfl)]
      exact .cons a (DaKv.repl hv b)
theorem DaKv.put {F : Hp} {k : Key} {v : V} {dv : PyData} {kvs : List (Key × V)} {ds : List (PyData × PyData)} (h : DaKv K F kvs ds) (hv : Da K F v dv) : DaKv K F (putK kvs k v) (putD ds k dv) := by
  unfold putK putD
  rw [h.any]
  split
  · exact DaKv.repl hv h
  · exact DaKv.snoc hv h
theorem DaKv.len {F : Hp} : ∀ {kvs : List (Key × V)} {ds : List (PyData × PyData)}, DaKv K F kvs ds → kvs.length = ds.length
  | _, _, .nil => rfl
  | _, _, .cons _ b => by rw [List.length_cons, List.length_cons, DaKv.len b]
theorem da_key {F : Hp} {v : V} {d : PyData} {k : Key} (h : Da K F v d) (e : keyU d = some k) : v = kV k := by
  cases h <;> cases e <;> rfl
abbrev PK (K : PySem.W.Frag) (N : Hid) (μ : Mem) (H : Hp) : List (Key × V) → List (Key × UV) → Prop := Paired (fun (p : Key × V) (q : Key × UV) => p.1 = q.1 ∧ VR K N μ H p.2 q.2)
theorem hr_newD {N : Hid} {H : Hp} {μ : Mem} {p : Addr} (hr : HR K L N H μ) (np : H p = none) : Gr N H μ (upd H p (.dK [])) (put μ p (.dct [])) ∧ HR K L N (upd H p (.dK [])) (put μ p (.dct [])) := by
  have e1 : Ex H (upd H p (.dK [])) := Ex.new np
  have g := Gr.put (m := .dct []) hr np e1
  refine ⟨g, hr.put (hr.new np).1 g (fun a o _ q => e1 a o q) ⟨[], upd_same, .nil⟩ fun x q => ?_⟩
  rw [(hr.new np).2] at q
  cases q
theorem hr_setD {N : Hid} {H : Hp} {μ : Mem} {p : Addr} {us us' : List (Key × UV)} {ws : List (Key × V)} (hr : HR K L N H μ) (hp : μ p = some (.dct us)) (hw : Paired (fun (p : Key × V) (q : Key × UV) => p.1 = q.1 ∧ VR K N μ H p.2 q.2) ws us') :
    Gr N H μ (upd H p (.dK ws)) (put μ p (.dct us')) ∧ HR K L N (upd H p (.dK ws)) (put μ p (.dct us')) := by
  have hk : ∀ a o, a ≠ p → H a = some o → upd H p (.dK ws) a = some o := fun a o n e => by rw [upd_ne n]; exact e
  have g : Gr N H μ (upd H p (.dK ws)) (put μ p (.dct us')) := Gr.set hr hp hk
  refine ⟨g, hr.put (hr.mo p _ hp).1 g hk ⟨ws, upd_same, pmap hw fun _ _ q => ⟨q.1, VR.to g q.2⟩⟩ fun x q => ?_⟩
  rw [hp] at q
  cases q
end
end CN

set_option Elab.async false
set_option linter.all false
set_option maxRecDepth 100000
set_option maxHeartbeats 4000000
namespace CN
open PySem PySem.Spec PyProof.Rows L2 Evl
def keyS (e : Int × Value) : Str := match e.2 with | .str k _ => k | _ => Str.empty
def GoodS (w : World) (e : Int × Value) : Prop := ∃ k tk, e.2 = Value.str k tk ∧ e.1 = hashStr w k
structure PayS (w : World) (es : Array (Int × Value)) (t : SetTable) (m : List Str) : Prop where
  good : ∀ e ∈ es.toList, GoodS w e
  nd : (es.toList.map keyS).Nodup
  mem : ∀ k, k ∈ m ↔ k ∈ es.toList.map keyS
  few : es.size < scanBound
  fit : t.fits es.size = true
  le : es.size ≤ m.length
  ris : Ris t.place.toList
  led : w.params.followText "set-order" = true ∨ t.led = true
def SetS (w : World) (h : Heap) (a : Addr) (m : List Str) : Prop := ∃ o es ep t, h.get? a = some o ∧ o.ExactSet ∧ o.data = .set es ep t ∧ PayS w es t m
section
variable {P : Program} {w : World}
theorem SetS.at {h h' : Heap} {a : Addr} {m : List Str} (R : SetS w h a m) (k : ∀ o, h.get? a = some o → h'.get? a = some o) : SetS w h' a m := by
  obtain ⟨o, es, ep, t, ho, r⟩ := R
  exact ⟨o, es, ep, t, k o ho, r⟩
end
section
variable {P : Program} {w : World} {A : Around} {E : Value → Shared → Prop} {s : Shared} {a : Addr} {m : List Str}
end
section
variable {prog : Program} {w : World} {A : Around} {R : Result → Shared → Prop} {I : Addr} {fp wr : List Addr} {G : Array GenState → Array GenState → Prop} {n : Nat} {P : Nat → Value → Prop} {St : Nat → Shared → Prop}
end
section
variable {prog : Program} {w : World} {A : Around} {E : Value → Shared → Prop} {s : Shared}
end
section
variable {X : Cx}
end
end CN

set_option Elab.async false
set_option linter.all false
set_option maxRecDepth 100000
set_option maxHeartbeats 4000000
namespace CN
open PySem PySem.Spec PyProof.Rows L2 Evl
section
variable {K : PySem.W.Frag} {L : Link}
theorem lt1 {k : Nat} (h : k + 64 < cLine) : k + 1 < cLine := by omega
end
section
variable {K : PySem.W.Frag} {L : Link}
end
end CN

set_option Elab.async false
set_option linter.all false
set_option maxRecDepth 100000
set_option maxHeartbeats 4000000
namespace CN
open PySem PySem.Spec PyProof.Rows L2 Evl
def opNeX (a b : PyData) : Option PyData := (eqX a b).map fun c => PyData.bool (!c)
def rNeW (K : PySem.W.Frag) : R2 := fun x y H Q => rNeU K x y H Q ∨ ∃ d e, Dp K H x d ∧ Dp K H y e ∧ shapedX d = true ∧ shapedX e = true ∧ Q (.bl (!PyData.eqv d e)) H
theorem op_neX {X : Cx} (hu : X.A.units + 200 < cLine) : OpR X (compareOp .NotEq) (fun x y H Q => ∃ d e, Dp X.K H x d ∧ Dp X.K H y e ∧ shapedX d = true ∧ shapedX e = true ∧ Q (.bl (!PyData.eqv d e)) H) := by
  intro pins s σ H x y v u Q I rx ry h
  obtain ⟨d, e, hd, he, sd, se, q⟩ := h
  obtain ⟨as, r1⟩ := Dp.reads I d x v hd rx
  obtain ⟨bs, r2⟩ := Dp.reads I e y u he ry
  unfold shapedX at sd se
  rw [Bool.and_eq_true] at sd se
  have h1 := of_decide_eq_true sd.2
  have h2 : min d.depth e.depth ≤ d.depth := Nat.min_le_left _ _
  exact SeqAt.compareNe_reads r1 r2 sd.1 se.1 (by omega) ⟨.bl _, H, I, rfl, q⟩
theorem op_neW {X : Cx} (hu : X.A.units + 200 < cLine) : OpR X (compareOp .NotEq) (rNeW X.K) := (op_neU (by omega)).or (op_neX hu)
theorem os_neX {K : PySem.W.Frag} : OpS K (rNeW K) opNeX := fun L N μ H v w a b res Q hr hv hw e k => by
  unfold opNeX at e
  cases q : eqX a b with
  | none => rw [q] at e; cases e
  | some c =>
    rw [q] at e
    cases e
    rcases eqX_ok q with q | ⟨d1, d2, d3, d4, d5⟩
    · rcases eqB_ok hv hw q with ⟨h1, h2⟩ | ⟨h1, h2, h3, h4, h5⟩
      · exact .inl (.inl ⟨h1, by rw [h2]; exact k _ H (Ex.refl H) (.bl _)⟩)
      · exact .inl (.inr ⟨a, b, h1, h2, h3, h4, by rw [h5]; exact k _ H (Ex.refl H) (.bl _)⟩)
    · exact .inr ⟨a, b, dp_of hv.da d1, dp_of hw.da d2, d3, d4, by rw [d5]; exact k _ H (Ex.refl H) (.bl _)⟩
section
variable {K : PySem.W.Frag} {L : Link}
end
end CN

set_option Elab.async false
set_option linter.all false
set_option maxRecDepth 100000
set_option maxHeartbeats 4000000
namespace CN
open PySem PySem.Spec PyProof.Rows L2 Evl
abbrev Cl := Value × Option Nat × (Addr → Value → Option Addr → TS)
inductive ClOk (X : Cx) : List ExceptHandler → List Cl → Prop
  | nil : ClOk X [] []
  /-- clauses that nothing reaches -/
  | dead {h : ExceptHandler} {hds : List ExceptHandler} : ClOk X (h :: hds) []
  | only {x : Str} {c : Value} {ts : Addr → Value → Option Addr → TS} {b₀ : Stmt} {suite : List Stmt} {np pos' : Pos} {hds : List ExceptHandler} {l : List Cl} (hc : Names X x c)
      (hsu : ∀ (a : Addr) (oe : Obj) (cls : Value) (d : Option Addr) (pn : List (Addr × Obj)), Zc cls d oe → (∃ vs, oe.data = .fields vs) → PSs (X.suite a ((a, oe) :: pn)) (b₀ :: suite) (ts a cls d)) (r : ClOk X hds l) :
      ClOk X (.ExceptHandler (some (.Name x np)) none (b₀ :: suite) pos' :: hds) ((c, none, ts) :: l)
  | as {x n : Str} {i : Nat} {c : Value} {ts : Addr → Value → Option Addr → TS} {b₀ : Stmt} {suite : List Stmt} {np pos' : Pos} {hds : List ExceptHandler} {l : List Cl} (hN : X.N.Nodup) (hi : X.N[i]? = some n) (hln : X.env.kindOf n = some .local) (hc : Names X x c)
      (hsu : ∀ (a : Addr) (oe : Obj) (cls : Value) (d : Option Addr) (pn : List (Addr × Obj)), Zc cls d oe → (∃ vs, oe.data = .fields vs) → PSs (X.suite a ((a, oe) :: pn)) (b₀ :: suite) (ts a cls d)) (r : ClOk X hds l) :
      ClOk X (.ExceptHandler (some (.Name x np)) (some n) (b₀ :: suite) pos' :: hds) ((c, some i, ts) :: l)
  /-- except (x, y) as n -/
  | as2 {x y n : Str} {i kk : Nat} {c c2 : Value} {ts : Addr → Value → Option Addr → TS} {b₀ : Stmt} {suite : List Stmt} {np np2 tp pos' : Pos} {hds : List ExceptHandler} {l : List Cl} (hN : X.N.Nodup) (hi : X.N[i]? = some n) (hln : X.env.kindOf n = some .local) (hc : Names X x c) (hc2 : Names X y c2)
      (hx2 : ∀ cls b, PySem.W.exmOne X.K cls c = some b → ∃ b2, PySem.W.exmOne X.K cls c2 = some b2)
      (hsu : ∀ (a : Addr) (oe : Obj) (cls : Value) (d : Option Addr) (pn : List (Addr × Obj)), Zc cls d oe → (∃ vs, oe.data = .fields vs) → PSs (X.suite a ((a, oe) :: pn)) (b₀ :: suite) (ts a cls d)) (r : ClOk X hds l) :
      ClOk X (.ExceptHandler (some (.Tuple [.Name x np, .Name y np2] kk tp)) (some n) (b₀ :: suite) pos' :: hds) ((c, some i, ts) :: (c2, some i, ts) :: l)
section
variable {X : Cx} {body : List Stmt} {h₀ : ExceptHandler} {hds : List ExceptHandler} {l : List Cl} {pos : Pos} {tb : WX → TS} {Wout : WX}
end
abbrev UCl := (Str → Bool) × Option Nat × (Addr → Str → UV → US)
inductive ClS (K : PySem.W.Frag) (ct : CT) (L : Link) : List Cl → List UCl → Prop
  | nil : ClS K ct L [] []
  | cons {cv : Value} {o : Option Nat} {isa : Str → Bool} {ts : Addr → Value → Option Addr → TS} {us : Addr → Str → UV → US} {l : List Cl} {m : List UCl}
      (hex : ∀ c C f, ct c = some (C, f) → PySem.W.exmOne K (.ref C) cv = some (isa c))
      (hs : ∀ a c C f dd v x, ct c = some (C, f) → isa c = true → SS K (LE K L dd f v x) (ts a (.ref C) (some dd)) (us a c x)) (r : ClS K ct L l m) :
      ClS K ct L ((cv, o, ts) :: l) ((isa, o, us) :: m)
end CN

set_option Elab.async false
set_option linter.all false
set_option maxRecDepth 100000
set_option maxHeartbeats 4000000
namespace CN
open PySem PySem.Spec PyProof.Rows L2 Evl
def putG {α : Type} (kvs : List (Key × α)) (k : Key) (v : α) : List (Key × α) := if (kvs.any fun kv => decide (kv.1 = k)) = true then kvs.map (fun kv => if kv.1 = k then (kv.1, v) else kv) else kvs ++ [(k, v)]
section
variable {K : PySem.W.Frag} {L : Link} {N : Hid} {H : Hp} {μ : Mem}
theorem pk_put {ws : List (Key × V)} {kvs : List (Key × UV)} {k : Key} {v : V} {x : UV} (hv : VR K N μ H v x) (h : PK K N μ H ws kvs) : PK K N μ H (putK ws k v) (putG kvs k x) := by
  have ha : (ws.any fun kv => decide (kv.1 = k)) = kvs.any fun kv => decide (kv.1 = k) := by
    induction h with
    | nil => rfl
    | cons a b ih => rw [List.any_cons, List.any_cons, ih, a.1]
  unfold putK putG
  rw [ha]
  split
  · rename_i e
    clear e ha
    induction h with
    | nil => exact .nil
    | @cons p q ps qs a b ih =>
      rw [List.map_cons, List.map_cons]
      refine .cons ?_ ih
      obtain ⟨a1, a2⟩ := a
      by_cases e : p.1 = k
      · rw [if_pos e, if_pos (a1 ▸ e)]
        exact ⟨a1, hv⟩
      · rw [if_neg e, if_neg (a1 ▸ e)]
        exact ⟨a1, a2⟩
  · exact Paired.snoc h ⟨rfl, hv⟩
end
section
variable {K : PySem.W.Frag} {L : Link}
def uDNewM : UE := fun _ μ R => ∀ p, μ p = none → R (.ref p) (put μ p (.dct []))
theorem se_dnewM : SE K L tDNewK uDNewM := fun N σ H ρ μ Q R hr sr hu k p n => by
  obtain ⟨g, hr1⟩ := hr_newD hr n
  exact k _ _ (.ref p) _ g hr1 rfl (hu p (hr.new n).2)
def uDPut (ud uk uv : UE) : US := fun U ρ μ => uv ρ μ fun y μ1 => ud ρ μ1 fun x μ2 => uk ρ μ2 fun kx μ3 => ∃ p kvs d k, x = .ref p ∧ μ3 p = some (.dct kvs) ∧ kx = .dat d ∧ keyU d = some k ∧ kvs.length < 1000 ∧ U.nx ρ (put μ3 p (.dct (putG kvs k y)))
theorem ss_dput {td tk tv : TE} {ud uk uv : UE} (hd : SE K L td ud) (hk : SE K L tk uk) (hv : SE K L tv uv) : SS K L (sDPut td tk tv) (uDPut ud uk uv) := fun N D U σ H ρ μ hr sr hu lk =>
  hv N σ H ρ μ _ _ hr sr hu fun w H1 y μ1 g1 hr1 hw hu1 => hd N σ H1 ρ μ1 _ _ hr1 (sr.to g1) hu1 fun o H2 x μ2 g2 hr2 ho hu2 => hk N σ H2 ρ μ2 _ _ hr2 (sr.to (g1.trans g2)) hu2 fun kk H3 kx μ3 g3 hr3 hkk hu3 => by
    obtain ⟨p, kvs, d, key, rfl, hp, rfl, ek, hl, hu3⟩ := hu3
    have e : kk = kV key := da_key hkk ek
    subst e
    obtain ⟨_, ws, h1, h2⟩ := hr3.mo p _ hp
    obtain ⟨g4, hr4⟩ := hr_setD hr3 hp (pk_put (k := key) (VR.to (g2.trans g3) hw) h2)
    have hwl : ws.length < sizeLine := by
      rw [h2.length, sizeLine_eq]
      omega
    have gA := ((g1.trans g2).trans g3).trans g4
    exact ⟨p, _, ho, DPut.k h1 hwl, lk.nx _ _ _ _ gA hr4 (sr.to gA) hu3⟩
end
def rdE : Nat → Mem → UV → Option PyData
  | 0, _, _ => none
  | _ + 1, _, .dat d => some d
  | n + 1, μ, .ref p => match μ p with
    | some (.lst us) => (us.mapM (rdE n μ)).map PyData.list
    | some (.tpl us) => (us.mapM (rdE n μ)).map PyData.tuple
    | some (.dct kvs) => (kvs.mapM fun q => (rdE n μ q.2).map fun d => (keyD q.1, d)).map PyData.dict
    | _ => none
section
variable {K : PySem.W.Frag} {L : Link} {N : Hid} {H : Hp} {μ : Mem}
theorem mapM_cons_some {α β : Type} {f : α → Option β} {a : α} {as : List α} {bs : List β} (h : (a :: as).mapM f = some bs) : ∃ b bs', f a = some b ∧ as.mapM f = some bs' ∧ bs = b :: bs' := by
  rw [List.mapM_cons] at h
  cases e : f a with
  | none => rw [e] at h; cases h
  | some b =>
    rw [e] at h
    cases e2 : as.mapM f with
    | none => rw [e2] at h; cases h
    | some bs' =>
      rw [e2] at h
      cases h
      exact ⟨b, bs', rfl, rfl, rfl⟩
theorem mapM_nil_some {α β : Type} {f : α → Option β} {bs : List β} (h : ([] : List α).mapM f = some bs) : bs = [] := by
  rw [List.mapM_nil] at h
  cases h
  rfl
theorem rdE_da (hr : HR K L N H μ) : ∀ (n : Nat) {v : V} {x : UV} {d : PyData}, VR K N μ H v x → rdE n μ x = some d → Da K H v d
  | 0, v, x, d, hv, e => by
    rw [rdE] at e
    cases e
  | n + 1, v, .dat d', d, hv, e => by
    rw [rdE] at e
    cases e
    exact Da.up hv
  | n + 1, v, .ref p, d, hv, e => by
    have ev : v = .ref p := hv
    subst ev
    rw [rdE] at e
    have all : ∀ {vs : List V} {us : List UV} {ds : List PyData}, Paired (VR K N μ H) vs us → us.mapM (rdE n μ) = some ds → DaAll K H vs ds := by
      intro vs us ds hp
      induction hp generalizing ds with
      | nil =>
        intro e
        rw [mapM_nil_some e]
        exact .nil
      | cons a b ih =>
        intro e
        obtain ⟨d, ds', h1, h2, rfl⟩ := mapM_cons_some e
        exact .cons (rdE_da hr n a h1) (ih h2)
    split at e
    · rename_i us hp
      obtain ⟨_, vs, h1, h2⟩ := hr.mo p _ hp
      obtain ⟨ds, h3, rfl⟩ := Option.map_eq_some_iff.mp e
      exact .lst h1 (all h2 h3)
    · rename_i us hp
      obtain ⟨_, vs, h1, h2⟩ := hr.mo p _ hp
      obtain ⟨ds, h3, rfl⟩ := Option.map_eq_some_iff.mp e
      exact .tup (.inl (.inl h1)) (all h2 h3)
    · rename_i kvs hp
      obtain ⟨_, ws, h1, h2'⟩ := hr.mo p _ hp
      obtain ⟨ds, h3, rfl⟩ := Option.map_eq_some_iff.mp e
      refine .dct h1 ?_
      have h2 : PK K N μ H ws kvs := h2'
      clear e h1 hp h2'
      induction h2 generalizing ds with
      | nil =>
        rw [mapM_nil_some h3]
        exact .nil
      | @cons p q ps qs a b ih =>
        obtain ⟨d, ds', e1, e2, rfl⟩ := mapM_cons_some h3
        obtain ⟨d', e3, rfl⟩ := Option.map_eq_some_iff.mp e1
        obtain ⟨pk, pv⟩ := p
        obtain ⟨qk, qv⟩ := q
        obtain ⟨a1, a2⟩ := a
        have a1 : pk = qk := a1
        subst a1
        exact .cons (rdE_da hr n a2 e3) (ih _ e2)
    · cases e
def uReprE (a : UE) : UE := fun ρ μ R => a ρ μ fun x μ1 => ∃ d, rdE 4 μ1 x = some d ∧ okD (opRepr d) μ1 R
theorem se_reprE {ta : TE} {ua : UE} (ha : SE K L ta ua) : SE K L (tCB (rReprA K) (tCons ta tNil)) (uReprE ua) := fun N σ H ρ μ Q R hr sr hu k =>
  ha N σ H ρ μ _ _ hr sr hu fun v H1 x μ1 g1 hr1 hv hu1 => by
    obtain ⟨d, hd, hu1⟩ := hu1
    obtain ⟨r, h1, h2⟩ := okD_some hu1
    unfold opRepr at h1
    split at h1
    · rename_i hc
      cases h1
      exact rep_A (rdE_da hr1 4 hv hd) hc.1 hc.2.1 hc.2.2 (k _ H1 _ μ1 g1 hr1 (vrD (.str _)) h2)
    · cases h1
end
end CN

set_option Elab.async false
set_option linter.all false
set_option maxRecDepth 100000
set_option maxHeartbeats 4000000
namespace CN
open PySem PySem.Spec PyProof.Rows L2 Evl
section
variable {K : PySem.W.Frag} {L : Link}
def uVals : List UE → UA
  | [] => fun _ μ R => R [] μ
  | a :: r => fun ρ μ R => a ρ μ fun x μ1 => uVals r ρ μ1 fun xs μ2 => R (x :: xs) μ2
inductive SDs (K : PySem.W.Frag) (L : Link) : List Str → List (TE × TE) → List UE → Prop
  | nil : SDs K L [] [] []
  | cons {k : Str} {ks : List Str} {t : TE} {ts : List (TE × TE)} {u : UE} {us : List UE} : SE K L t u → SDs K L ks ts us → SDs K L (k :: ks) ((tC (.str k), t) :: ts) (u :: us)
theorem sds_ok {ks : List Str} {ts : List (TE × TE)} {us : List UE} (h : SDs K L ks ts us) : ∀ {N : Hid} {σ : L2.St} {H : Hp} {ρ : Rho} {μ : Mem} {Q : List (V × V) → Hp → Prop} {R : List UV → Mem → Prop}, HR K L N H μ → SR K N μ H σ ρ → uVals us ρ μ R →
    (∀ vs H' xs μ', Gr N H μ H' μ' → HR K L N H' μ' → Paired (VR K N μ' H') vs xs → vs.length = ks.length → R xs μ' → Q ((ks.zip vs).map fun q => (V.str q.1, q.2)) H') → tPairs ts σ H Q := by
  induction h with
  | nil =>
    intro N σ H ρ μ Q R hr sr hu k
    exact k [] H [] μ Gr.refl hr .nil rfl hu
  | cons ha _ ih =>
    intro N σ H ρ μ Q R hr sr hu k
    refine ha N σ H ρ μ _ _ hr sr hu fun v H1 x μ1 g1 hr1 hv hu1 => ?_
    refine ih hr1 (sr.to g1) hu1 fun vs H2 xs μ2 g2 hr2 hvs hl hu2 => ?_
    exact k (v :: vs) H2 (x :: xs) μ2 (g1.trans g2) hr2 (.cons (VR.to g2 hv) hvs) (by rw [List.length_cons, List.length_cons, hl]) hu2
end
end CN

set_option Elab.async false
set_option linter.all false
set_option maxRecDepth 100000
set_option maxHeartbeats 4000000
namespace CN
open PySem PySem.Spec PyProof.Rows L2 Evl
section
variable {X : Cx} {CX : CXT} {k : Nat} {f C : Addr} {fd : FuncData} {ps : List Str} {sp : Sp} {dvs : List V} {ds : List Value} {E : L2.St → XK} {x m : Str} {p pos apos : Pos} {e o fe : Expr} {es : List Expr} {ta tf : TE} {t : TA}
end
section
variable {K : PySem.W.Frag} {L : Link} {ct : CT} {W : WX} {WU : WXU}
end
end CN

set_option Elab.async false
set_option linter.all false
set_option maxRecDepth 100000
set_option maxHeartbeats 4000000
namespace CN
open PySem PySem.Spec PyProof.Rows L2 Evl
end CN

set_option Elab.async false
set_option linter.all false
set_option maxRecDepth 100000
set_option maxHeartbeats 4000000
namespace CN
open PySem PySem.Spec PyProof.Rows L2 Evl
section
variable {K : PySem.W.Frag} {L : Link}
def EqI (K : PySem.W.Frag) (H : Hp) (x y : V) (c : Bool) : Prop := (∃ d e, Dp K H x d ∧ Dp K H y e ∧ shapedX d = true ∧ shapedX e = true ∧ PyData.eqv d e = c) ∨ ∃ a b ks ys, x = .ref a ∧ y = .ref b ∧ H a = some (.dK ks) ∧ SqL K H b ys ∧ c = false
end
def EqIs (K : PySem.W.Frag) (H : Hp) : List V → List V → List Bool → Prop
  | [], [], [] => True
  | x :: xs, y :: ys, c :: cs => EqI K H x y c ∧ EqIs K H xs ys cs
  | _, _, _ => False
theorem EqIs.len {K : PySem.W.Frag} {H : Hp} : ∀ {xs ys : List V} {cs : List Bool}, EqIs K H xs ys cs → xs.length = ys.length ∧ xs.length = cs.length
  | [], [], [], _ => ⟨rfl, rfl⟩
  | _ :: _, _ :: _, _ :: _, h => by
    obtain ⟨a, b⟩ := EqIs.len h.2
    exact ⟨congrArg Nat.succ a, congrArg Nat.succ b⟩
  | [], _ :: _, _, h => h.elim
  | _ :: _, [], _, h => h.elim
  | [], [], _ :: _, h => h.elim
  | _ :: _, _ :: _, [], h => h.elim
theorem EqIs.at {K : PySem.W.Frag} {H : Hp} : ∀ {xs ys : List V} {cs : List Bool} (j : Nat) {x y : V}, EqIs K H xs ys cs → xs[j]? = some x → ys[j]? = some y → ∃ c, cs[j]? = some c ∧ EqI K H x y c
  | _ :: _, _ :: _, c :: _, 0, x, y, h, e1, e2 => by
    cases e1
    cases e2
    exact ⟨c, rfl, h.1⟩
  | _ :: _, _ :: _, _ :: _, j + 1, x, y, h, e1, e2 => EqIs.at j h.2 e1 e2
  | [], _, _, _, _, _, _, e1, _ => by simp at e1
  | _ :: _, [], _, _, _, _, h, _, _ => h.elim
  | _ :: _, _ :: _, [], _, _, _, h, _, _ => h.elim
section
variable {K : PySem.W.Frag} {L : Link} {N : Hid} {H : Hp} {μ : Mem}
end
end CN

set_option Elab.async false
set_option linter.all false
set_option maxRecDepth 100000
set_option maxHeartbeats 4000000
namespace CN
open PySem PySem.Spec PyProof.Rows L2 Evl
section
variable {K : PySem.W.Frag} {x qual : Str} {params : Arguments} {body : List Stmt} {scope : Scope} {dvs : List V} {f : Addr} {fd : FuncData} {ps : List Str}
end
end CN

set_option Elab.async false
set_option linter.all false
set_option maxRecDepth 100000
set_option maxHeartbeats 4000000
namespace CN
open PySem PySem.Spec PyProof.Rows L2 Evl
section
variable {prog : Program} {w : World} {A : Around} {E : Value → Shared → Prop} {s : Shared}
end
section
variable {X : Cx}
end
section
variable {K : PySem.W.Frag} {L : Link}
end
theorem kbs : (kitB "NoneType" "str" = some false) ∧ (kitB "NoneType" "tuple" = some false) ∧ (kitB "NoneType" "list" = some false) ∧ (kitB "NoneType" "dict" = some false) ∧ (kitB "NoneType" "int" = some false) ∧ (kitB "NoneType" "bool" = some false) ∧ (kitB "bool" "str" = some false) ∧ (kitB "bool" "tuple" = some false) ∧ (kitB "bool" "list" = some false) ∧ (kitB "bool" "dict" = some false) ∧ (kitB "bool" "int" = some true) ∧ (kitB "bool" "bool" = some true) ∧ (kitB "int" "str" = some false) ∧ (kitB "int" "tuple" = some false) ∧ (kitB "int" "list" = some false) ∧ (kitB "int" "dict" = some false) ∧ (kitB "int" "int" = some true) ∧ (kitB "int" "bool" = some false) ∧ (kitB "str" "str" = some true) ∧ (kitB "str" "tuple" = some false) ∧ (kitB "str" "list" = some false) ∧ (kitB "str" "dict" = some false) ∧ (kitB "str" "int" = some false) ∧ (kitB "str" "bool" = some false) ∧ (kitB "list" "str" = some false) ∧ (kitB "list" "tuple" = some false) ∧ (kitB "list" "list" = some true) ∧ (kitB "list" "dict" = some false) ∧ (kitB "list" "int" = some false) ∧ (kitB "list" "bool" = some false) ∧ (kitB "tuple" "str" = some false) ∧ (kitB "tuple" "tuple" = some true) ∧ (kitB "tuple" "list" = some false) ∧ (kitB "tuple" "dict" = some false) ∧ (kitB "tuple" "int" = some false) ∧ (kitB "tuple" "bool" = some false) ∧ (kitB "dict" "str" = some false) ∧ (kitB "dict" "tuple" = some false) ∧ (kitB "dict" "list" = some false) ∧ (kitB "dict" "dict" = some true) ∧ (kitB "dict" "int" = some false) ∧ (kitB "dict" "bool" = some false) := ⟨kb_NoneType_str, kb_NoneType_tuple, kb_NoneType_list, kb_NoneType_dict, kb_NoneType_int, kb_NoneType_bool, kb_bool_str, kb_bool_tuple, kb_bool_list, kb_bool_dict, kb_bool_int, kb_bool_bool, kb_int_str, kb_int_tuple, kb_int_list, kb_int_dict, kb_int_int, kb_int_bool, kb_str_str, kb_str_tuple, kb_str_list, kb_str_dict, kb_str_int, kb_str_bool, kb_list_str, kb_list_tuple, kb_list_list, kb_list_dict, kb_list_int, kb_list_bool, kb_tuple_str, kb_tuple_tuple, kb_tuple_list, kb_tuple_dict, kb_tuple_int, kb_tuple_bool, kb_dict_str, kb_dict_tuple, kb_dict_list, kb_dict_dict, kb_dict_int, kb_dict_bool⟩
theorem lss : (∀ {α β : Type} (f : α → β) (a : α), (some a).map f = some (f a)) ∧ (∀ {α β : Type} (f : α → β) (a : α) (l : List α), (a :: l).map f = f a :: l.map f) ∧ (∀ {α β : Type} (f : α → β), ([] : List α).map f = []) ∧ (∀ {α : Type} (a : α) (l : List α), (a :: l).length = l.length + 1) ∧ (∀ {α : Type}, ([] : List α).length = 0) ∧
    (∀ {α : Type} (a : α) (l m : List α), (a :: l) ++ m = a :: (l ++ m)) ∧ (∀ {α : Type} (m : List α), [] ++ m = m) ∧ (∀ {α : Type} (a : α) (l : List α), (a :: l)[0]? = some a) ∧ (∀ {α : Type} (a : α) (l : List α) (i : Nat), (a :: l)[i + 1]? = l[i]?) ∧
    (∀ {α : Type} (a b : α) (l : List α), (a :: l).set 0 b = b :: l) ∧ (∀ {α : Type} (a b : α) (l : List α) (i : Nat), (a :: l).set (i + 1) b = a :: l.set i b) ∧ ((!true) = false) ∧ ((!false) = true) ∧ ((false = true) = False) ∧ (∀ p : Prop, (True ∧ p) = p) ∧ (∀ p : Prop, (p ∧ True) = p) :=
  ⟨fun _ _ => rfl, fun _ _ _ => rfl, fun _ => rfl, fun _ _ => rfl, rfl, fun _ _ _ => rfl, fun _ => rfl, fun _ _ => rfl, fun _ _ _ => rfl, fun _ _ _ => rfl, fun _ _ _ _ => rfl, rfl, rfl, Bool.false_eq_true, true_and, and_true⟩
end CN

set_option Elab.async false
set_option linter.all false
set_option maxRecDepth 100000
set_option maxHeartbeats 4000000
namespace CN
open PySem PySem.Spec PyProof.Rows L2 Evl
section
variable {K : PySem.W.Frag} {L : Link} {N : Hid} {H : Hp} {μ : Mem}
end
section
variable {X : Cx} {CX : CXT} {k : Nat} {f C : Addr} {fd : FuncData} {ps : List Str} {sp : Sp}
end
structure IsiC (K : PySem.W.Frag) (c : Str) (C : Addr) : Prop where
  ns : PySem.W.nsIn K mainGlobals c = some (some (.ref C))
  cl : Cls K C
  ca : PySem.W.findIn K (.ref C) "__class__" = some (some (.builtin "object.__class__"))
  cg : PySem.W.specialIn K (.builtin "object.__class__") "__get__" = some (some (.builtin "getset_descriptor.__get__"))
  ct : PySem.W.takesIn K (.builtin "object.__class__") = some true
  mo : PySem.W.mroIn K C (.type "object") = some true
  one : PySem.W.kitOne K (.ref C) (.ref C) = some true
  no : ∀ n ∈ ["NoneType", "bool", "int", "str", "list", "tuple", "dict"], PySem.W.kitOne K (.type n) (.ref C) = some false ∧ PySem.W.notFirst K C (.type n) = true
section
variable {K : PySem.W.Frag} {L : Link} {N : Hid} {H : Hp} {μ : Mem} {c : Str} {C : Addr}
end
structure NeC (K : PySem.W.Frag) (C f : Addr) : Prop where
  cls : ∃ nm q N bs hdct sn sub ab col dd k0 k1 k2 k3 k5 newId, K.lookup C = some (excClassObj nm q C N bs [.type "object"] hdct sn sub ab col dd k0 k1 k2 k3 k5 newId) ∧ PySem.W.nsOkIn K N = true ∧ PySem.W.nsIn K N "__eq__" = some (some (.ref f)) ∧ PySem.W.nsIn K N "__ne__" = some none
  fn : PySem.W.typeIn K (.ref f) = some (.type "function")
section
variable {X : Cx} {CX : CXT} {k : Nat} {f C : Addr} {fd : FuncData} {ps : List Str} {sp : Sp}
end
section
variable {K : PySem.W.Frag} {L : Link} {c : Str} {C : Addr}
end
section
variable {K : PySem.W.Frag} {L : Link}
end
end CN

set_option Elab.async false
set_option linter.all false
set_option maxRecDepth 100000
set_option maxHeartbeats 4000000
namespace CN
open PySem PySem.Spec PyProof.Rows L2 Evl
section
variable {X : Cx} {CX : CXT} {k : Nat} {f C : Addr} {fd : FuncData} {ps : List Str} {sp : Sp} {E : L2.St → XK} {a b : Expr} {ta tb : TE} {pos : Pos}
end
section
variable {K : PySem.W.Frag} {L : Link} {ct : CT} {W : WX} {WU : WXU} {c : Str} {C : Addr} {sp : USp} {ta tb : TE} {ua ub : UE}
end
section
variable (K : PySem.W.Frag)
structure ItP (N : Hid) (H0 : Hp) (μ0 : Mem) (J : It) (items : List (List UV)) (chk : Mem → Prop) : Prop where
  go : ∀ (i : Nat) (L' : Link) (N' : Hid) (H : Hp) (μ : Mem), Ex (fz N μ0 H0) (fz N' μ H) → HR K L' N' H μ → chk μ → i < items.length → J.go i H
  yld : ∀ (i : Nat) (L' : Link) (N' : Hid) (H : Hp) (μ : Mem) (x : V) (H' : Hp), Ex (fz N μ0 H0) (fz N' μ H) → HR K L' N' H μ → chk μ → i < items.length → J.yld i H x H' → ∃ us T vs, items[i]? = some us ∧ x = .ref T ∧ H' T = some (.tup vs) ∧ Paired (VR K N' μ H') vs us ∧ Ex H H'
  stop : ∀ (i : Nat) (L' : Link) (N' : Hid) (H : Hp) (μ : Mem), Ex (fz N μ0 H0) (fz N' μ H) → HR K L' N' H μ → chk μ → items.length ≤ i → J.stop i H
end
abbrev UIp := Rho → Mem → (List (List UV) → (Mem → Prop) → Mem → Prop) → Prop
def SIp (K : PySem.W.Frag) (L : Link) (w : TI) (u : UIp) : Prop := ∀ N σ H ρ μ Q R, HR K L N H μ → SR K N μ H σ ρ → u ρ μ R → (∀ J H' items chk μ', Gr N H μ H' μ' → HR K L N H' μ' → ItP K N H' μ' J items chk → R items chk μ' → Q J H') → w σ H Q
def forP (chk : Mem → Prop) (is : List Nat) (b : US) : List (List UV) → US
  | [] => fun U ρ μ => chk μ ∧ U.nx ρ μ
  | us :: r => fun U ρ μ => chk μ ∧ ∃ ρ', asgAllU is us ρ = some ρ' ∧ b { U with nx := forP chk is b r U, ct := forP chk is b r U, bk := U.nx } ρ' μ
def uForP (i : UIp) (is : List Nat) (b : US) : US := fun U ρ μ => i ρ μ fun items chk μ1 => forP chk is b items U ρ μ1
theorem asgU_len : ∀ {is : List Nat} {ds : List UV} {ρ ρ' : Rho}, asgAllU is ds ρ = some ρ' → ds.length = is.length := by
  intro is
  induction is with
  | nil =>
    intro ds ρ ρ' e
    cases ds with
    | nil => rfl
    | cons _ _ => cases e
  | cons i is ih =>
    intro ds ρ ρ' e
    cases ds with
    | nil => cases e
    | cons d ds => exact congrArg Nat.succ (ih (ds := ds) e)
theorem ss_forP {K : PySem.W.Frag} {L : Link} {wi : TI} {ui : UIp} {n : Nat} {g : TGs} {is : List Nat} {t1 : TS} {u1 : US} (hi : SIp K L wi ui) (hn : is.length = n) (hg : TGsOk K g is) (hb : SS K L t1 u1) : SS K L (tFor wi (gTup K n g) t1) (uForP ui is u1) := fun N D U σ H ρ μ hr sr hu lk =>
  hi N σ H ρ μ _ _ hr sr hu fun J H1 items chk μ1 g1 hr1 its hu1 => by
    refine ⟨fun i m σ' H' => m = items.length - i ∧ ∃ ρ' μ', Gr N H1 μ1 H' μ' ∧ HR K L N H' μ' ∧ SR K N μ' H' σ' ρ' ∧ forP chk is u1 (items.drop i) U ρ' μ', ⟨_, rfl, ρ, μ1, Gr.refl, hr1, sr.to g1, hu1⟩, ?_⟩
    rintro i m σ2 H2 ⟨rfl, ρ2, μ2, g2, hr2, sr2, hu2⟩
    cases hd : items.drop i with
    | nil =>
      rw [hd] at hu2
      exact .inl ⟨its.stop i L N H2 μ2 g2.ex hr2 hu2.1 (drop_nil hd), lk.nx σ2 H2 ρ2 μ2 (g1.trans g2) hr2 sr2 hu2.2⟩
    | cons x r =>
      rw [hd] at hu2
      obtain ⟨ex, hl, er⟩ := drop_at hd
      obtain ⟨hc, ρ3, ea, hu3⟩ := hu2
      refine .inr ⟨its.go i L N H2 μ2 g2.ex hr2 hc hl, fun σ' H' => ∃ ρ' μ', Gr N H1 μ1 H' μ' ∧ HR K L N H' μ' ∧ SR K N μ' H' σ' ρ' ∧ forP chk is u1 r U ρ' μ', ?_, fun v H3 hy => ?_⟩
      · rintro σ' H' ⟨ρ', μ', a, b, c, d⟩
        exact ⟨items.length - (i + 1), by omega, rfl, ρ', μ', a, b, c, by rw [er]; exact d⟩
      · obtain ⟨us, T, vs, eu, rfl, hT, hv, e3⟩ := its.yld i L N H2 μ2 v H3 g2.ex hr2 hc hl hy
        rw [ex] at eu
        cases eu
        have g3 := Gr.ofEx hr2 e3
        have hr3 := hr2.ofEx e3
        refine ⟨T, vs, rfl, .inl (.inl hT), by rw [hv.length, asgU_len ea, hn], gs_okU (ws := is) hg (sr2.to g3) hv ea (fun _ h => h) fun σ4 sr4 _ => ?_⟩
        have g23 := g2.trans g3
        refine hb N _ _ σ4 H3 ρ3 μ2 hr3 sr4 hu3 ⟨fun σ5 H5 ρ5 μ5 g5 hr5 sr5 hu5 => ⟨ρ5, μ5, g23.trans g5, hr5, sr5, hu5⟩, fun v5 H5 x5 μ5 g5 => lk.rt v5 H5 x5 μ5 ((g1.trans g23).trans g5), fun σ5 H5 ρ5 μ5 g5 => lk.nx σ5 H5 ρ5 μ5 ((g1.trans g23).trans g5),
          fun σ5 H5 ρ5 μ5 g5 hr5 sr5 hu5 => ⟨ρ5, μ5, g23.trans g5, hr5, sr5, hu5⟩⟩
theorem vr_later {K : PySem.W.Frag} {N N' : Hid} {μ0 μ : Mem} {H0 H : Hp} {v : V} {x : UV} (e : Ex (fz N μ0 H0) (fz N' μ H)) (h : VR K N μ0 H0 v x) : VR K N' μ H v x := by
  cases x with
  | dat d => exact Da.ex e h
  | ref p => exact h
theorem its_later {K : PySem.W.Frag} {L : Link} {N N' : Hid} {μ0 μ : Mem} {H0 H : Hp} {v : V} {x : UV} {us : List UV} (e : Ex (fz N μ0 H0) (fz N' μ H)) (hr : HR K L N' H μ) (h : VR K N μ0 H0 v x) (hi : itemsL μ x = some us) : ∃ p vs, v = .ref p ∧ H p = some (.lst vs) ∧ Paired (VR K N' μ H) vs us := itemsL_ok hr (vr_later e h) hi
def uEnumP (a : UE) : UIp := fun ρ μ R => a ρ μ fun x μ1 => ∃ us, itemsL μ1 x = some us ∧ R (us.mapIdx fun i u => [.dat (.int (i : Nat)), u]) (fun μ => itemsL μ x = some us) μ1
theorem sip_enum {K : PySem.W.Frag} {L : Link} {ta : TE} {ua : UE} (ha : SE K L ta ua) : SIp K L (iEnum K (tCons ta tNil)) (uEnumP ua) := fun N σ H ρ μ Q R hr sr hu k =>
  ha N σ H ρ μ _ _ hr sr hu fun v H1 x μ1 g1 hr1 hv hu1 => by
    obtain ⟨us, hi, hu1⟩ := hu1
    obtain ⟨a, xs, rfl, h1, h2⟩ := itemsL_ok hr1 hv hi
    refine ⟨a, xs, rfl, SqL.of h1, k _ H1 _ _ μ1 g1 hr1 ⟨fun i L' N' H' μ' e hr' hc hi' => ?_, fun i L' N' H' μ' x' H2 e hr' hc hi' hy => ?_, fun i L' N' H' μ' e hr' hc hi' => ?_⟩ hu1⟩
    · obtain ⟨p, vs, ep, h3, h4⟩ := its_later e hr' hv hc
      cases ep
      rw [List.length_mapIdx, ← h4.length] at hi'
      exact ⟨vs, vs[i], SqL.of h3, List.getElem?_eq_getElem hi'⟩
    · obtain ⟨p, vs, ep, h3, h4⟩ := its_later e hr' hv hc
      cases ep
      obtain ⟨T, x1, rfl, hT, rfl, hx⟩ := hy
      obtain ⟨u, e1, e2⟩ := paired_atL h4 (hx vs (SqL.of h3))
      have eN := Ex.new (o := .tup [.int (i : Nat), x1]) hT
      refine ⟨_, T, _, by rw [List.getElem?_mapIdx, e1]; rfl, rfl, upd_same, .cons (vrD (.int _)) (.cons (VR.to (Gr.ofEx hr' eN) e2) .nil), eN⟩
    · obtain ⟨p, vs, ep, h3, h4⟩ := its_later e hr' hv hc
      cases ep
      rw [List.length_mapIdx, ← h4.length] at hi'
      exact ⟨vs, SqL.of h3, hi'⟩
end CN

set_option Elab.async false
set_option linter.all false
set_option maxRecDepth 100000
set_option maxHeartbeats 4000000
namespace CN
open PySem PySem.Spec PyProof.Rows L2 Evl
section
variable {K : PySem.W.Frag} {L : Link} {c : Str} {C : Addr} {os : List Str}
end
section
variable {K : PySem.W.Frag} {L : Link} {c : Str} {C : Addr} {sp : USp} {ta tb : TE} {ua ub : UE}
end
end CN

set_option Elab.async false
set_option linter.all false
set_option maxRecDepth 100000
set_option maxHeartbeats 4000000
namespace CN
open PySem PySem.Spec PyProof.Rows L2 Evl HotX
abbrev StH := L2.St
section
variable {X : Cx} {pins : List (Addr × Obj)} {σ : StH} {H : Hp} {s : Shared}
end
section
variable {X : Cx} {e : Expr} {es : List Expr} {ta : TA} {b : BK} {p pos : Pos}
end
inductive ClOkN (X : Cx) : List ExceptHandler → List Cl → Prop
  | nil : ClOkN X [] []
  /-- clauses that nothing reaches -/
  | dead {h : ExceptHandler} {hds : List ExceptHandler} : ClOkN X (h :: hds) []
  | only {x : Str} {c : Value} {ts : Addr → Value → Option Addr → TS} {b₀ : Stmt} {suite : List Stmt} {np pos' : Pos} {hds : List ExceptHandler} {l : List Cl} (hc : Names X x c)
      (hsu : ∀ (a : Addr) (oe : Obj) (cls : Value) (d : Option Addr) (pn : List (Addr × Obj)), L2N.Zn cls d oe → (∃ vs, oe.data = .fields vs) → PSs (X.suite a ((a, oe) :: pn)) (b₀ :: suite) (ts a cls d)) (r : ClOkN X hds l) :
      ClOkN X (.ExceptHandler (some (.Name x np)) none (b₀ :: suite) pos' :: hds) ((c, none, ts) :: l)
  | as {x n : Str} {i : Nat} {c : Value} {ts : Addr → Value → Option Addr → TS} {b₀ : Stmt} {suite : List Stmt} {np pos' : Pos} {hds : List ExceptHandler} {l : List Cl} (hN : X.N.Nodup) (hi : X.N[i]? = some n) (hln : X.env.kindOf n = some .local) (hc : Names X x c)
      (hsu : ∀ (a : Addr) (oe : Obj) (cls : Value) (d : Option Addr) (pn : List (Addr × Obj)), L2N.Zn cls d oe → (∃ vs, oe.data = .fields vs) → PSs (X.suite a ((a, oe) :: pn)) (b₀ :: suite) (ts a cls d)) (r : ClOkN X hds l) :
      ClOkN X (.ExceptHandler (some (.Name x np)) (some n) (b₀ :: suite) pos' :: hds) ((c, some i, ts) :: l)
section
variable {X : Cx} {body : List Stmt} {h₀ : ExceptHandler} {hds : List ExceptHandler} {l : List Cl} {pos : Pos} {tb : WX → TS} {Wout : WX}
end
end CN

set_option Elab.async false
set_option linter.all false
set_option maxRecDepth 100000
set_option maxHeartbeats 4000000
namespace CN
open PySem PySem.Spec PyProof.Rows L2 Evl
end CN

set_option Elab.async false
set_option linter.all false
set_option maxRecDepth 100000
set_option maxHeartbeats 4000000
namespace CN
open PySem PySem.Spec PyProof.Rows L2 Evl
section
variable {K : PySem.W.Frag} {L : Link}
end
end CN

set_option Elab.async false
set_option linter.all false
set_option maxRecDepth 100000
set_option maxHeartbeats 4000000
namespace CN
open PySem PySem.Spec PyProof.Rows L2 Evl
section
variable {K : PySem.W.Frag} {L : Link}
end
end CN

set_option Elab.async false
set_option linter.all false
set_option maxRecDepth 100000
set_option maxHeartbeats 4000000
namespace CN
open PySem PySem.Spec PyProof.Rows L2 Evl
section
variable {X : Cx}
end
section
variable {K : PySem.W.Frag} {L : Link}
end
end CN

set_option Elab.async false
set_option linter.all false
set_option maxRecDepth 100000
set_option maxHeartbeats 4000000
namespace CN
open PySem PySem.Spec PyProof.Rows L2 Evl
section
variable {X : Cx}
end
section
variable {K : PySem.W.Frag} {L : Link}
end
end CN

set_option Elab.async false
set_option linter.all false
set_option maxRecDepth 100000
set_option maxHeartbeats 4000000
namespace CN
open PySem PySem.Spec PyProof.Rows L2 Evl
section
variable {X : Cx} {CX : CXT} {k : Nat} {f C : Addr} {fd : FuncData} {ps : List Str} {sp : Sp} {dvs : List V} {ds : List Value} {E : L2.St → XK} {x : Str} {p pos : Pos}
end
section
variable {K : PySem.W.Frag} {L : Link} {ct : CT}
end
end CN

set_option Elab.async false
set_option linter.all false
set_option maxRecDepth 100000
set_option maxHeartbeats 4000000
namespace CN
open PySem PySem.Builtin PySem.Spec PyProof.Rows L2 Evl
section
variable {prog : Program} {w : World} {A : Around} {E : Value → Shared → Prop} {s : Shared}
end
end CN

set_option Elab.async false
set_option linter.all false
set_option maxRecDepth 100000
set_option maxHeartbeats 4000000
namespace GQB
open PySem PySem.SeqAt
open AutoSeq1 (wpAny_loadPart')
open MeetsSeq MeetsSeq2 MeetsSeq3 SeqRoads2
section
variable {prog : Program} {w : World} {A : Around} {R : Result → Shared → Prop}
end
section
variable {prog : Program} {w : World} {A : Around} {E : Value → Shared → Prop} {s : Shared}
end
end GQB
namespace CN
open PySem PySem.Spec PyProof.Rows L2 Evl
def wEqO (C : Addr) (sp : Sp) (a b : Addr) (xs ys : List V) (Q : VK) : List (V × V) → Hp → Prop
  | [], H => H a = some (.lst xs) ∧ H b = some (.lst ys) ∧ Q (.bl true) H
  | p :: r, H => H a = some (.lst xs) ∧ H b = some (.lst ys) ∧ ((∃ c, p.1 = .ref c ∧ p.2 = .ref c ∧ wEqO C sp a b xs ys Q r H) ∨ ∃ c d dx fs dy gs, p.1 = .ref c ∧ p.2 = .ref d ∧ c ≠ d ∧ H c = some (.ins C dx fs) ∧ H d = some (.ins C dy gs) ∧
      sp [p.1, p.2] H (fun v H' => ∃ k, v = .bl k ∧ (k = true → wEqO C sp a b xs ys Q r H') ∧ (k = false → H' a = some (.lst xs) ∧ H' b = some (.lst ys) ∧ Q (.bl false) H')) E0)
theorem wEqO.at {C : Addr} {sp : Sp} {a b : Addr} {xs ys : List V} {Q : VK} : ∀ {l : List (V × V)} {H : Hp}, wEqO C sp a b xs ys Q l H → H a = some (.lst xs) ∧ H b = some (.lst ys)
  | [], _, h => ⟨h.1, h.2.1⟩
  | _ :: _, _, h => ⟨h.1, h.2.1⟩
section
variable {X : Cx} {CX : CXT} {k : Nat} {f C : Addr} {fd : FuncData} {ps : List Str} {sp : Sp}
end
section
variable {K : PySem.W.Frag} {L : Link} {c : Str} {C : Addr} {sp : USp}
end
end CN

set_option Elab.async false
set_option linter.all false
set_option maxRecDepth 100000
set_option maxHeartbeats 4000000
namespace CN
open PySem PySem.Builtin PySem.Spec PyProof.Rows L2 Evl
section
variable {prog : Program} {w : World} {A : Around} {E : Value → Shared → Prop} {s : Shared} {x : Str} {t : Tok}
end
def signs (z : Str) : List Str := z.cps.toList.map fun c => ⟨#[c]⟩
section
variable {K : PySem.W.Frag}
end
end CN

set_option Elab.async false
set_option linter.all false
set_option maxRecDepth 100000
set_option maxHeartbeats 4000000
namespace CN
open PySem PySem.Spec PyProof.Rows L2 Evl
section
open PySem.W PySem.HandSPX
open Builtin Builtin.ObjectAttr
variable {M : Model} {prog : Program} {w : World} {A : Around} {E : Value → Shared → Prop} {R : Result → Shared → Prop} {h : Heap} {g : Array GenState} {d : Drawn} {t : Nat} {os : OsState}
variable {nm q : Str} {C N : Addr} {bs bm : List Value} {hdct : Bool} {sn : List Str} {sub : List Value} {ab : Bool} {col : Option Bool} {dd : Option Addr} {k0 k1 k2 k3 k5 : Option Value} {b : BK}
theorem mk_tcV (hm : ownB b.tail bm = true) {rest : List Value} {fI : Value} {Q : PySem.Fin → Shared → Prop}
    (hC : h.get? C = some (excClassObj nm q C N bs bm hdct sn sub ab col dd k0 k1 k2 k3 k5 b.new))
    (hi : W.Looks (model prog w) h (typeLookup (.ref C) "__init__") (some fI)) (hb : ∀ self, W.Looks (model prog w) h (bindSpecial fI self) (fI, [self])) (hrest : rest.length ≤ sizeLine)
    (hq : codeAny (model prog w) A (.call fI ⟨.ref (h.objs.size + 1) :: rest, []⟩)
      (fun r s' => match r with | .ok (.ret v) => v = .none ∧ Q (.done (.ret (.ref (h.objs.size + 1)))) s' | .ok _ => False | .error e => E e s')
      ⟨(h.push (W.kdv_tup rest)).push (excO C h.objs.size), g, d, t, os⟩) :
    wpAny (model prog w) A (Builtin.«type.__call__» ⟨.ref C :: rest, []⟩) Q E ⟨h, g, d, t, os⟩ := by
  repeat (first | with_reducible refine wpAny_loadPart_at hC ?_ | with_reducible refine wpAny_madeBy_exc hC ?_ | wp_step)
  refine codeAny_call_builtin_code (Code.quiet_builtin _ b.make.quiet) (mk_chk hm hC ?_)
  refine mk_new hm hC ?_ hrest
  show wpAny _ _ _ _ _ _
  have k : ∀ b o, h.get? b = some o → ((h.push (W.kdv_tup rest)).push (excO C h.objs.size)).get? b = some o := fun b o e => Heap.get?_push_of_some _ (Heap.get?_push_of_some _ e)
  have hC₁ := k _ _ hC
  have hget : ((h.push (W.kdv_tup rest)).push (excO C h.objs.size)).get? (h.objs.size + 1) = some (excO C h.objs.size) := by heap_get
  have hcC : (Value.ref C :: bm).contains (.ref C) = true := by simp
  have i1 := hi.keeps k
  have b1 := (hb (.ref (h.objs.size + 1))).keeps k
  unfold isInstance
  repeat (first | with_reducible refine wpAny_loadPart_at hget ?_ | (with_reducible refine wpAny_isSubtype_exc hC₁ ?_; rw [hcC]) | wp_step)
  show wpAny _ _ (typeLookup (.ref C) _) _ _ _
  refine i1.at ?_
  refine wpAny_holding (wpAny_bind (b1.at ?_))
  refine wpAny_bind (wpAny_call (codeAny_mono hq fun r s' z => ?_))
  rcases r with e | (v | _ | _ | _) <;> first | exact z | exact z.elim | skip
  obtain ⟨rfl, z⟩ := z
  first
    | exact wpAny_pure (wpAny_pure z)
    | (wp_walk; exact z)
theorem mk_callV (hm : ownB b.tail bm = true) {rest : List Value} {fI : Value}
    (hC : h.get? C = some (excClassObj nm q C N bs bm hdct sn sub ab col dd k0 k1 k2 k3 k5 b.new))
    (hi : W.Looks (model prog w) h (typeLookup (.ref C) "__init__") (some fI)) (hb : ∀ self, W.Looks (model prog w) h (bindSpecial fI self) (fI, [self])) (hrest : rest.length ≤ sizeLine)
    (hq : codeAny (model prog w) (A.under (.builtin "type.__call__" ⟨.ref C :: rest, []⟩)) (.call fI ⟨.ref (h.objs.size + 1) :: rest, []⟩) (W.InitBack (h.objs.size + 1) R)
      ⟨(h.push (W.kdv_tup rest)).push (excO C h.objs.size), g, d, t, os⟩) :
    codeAny (model prog w) A (.call (.ref C) ⟨rest, []⟩) R ⟨h, g, d, t, os⟩ := by
  have f1 := tc_lookup
  have f2 := tc_bind (.ref C)
  have hTy : (⟨h, g, d, t, os⟩ : Shared).TypeIs (.ref C) "type" := ⟨_, hC, rfl⟩
  refine codeAny_of_tree ?_
  show wpAny _ _ (callAny (.ref C) _) _ _ _
  repeat (any_goals (first | assumption | with_reducible refine wpAny_loadPart_at hC ?_ | wp_step))
  refine ⟨rfl, ?_⟩
  refine codeAny_call_builtin_at (Code.quiet_builtin _ (by decide +kernel)) entry_typeCall (wpAny_check_type_call_sub hC (mk_tcV hm hC hi hb hrest ?_))
  refine codeAny_mono hq fun r s' z => ?_
  rcases r with e | (v | _ | _ | _) <;> exact z
theorem BK.bindIni : ∀ (b : BK) (self : Value), bindSpecial (.builtin b.ini) self = pure (.builtin b.ini, [self])
  | .ve, self => F.excBase_ValueError.init.bind self
  | .ke, self => excClass_KeyError.init.bind self
  | .le, self => F.excBase_LookupError.init.bind self
end
section
variable {X : Cx} {σ : L2.St} {H : Hp} {C : Addr} {b : BK} {ta : TA} {pos p1 : Pos} {e : Expr} {es : List Expr}
def tMk0 (C : Addr) (ta : TA) : TE := fun σ H Q => ta σ H fun vs H1 => vs.length ≤ 1000 ∧ ∀ x, H1 x = none → Q (.ref x) (upd H1 x (exo x C none))
theorem pe_mk0 {x : Str} (T : OexB X.K b C) (iC : PySem.W.findIn X.K (.ref C) "__init__" = some (some (.builtin b.ini))) (hr : Room 1 X.A) (hg : Gl X x) (hm : X.mg x = some (.ref C)) (ha : PA X [e] ta)
    (hdb : (x == ("__debug__" : Str)) = false := by decide) (he : starEach [e] X.env = (false, eval e X.env) :: starEach [] X.env := by rfl) (hpl : (backTo pos (starEach [] X.env)).any (·.1) = false := by rfl) :
    PE X (.Call (.Name x p1) [e] [] pos) (tMk0 C ta) := by
  constructor
  intro pins s σ H Q I h
  obtain ⟨nm, q, N, bs, bm, sn, sub, ab, col, dd, k0, k1, k2, k3, k5, hC, hbm⟩ := T.cls
  refine wpAny_Call_Name_kw (ld_glob I hg hm ?_ hdb)
  refine PySem.W.callWith_K (h₀ := X.base) I.ok.mod.kin T.kC (thn (ha.run pos pins s σ H _ I h) fun us s1 h1 => ?_) he hpl
  obtain ⟨vs, H1, I1, r1, hl, q1⟩ := h1
  refine ⟨I1.kIn, ?_⟩
  show wpAny _ _ (call (.ref C) us) _ _ _
  obtain ⟨hp, g, dr, tk, os⟩ := s1
  have hus : us.length ≤ sizeLine := by
    rw [← Paired.length r1, sizeLine_eq]
    omega
  have hsz : hp.objs.size ≤ hp.objs.size + 1 := Nat.le_succ _
  have kk : ∀ b o, hp.get? b = some o → ((hp.push (PySem.W.kdv_tup us)).push (PySem.HandSPX.excO C hp.objs.size)).get? b = some o := fun b o e0 => Heap.get?_push_of_some _ (Heap.get?_push_of_some _ e0)
  have hget : ((hp.push (PySem.W.kdv_tup us)).push (PySem.HandSPX.excO C hp.objs.size)).get? (hp.objs.size + 1) = some (PySem.HandSPX.excO C hp.objs.size) := by heap_get
  have I2 : Inv X pins σ (upd H1 (hp.objs.size + 1) (exo (hp.objs.size + 1) C none)) ⟨(hp.push (PySem.W.kdv_tup us)).push (PySem.HandSPX.excO C hp.objs.size), g, dr, tk, os⟩ :=
    I1.laid (t' := tk) kk hsz (exo_ok hget)
  refine wpAny_call (mk_callV hbm (I1.kIn _ _ hC) (PySem.W.looks_findIn I1.kIn iC) (fun self => PySem.W.Looks.of_pure (b.bindIni self)) hus
    (st_base hbm (I2.kIn _ _ hC) hget hus fun h' t1 k hx => ?_))
  have J := I2.write (t' := tk) (x := hp.objs.size + 1) (e := hp.objs.size + 1) (o := exo (hp.objs.size + 1) C none) (by rw [upd_same]; exact True.intro) (.inl rfl) k ⟨_, hx⟩ (exo_ok hx)
  rw [upd_upd] at J
  exact ⟨rfl, .ref (hp.objs.size + 1), _, J, rfl, q1 _ (I1.hok.fresh hsz)⟩
def tMkN (C : Addr) : TE := fun σ H Q => ∀ x, H x = none → Q (.ref x) (upd H x (exo x C none))
def spX0 (C : Addr) : Sp := fun vs H Q _ => ∃ x, vs = [.ref x] ∧ H x = some (exo x C none) ∧ Q .non H
theorem pe_mkN {CX : CXT} {x : Str} {fI : Addr} {k : Nat} {fd : FuncData} {ps : List Str} (T : OexB X.K b C) (iC : PySem.W.findIn X.K (.ref C) "__init__" = some (some (.ref fI))) (tI : PySem.W.typeIn X.K (.ref fI) = some (.type "function"))
    (F1 : FnOk X.prog X.w X.K X.mg X.base CX k fI fd ps (spX0 C)) (hr : Room (k + 1) X.A) (hb : Binds X.K fd ps []) (hx : Passes CX X (fun _ _ _ => False)) (hg : Gl X x) (hm : X.mg x = some (.ref C))
    (hdb : (x == ("__debug__" : Str)) = false := by decide) : PE X (.Call (.Name x p1) [] [] pos) (tMkN C) := by
  constructor
  intro pins s σ H Q I h
  obtain ⟨nm, q, N, bs, bm, sn, sub, ab, col, dd, k0, k1, k2, k3, k5, hC, hbm⟩ := T.cls
  refine wpAny_Call_Name_kw (ld_glob I hg hm ?_ hdb)
  refine PySem.W.callWith_K0 I.kIn T.kC ?_
  show wpAny _ _ (call (.ref C) []) _ _ _
  obtain ⟨hp, g, dr, tk, os⟩ := s
  have hsz : hp.objs.size ≤ hp.objs.size + 1 := Nat.le_succ _
  have kk : ∀ b o, hp.get? b = some o → ((hp.push (PySem.W.kdv_tup [])).push (PySem.HandSPX.excO C hp.objs.size)).get? b = some o := fun b o e0 => Heap.get?_push_of_some _ (Heap.get?_push_of_some _ e0)
  have hget : ((hp.push (PySem.W.kdv_tup [])).push (PySem.HandSPX.excO C hp.objs.size)).get? (hp.objs.size + 1) = some (PySem.HandSPX.excO C hp.objs.size) := by heap_get
  have I2 : Inv X pins σ (upd H (hp.objs.size + 1) (exo (hp.objs.size + 1) C none)) ⟨(hp.push (PySem.W.kdv_tup [])).push (PySem.HandSPX.excO C hp.objs.size), g, dr, tk, os⟩ :=
    I.laid (t' := tk) kk hsz (exo_ok hget)
  have r2 : Vals [V.ref (hp.objs.size + 1)] [Value.ref (hp.objs.size + 1)] := .cons rfl .nil
  have hq : spX0 C [V.ref (hp.objs.size + 1)] (upd H (hp.objs.size + 1) (exo (hp.objs.size + 1) C none)) (fun w0 H2 => w0 = .non ∧ Q (.ref (hp.objs.size + 1)) H2) (fun _ _ _ => False) :=
    ⟨_, rfl, upd_same, rfl, h _ (I.hok.fresh hsz)⟩
  have hl : [Value.ref (hp.objs.size + 1)].length = ps.length := F1.len _ _ _ _ hq
  refine wpAny_call (mk_call hbm (I.kIn _ _ hC) (PySem.W.looks_findIn I.kIn iC) (fun self => PySem.W.bind_fn I.kIn self tI) (by rw [sizeLine_eq]; show 0 ≤ 16777216; decide)
    (codeAny_mono (F1.run _ X.stack _ _ ⟨[Value.ref (hp.objs.size + 1)], []⟩ [Value.ref (hp.objs.size + 1)] _ _ (fun _ _ _ => False) (hr.make C [] []) (I2.env0.make C [] []) (hb _ [Value.ref (hp.objs.size + 1)] I2.kIn (by rw [List.append_nil]; exact hl)) r2 hq) fun r s' hq' => ?_))
  cases r with
  | error er => exact hx pins σ _ _ er s' I2 hq'
  | ok fl =>
    cases fl with
    | ret u0 =>
      obtain ⟨v0, H2, J, rz, ez, q2⟩ := I2.after hq'
      subst ez
      exact ⟨rz, .ref (hp.objs.size + 1), H2, J, rfl, q2⟩
    | next => exact False.elim hq'
    | brk => exact False.elim hq'
    | cont => exact False.elim hq'
def tX0 (K : PySem.W.Frag) (b : BK) (tx : Str) : TS := tDrop (tBI K b (tCons (tVar 0) (tCons (tC (.str tx)) tNil)))
theorem rd_x0 {K : PySem.W.Frag} {b : BK} {C : Addr} {tx : Str} (T : OexB K b C) {N : List Str} (hN : N.length = 1) {vs : List V} {H : Hp} {Q : VK} {E : XK} (h : spX0 C vs H Q E) :
    tX0 K b tx { nx := fun _ H' => Q .non H', rt := Q } (L2.start N vs) H := by
  obtain ⟨x, rfl, hx, q⟩ := h
  have es : L2.start N [.ref x] = [some (.ref x)] := by
    unfold L2.start
    rw [hN]
    rfl
  rw [es]
  exact ⟨_, rfl, x, C, _, rfl, (by show 1 ≤ 1000; decide), T, hx, q⟩
def tFldX (K : PySem.W.Frag) (f : Str) (te : TE) : TE := fun σ H Q => te σ H fun x H1 => ∃ (p C dx : Addr) (fs : List (Str × V)) (v : V), x = .ref p ∧ H1 p = some (exo p C (some dx)) ∧ H1 dx = some (exd dx fs) ∧ ExF K C f ∧ fs.lookup f = some v ∧ Q v H1
theorem pe_fldX {f : Str} {te : TE} (he : PE X e te) (hb : attributeBase e f X.env (eval e X.env) = eval e X.env := by rfl) : PE X (.Attribute e f pos) (tFldX X.K f te) := by
  refine ⟨fun pins s σ H Q I h => ?_⟩
  refine attr_of hb (thn (he.run pins s σ H _ I h) fun u s1 hh => ?_)
  obtain ⟨x, H1, I1, rx, p, C, dx, fs, v, ex, hx, hd, T, ev, q⟩ := hh
  subst ex
  have eu : u = Value.ref p := rx
  subst eu
  obtain ⟨t1, ho⟩ := exo_at I1.hok hx
  obtain ⟨mA, hns, hrel⟩ := exd_at I1.hok hd
  obtain ⟨od, hod, hl⟩ := lookIn_ns hns
  obtain ⟨u2, hu, ru⟩ := RelO.some_of (v := v) (o := mA f) (by rw [← ev]; exact hrel f)
  have J : PySem.W.InstAt s1.heap p { cls := .ref C, dict := some dx, data := .fields #[.ref t1, .none, .none, .none, .bool false, .none] } C (some od) := ⟨ho, rfl, rfl, hod⟩
  exact HandSPX.exc_get I1.kIn J T.ec.hg T.ec.hk T.ec.hs (PySem.W.findObj_own T.ec.hd T.fv rfl (by rw [hl, hu])) (handed_of ru) ⟨v, H1, I1.tok _, ru, q⟩
end
structure ExV (K : PySem.W.Frag) (c : Str) (C : Addr) (B : Option Addr) (b : BK) : Prop where
  ns : PySem.W.nsIn K mainGlobals c = some (some (.ref C))
  ec : ExcC K C
  ty : PySem.W.typeIn K (.ref C) = some (.type "type")
  mr : ∃ cd, PySem.W.clsIn K C = some cd ∧ cd.mro = .ref C :: ((match B with | some B => [Value.ref B] | none => []) ++ b.tail)
theorem ExV.mk' {K : PySem.W.Frag} {c nm q : Str} {C N : Addr} {bs bm : List Value} {sn : List Str} {sub : List Value} {ab : Bool} {col : Option Bool} {dd : Option Addr} {k0 k1 k2 k3 k5 : Option Value} {nw : String} {B : Option Addr} {b : BK}
    (hn : PySem.W.nsIn K mainGlobals c = some (some (.ref C))) (ec : ExcC K C) (ty : PySem.W.typeIn K (.ref C) = some (.type "type")) (hC : K.lookup C = some (PySem.excClassObj nm q C N bs bm true sn sub ab col dd k0 k1 k2 k3 k5 nw))
    (hb : bm = (match B with | some B => [Value.ref B] | none => []) ++ b.tail) : ExV K c C B b :=
  ⟨hn, ec, ty, { name := nm, bases := bs, mro := .ref C :: bm, ns := N, qualname := q, hasDict := true, slotNames := sn, subclasses := sub, abstract := ab, collection := col, hasDel := false }, by unfold PySem.W.clsIn; rw [hC] <;> rfl, by rw [hb]⟩
structure XC where
  nm : Str
  ad : Addr
  up : Option Str
  bk : BK
structure XCs (K : PySem.W.Frag) (xs : List XC) : Prop where
  all : ∀ x ∈ xs, ∃ B, ExV K x.nm x.ad B x.bk ∧ (x.up = none ∧ B = none ∨ ∃ y ∈ xs, x.up = some y.nm ∧ B = some y.ad)
  nd : (xs.map XC.ad).Nodup
  nn : (xs.map XC.nm).Nodup
abbrev XT := List (Str × Option Str × BK)
def xtOf (xs : List XC) : XT := xs.map fun x => (x.nm, x.up, x.bk)
def isaX (tb : XT) (c d : Str) : Option Bool := (tb.find? fun x => x.1 = c).map fun x => decide (c = d) || decide (x.2.1 = some d)
def isaN (tb : XT) (c : Str) (n : String) : Option Bool := (tb.find? fun x => x.1 = c).map fun x => x.2.2.tail.contains (.type n)
def uMkX (c fl : Str) (a : UA) : UE := fun ρ μ R => a ρ μ fun xs μ1 => match xs with
  | [x] => ∀ p, μ1 p = none → R (.ref p) (put μ1 p (.exn c [(fl, x)]))
  | _ => False
def uMk0 (c : Str) (a : UA) : UE := fun ρ μ R => a ρ μ fun xs μ1 => xs.length ≤ 1000 ∧ ∀ p, μ1 p = none → R (.ref p) (put μ1 p (.exn c []))
def uMkN (c : Str) : UE := fun ρ μ R => ∀ p, μ p = none → R (.ref p) (put μ p (.exn c []))
def uFldX (f : Str) (a : UE) : UE := fun ρ μ R => a ρ μ fun x μ1 => ∃ p c fs z, x = .ref p ∧ μ1 p = some (.exn c fs) ∧ fs.lookup f = some z ∧ R z μ1
def uIsX (tb : XT) (d : Str) (a : UE) : UE := fun ρ μ R => a ρ μ fun x μ1 => ∃ p c fs b, x = .ref p ∧ μ1 p = some (.exn c fs) ∧ isaX tb c d = some b ∧ R (.dat (.bool b)) μ1
def uIsB (tb : XT) (n : String) (a : UE) : UE := fun ρ μ R => a ρ μ fun x μ1 => ∃ p c fs b, x = .ref p ∧ μ1 p = some (.exn c fs) ∧ isaN tb c n = some b ∧ R (.dat (.bool b)) μ1
section
variable {K : PySem.W.Frag} {L : Link}
theorem ExV.isx {c : Str} {C : Addr} {B : Option Addr} {b : BK} (T : ExV K c C B b) : IsX K c C [] := ⟨T.ns, T.ec, fun q h => nomatch h⟩
theorem hr_newX {N : Hid} {H : Hp} {μ : Mem} {p C : Addr} {c : Str} (hr : HR K L N H μ) (n : H p = none) (T : IsX K c C []) : Gr N H μ (upd H p (exo p C none)) (put μ p (.exn c [])) ∧ HR K L N (upd H p (exo p C none)) (put μ p (.exn c [])) := by
  have g : Gr N H μ (upd H p (exo p C none)) (put μ p (.exn c [])) := Gr.put hr n (Ex.new n)
  refine ⟨g, HR.put hr (hr.new n).1 g (fun a o e q => by rw [upd_ne e]; exact q) ?_ (fun x q => by rw [(hr.new n).2] at q; cases q)⟩
  exact ⟨C, none, T, upd_same, .inl ⟨rfl, rfl⟩⟩
theorem se_mk0 {c : Str} {C : Addr} {ta : TA} {ua : UA} (T : IsX K c C []) (ha : SA K L ta ua) : SE K L (tMk0 C ta) (uMk0 c ua) := fun N σ H ρ μ Q R hr sr hu k =>
  ha N σ H ρ μ _ _ hr sr hu fun vs H1 xs μ1 g1 hr1 hv hu1 => by
    refine ⟨by rw [Paired.length hv]; exact hu1.1, fun x n => ?_⟩
    obtain ⟨g2, hr2⟩ := hr_newX hr1 n T
    exact k _ _ (.ref x) _ (g1.trans g2) hr2 rfl (hu1.2 x (hr1.new n).2)
theorem se_mkN {c : Str} {C : Addr} (T : IsX K c C []) : SE K L (tMkN C) (uMkN c) := fun N σ H ρ μ Q R hr sr hu k x n => by
  obtain ⟨g2, hr2⟩ := hr_newX hr n T
  exact k _ _ (.ref x) _ g2 hr2 rfl (hu x (hr.new n).2)
theorem se_mkX {c fl : Str} {C : Addr} {ta : TA} {ua : UA} (hn : PySem.W.nsIn K mainGlobals c = some (some (.ref C))) (T : ExF K C fl) (ha : SA K L ta ua) : SE K L (tMkX C fl ta) (uMkX c fl ua) := fun N σ H ρ μ Q R hr sr hu k =>
  ha N σ H ρ μ _ _ hr sr hu fun vs H1 xs μ1 g1 hr1 hv hu1 => by
    split at hu1
    · rename_i x
      cases hv with
      | @cons v _ _ _ a b =>
        cases b
        refine ⟨v, rfl, fun p dx hp hd hne => ?_⟩
        have ex : Ex H1 (upd H1 dx (exd dx [(fl, v)])) := Ex.new hd
        have g2 := Gr.ofEx hr1 ex
        have hr2 := hr1.ofEx ex
        have hp2 : upd H1 dx (exd dx [(fl, v)]) p = none := by rw [upd_ne hne.symm]; exact hp
        have nd : ¬ hs N μ1 dx := fun z => by
          have := hr1.new hd
          rcases z with z | z
          · exact this.1 z
          · exact z this.2
        have ex3 := Ex.new (o := exo p C (some dx)) hp2
        have g3 : Gr N (upd H1 dx (exd dx [(fl, v)])) μ1 (upd (upd H1 dx (exd dx [(fl, v)])) p (exo p C (some dx))) (put μ1 p (.exn c [(fl, x)])) := Gr.put hr2 hp2 ex3
        have hm : μ1 p = none := (hr1.new hp).2
        have hr3 : HR K L N (upd (upd H1 dx (exd dx [(fl, v)])) p (exo p C (some dx))) (put μ1 p (.exn c [(fl, x)])) := by
          refine HR.put hr2 (hr1.new hp).1 g3 (fun a o e q => by rw [upd_ne e]; exact q) ?_ (fun x q => by rw [hm] at q; cases q)
          have h6 : VR K N (put μ1 p (.exn c [(fl, x)])) (upd (upd H1 dx (exd dx [(fl, v)])) p (exo p C (some dx))) v x := VR.to (g2.trans g3) a
          refine ⟨C, some dx, ⟨hn, T.ec, fun q hq => by rw [List.mem_singleton.mp hq]; exact T.fv⟩, upd_same, .inr ⟨dx, [(fl, v)], rfl, ?_, .cons ⟨rfl, h6⟩ .nil⟩⟩
          exact g3.ex _ _ (hdn_at (by rw [upd_same]) nd)
        exact k _ _ (.ref p) _ (g1.trans (g2.trans g3)) hr3 rfl (hu1 p hm)
    · exact hu1.elim
theorem lk_mem {f : Str} {z : UV} : ∀ {fs : List (Str × UV)}, fs.lookup f = some z → ∃ q ∈ fs, q.1 = f
  | [], h => by cases h
  | (a, y) :: fs, h => by
    rw [List.lookup_cons] at h
    by_cases e2 : (f == a) = true
    · exact ⟨_, List.mem_cons_self, (beq_iff_eq.mp e2).symm⟩
    · rw [Bool.eq_false_iff.mpr e2] at h
      obtain ⟨q, hq, e⟩ := lk_mem h
      exact ⟨q, List.mem_cons_of_mem _ hq, e⟩
theorem lk_pair {N : Hid} {μ : Mem} {H : Hp} {f : Str} {z : UV} : ∀ {ws : List (Str × V)} {fs : List (Str × UV)}, Paired (fun (p : Str × V) (q : Str × UV) => p.1 = q.1 ∧ VR K N μ H p.2 q.2) ws fs → fs.lookup f = some z → ∃ v, ws.lookup f = some v ∧ VR K N μ H v z
  | _, _, .nil, h => by cases h
  | (a, v) :: ws, (b, y) :: fs, .cons q r, h => by
    obtain ⟨e, q⟩ := q
    have e : a = b := e
    subst e
    rw [List.lookup_cons] at h ⊢
    by_cases e2 : (f == a) = true
    · rw [e2] at h ⊢
      cases h
      exact ⟨v, rfl, q⟩
    · rw [Bool.eq_false_iff.mpr e2] at h ⊢
      exact lk_pair r h
theorem se_fldX {f : Str} {te : TE} {ue : UE} (he : SE K L te ue) : SE K L (tFldX K f te) (uFldX f ue) := fun N σ H ρ μ Q R hr sr hu k =>
  he N σ H ρ μ _ _ hr sr hu fun v H1 x μ1 g1 hr1 hv hu1 => by
    obtain ⟨p, c, fs, z, rfl, hp, hz, hu1⟩ := hu1
    have ev : v = .ref p := hv
    subst ev
    obtain ⟨_, C, d, T, h1, h2⟩ := hr1.mo p _ hp
    rcases h2 with ⟨_, rfl⟩ | ⟨dx, ws, rfl, h3, h4⟩
    · cases hz
    · obtain ⟨w, h5, h6⟩ := lk_pair h4 hz
      have hm := lk_mem hz
      obtain ⟨q, hq, eq⟩ := hm
      exact ⟨p, C, dx, ws, w, rfl, h1, hdn_ex _ _ h3, ⟨T.ec, by rw [← eq]; exact T.na q hq⟩, h5, k w H1 z μ1 g1 hr1 h6 hu1⟩
theorem XCs.find {xs : List XC} (T : XCs K xs) {c : Str} {r : Str × Option Str × BK} (h : (xtOf xs).find? (fun x => x.1 = c) = some r) : ∃ x ∈ xs, x.nm = c ∧ r = (x.nm, x.up, x.bk) := by
  have h1 := List.find?_some h
  have h2 := List.mem_of_find?_eq_some h
  obtain ⟨x, hx, rfl⟩ := List.mem_map.mp h2
  exact ⟨x, hx, of_decide_eq_true h1, rfl⟩
theorem inj_of {α β : Type} {f : α → β} : ∀ {xs : List α}, (xs.map f).Nodup → ∀ {x y}, x ∈ xs → y ∈ xs → f x = f y → x = y
  | [], _, _, _, h, _, _ => nomatch h
  | a :: xs, hn, x, y, hx, hy, e => by
    rw [List.map_cons, List.nodup_cons] at hn
    rcases List.mem_cons.mp hx with ex | hx <;> rcases List.mem_cons.mp hy with ey | hy
    · rw [ex, ey]
    · rw [ex] at e
      exact absurd (List.mem_map.mpr ⟨y, hy, e.symm⟩) hn.1
    · rw [ey] at e
      exact absurd (List.mem_map.mpr ⟨x, hx, e⟩) hn.1
    · exact inj_of hn.2 hx hy e
theorem kit_mro {C D : Addr} {cd cd2 : ClassData} (h : PySem.W.clsIn K C = some cd) (he : cd.mro.isEmpty = false) (h2 : PySem.W.clsIn K D = some cd2) (ty : PySem.W.typeIn K (.ref D) = some (.type "type")) (hC : cd.mro.contains (.ref C) = true) :
    PySem.W.kitOne K (.ref C) (.ref D) = some (cd.mro.contains (.ref D)) := by
  have hm : ∀ v, PySem.W.mroIn K C v = some (cd.mro.contains v) := fun v => by
    unfold PySem.W.mroIn
    rw [h, Option.bind_some, he, if_neg Bool.false_ne_true]
  exact kit_of (by unfold PySem.W.isClsIn; rw [h2]; rfl) ty (hm _) ((hm _).trans (by rw [hC]))
theorem tail_ref (b : BK) (D : Addr) : b.tail.contains (.ref D) = false := by
  cases b <;> rfl
theorem se_isX {xs : List XC} {D : XC} (T : XCs K xs) (hD : D ∈ xs) {te : TE} {ue : UE} (he : SE K L te ue) : SE K L (tCB (rIsiU K) (tCons te (tCons (tC (.ref D.ad)) tNil))) (uIsX (xtOf xs) D.nm ue) := fun N σ H ρ μ Q R hr sr hu k =>
  he N σ H ρ μ _ _ hr sr hu fun v H1 x μ1 g1 hr1 hv hu1 => by
    obtain ⟨p, c, fs, bb, rfl, hp, hz, hu1⟩ := hu1
    have ev : v = .ref p := hv
    subst ev
    obtain ⟨_, C, d, I, h1, h2⟩ := hr1.mo p _ hp
    unfold isaX at hz
    obtain ⟨r, hr', e2⟩ := Option.map_eq_some_iff.mp hz
    obtain ⟨x, hx, en, rfl⟩ := T.find hr'
    subst en
    obtain ⟨B, V, hB⟩ := T.all x hx
    obtain ⟨B2, V2, _⟩ := T.all D hD
    have eC : C = x.ad := by
      have := I.ns.symm.trans V.ns
      cases this
      rfl
    subst eC
    obtain ⟨cd, k1, k2⟩ := V.mr
    obtain ⟨cd2, k3, _⟩ := V2.mr
    have hk := kit_mro k1 (by rw [k2]; rfl) k3 V2.ty (by rw [k2]; simp)
    have eb : cd.mro.contains (.ref D.ad) = bb := by
      rw [k2, ← e2, List.contains_cons]
      have e1 : (Value.ref D.ad == Value.ref x.ad) = decide (x.nm = D.nm) := by
        by_cases e : x.nm = D.nm
        · have : x = D := inj_of T.nn hx hD e
          rw [this]
          simp
        · rw [decide_eq_false e]
          have : D.ad ≠ x.ad := fun z => e (by rw [inj_of T.nd hD hx z])
          simpa using this
      rw [e1]
      congr 1
      rcases hB with ⟨hu, rfl⟩ | ⟨y, hy, hu, rfl⟩
      · rw [hu]
        exact (tail_ref _ _).trans (decide_eq_false (fun z => nomatch z)).symm
      · rw [hu]
        show (Value.ref y.ad :: x.bk.tail).contains (.ref D.ad) = _
        rw [List.contains_cons, tail_ref, Bool.or_false]
        by_cases e : y.nm = D.nm
        · have : y = D := inj_of T.nn hy hD e
          rw [this]
          simp
        · have : D.ad ≠ y.ad := fun z => e (by rw [inj_of T.nd hD hy z])
          rw [decide_eq_false (fun z => e (Option.some.inj z))]
          simpa using this
    rw [eb] at hk
    refine .inr ⟨p, x.ad, d, _, _, bb, rfl, .own D.ad, h1, ?_, I.ec, hk, k _ H1 _ μ1 g1 hr1 (vrD (.bl _)) hu1⟩
    rintro dx rfl
    rcases h2 with ⟨h2, _⟩ | ⟨dx', ws, h2, h3, _⟩
    · cases h2
    · cases h2
      exact ⟨ws, hdn_ex _ _ h3⟩
theorem se_isB {xs : List XC} {n : String} (T : XCs K xs) (hn : PySem.W.kitMeta n = true) {te : TE} {ue : UE} (he : SE K L te ue) : SE K L (tCB (rIsiU K) (tCons te (tCons (tC (.ty n)) tNil))) (uIsB (xtOf xs) n ue) := fun N σ H ρ μ Q R hr sr hu k =>
  he N σ H ρ μ _ _ hr sr hu fun v H1 x μ1 g1 hr1 hv hu1 => by
    obtain ⟨p, c, fs, bb, rfl, hp, hz, hu1⟩ := hu1
    have ev : v = .ref p := hv
    subst ev
    obtain ⟨_, C, d, I, h1, h2⟩ := hr1.mo p _ hp
    unfold isaN at hz
    obtain ⟨r, hr', e2⟩ := Option.map_eq_some_iff.mp hz
    obtain ⟨x, hx, en, rfl⟩ := T.find hr'
    subst en
    obtain ⟨B, V, hB⟩ := T.all x hx
    have eC : C = x.ad := by
      have := I.ns.symm.trans V.ns
      cases this
      rfl
    subst eC
    obtain ⟨cd, k1, k2⟩ := V.mr
    have hk : PySem.W.kitOne K (.ref x.ad) (.type n) = some bb := by
      refine kit_own hn ?_
      show PySem.W.mroIn K x.ad (.type n) = _
      unfold PySem.W.mroIn
      rw [k1, Option.bind_some, k2, if_neg (fun z => by cases z), ← e2]
      cases B <;> rfl
    refine .inr ⟨p, x.ad, d, _, _, bb, rfl, .ty n, h1, ?_, I.ec, hk, k _ H1 _ μ1 g1 hr1 (vrD (.bl _)) hu1⟩
    rintro dx rfl
    rcases h2 with ⟨h2, _⟩ | ⟨dx', ws, h2, h3, _⟩
    · cases h2
    · cases h2
      exact ⟨ws, hdn_ex _ _ h3⟩
end
end CN

set_option Elab.async false
set_option linter.all false
set_option maxRecDepth 100000
set_option maxHeartbeats 4000000
namespace CN
open PySem PySem.Spec PyProof.Rows L2 Evl
def opPow : PyData → PyData → Option PyData
  | .int i, .int j => if 0 ≤ i ∧ i ≤ 10 ∧ 0 ≤ j ∧ j ≤ 40 then some (.int (i ^ j.toNat)) else none
  | _, _ => none
theorem os_pow {K : PySem.W.Frag} : OpS K rPowI opPow := fun L N μ H v w a b res Q hr hv hw e k => by
  cases a with
  | int i =>
    cases b with
    | int j =>
      simp only [opPow] at e
      split at e
      · rename_i hc
        cases e
        rw [hv.int, hw.int]
        refine ⟨⟨by omega, by omega, ?_⟩, k _ H (Ex.refl H) (.int _)⟩
        have : i.natAbs ≤ 10 := by omega
        exact Nat.lt_of_le_of_lt this (by decide)
      · cases e
    | _ => cases e
  | _ => cases e
def lcP (chk : Mem → Prop) (is : List Nat) (t : UT) (e : UE) (vs : List Nat) (ρ : Rho) (R : List UV → Mem → Prop) : List (List UV) → List UV → Mem → Prop
  | [], acc => fun μ => chk μ ∧ R acc μ
  | us :: xs, acc => fun μ => chk μ ∧ ∃ ρ2, asgAllU is us (wipeU ρ vs) = some ρ2 ∧ t ρ2 μ fun b μ3 => if b = true then e ρ2 μ3 fun y μ4 => lcP chk is t e vs ρ R xs (acc ++ [y]) μ4 else lcP chk is t e vs ρ R xs acc μ3
def lcEnd (R : UK) : List UV → Mem → Prop := fun acc μ2 => match allD acc with
  | some ds => R (.dat (.list ds)) μ2
  | none => False
def uLcP (i : UIp) (is : List Nat) (t : UT) (e : UE) (vs : List Nat) : UE := fun ρ μ R => i ρ μ fun items chk μ1 => items.length ≤ 1000000 ∧ lcP chk is t e vs ρ (lcEnd R) items [] μ1
section
variable {K : PySem.W.Frag} {L : Link}
theorem se_lcP {wi : TI} {ui : UIp} {n : Nat} {g : TGs} {is : List Nat} {tt : TT} {ut : UT} {te : TE} {ue : UE} {vs : List Nat} (hi : SIp K L wi ui) (hn : is.length = n) (hg : TGsOk K g is) (hs : ∀ i ∈ is, i ∈ vs) (ht : ST K L0 tt ut) (he : SE K L0 te ue) :
    SE K L (tLc wi (gTup K n g) tt te vs) (uLcP ui is ut ue vs) := fun N σ H ρ μ Q R hr sr hu k => by
  refine hi N σ H ρ μ _ _ hr sr hu fun J H1 items chk μ1 g1 hr1 its hu1 => ?_
  intro D hD
  have hnD := (hr1.new hD).1
  obtain ⟨hl, hu1⟩ := hu1
  have start : InC K N D H1 μ1 (upd H1 D (.lst [])) μ1 [] [] := by
    obtain ⟨a, b⟩ := hr_in (o := .lst []) hr1 hD
    exact ⟨a, upd_same, .nil, b, fun x z => upd_ne fun e => hnD (e ▸ z)⟩
  refine ⟨fun i m H' => m = items.length - i ∧ ∃ μ' xs us, us.length ≤ i ∧ InC K N D H1 μ1 H' μ' xs us ∧ lcP chk is ut ue vs ρ (lcEnd R) (items.drop i) us μ', ⟨_, rfl, μ1, [], [], Nat.le_refl _, start, hu1⟩, ?_⟩
  rintro i m H2 ⟨rfl, μ2, xs, us, hus, inc, hu2⟩
  cases hd : items.drop i with
  | nil =>
    rw [hd] at hu2
    refine .inl ⟨its.stop i _ _ H2 μ2 inc.ex inc.hr hu2.1 (drop_nil hd), ?_⟩
    obtain ⟨g2, hr2, pr, hD2⟩ := inc.out hnD
    obtain ⟨_, hR⟩ := hu2
    unfold lcEnd at hR
    split at hR
    · rename_i ds e
      rw [allD_some e] at pr
      refine k _ H2 _ μ2 (g1.trans g2) (hr2.with (L.mo _ _ _ _ _ hr1.lk g2)) (vrD (.lst (hdn_at inc.at_ fun z => ?_) (paired_dat pr))) hR
      rcases z with z | z
      · exact hnD z
      · exact z hD2
    · exact hR.elim
  | cons x r =>
    rw [hd] at hu2
    obtain ⟨ex, hlt, er⟩ := drop_at hd
    refine .inr ⟨its.go i _ _ H2 μ2 inc.ex inc.hr hu2.1 hlt, fun H' => ∃ μ' xs us, us.length ≤ i + 1 ∧ InC K N D H1 μ1 H' μ' xs us ∧ lcP chk is ut ue vs ρ (lcEnd R) r us μ', ?_, fun v H3 hy => ?_⟩
    · rintro H' ⟨μ', xs', us', a, b, c⟩
      exact ⟨items.length - (i + 1), by omega, rfl, μ', xs', us', a, b, by rw [er]; exact c⟩
    · obtain ⟨ws, T, zs, eu, rfl, hT, hv, e3⟩ := its.yld i _ _ H2 μ2 v H3 inc.ex inc.hr hu2.1 hlt hy
      rw [ex] at eu
      cases eu
      have inc3 := inc.to (Gr.ofEx inc.hr e3) (inc.hr.ofEx e3)
      obtain ⟨_, ρ4, ea, hu4⟩ := hu2
      refine ⟨T, zs, rfl, .inl (.inl hT), by rw [hv.length, asgU_len ea, hn], gs_okU (ws := vs) hg (inc3.sr ((sr.to g1).wipe vs)) hv ea hs fun σ4 sr4 hw4 => ⟨by rw [hw4, wipe_wipe], ?_⟩⟩
      refine ht _ σ4 H3 ρ4 μ2 _ _ inc3.hr sr4 hu4 fun b H5 μ5 g5 hr5 hu5 => ?_
      have inc5 := inc3.to g5 hr5
      cases b with
      | false => exact ⟨μ5, xs, us, by omega, inc5, hu5⟩
      | true =>
        refine iteT (he _ σ4 H5 ρ4 μ5 _ _ hr5 (sr4.to g5) hu5 fun w H6 y μ6 g6 hr6 hw hu6 => ?_)
        have inc6 := inc5.to g6 hr6
        exact ⟨xs, inc6.at_, by rw [inc6.pr.length, sizeLine_eq]; omega, μ6, xs ++ [w], us ++ [y], by rw [List.length_append]; show us.length + 1 ≤ _; omega, inc6.more hnD hw, hu6⟩
def uDOneV (c : Str) (u : UE) : UE := fun ρ μ R => ∀ p, μ p = none → uVals [u] ρ (put μ p (.dct [])) fun xs μ2 => ∃ x, xs = [x] ∧ μ2 p = some (.dct []) ∧ R (.ref p) (put μ2 p (.dct [(.inr c, x)]))
theorem se_doneV {c : Str} {t : TE} {u : UE} (h : SE K L t u) : SE K L (tDisp [((tC (.str c)), t)]) (uDOneV c u) := fun N σ H ρ μ Q R hr sr hu k p np => by
  obtain ⟨g1, hr1⟩ := hr_newD hr np
  have mp := (hr.new np).2
  refine sds_ok (ks := [c]) (.cons h .nil) hr1 (sr.to g1) (hu p mp) fun vs H2 xs μ2 g2 hr2 hvs hvl hu2 => ?_
  obtain ⟨x, rfl, hp2, hu2⟩ := hu2
  cases hvs with
  | @cons v _ _ _ a b =>
    cases b
    obtain ⟨nN, ws, hw1, hw2⟩ := hr2.mo p _ hp2
    cases hw2
    refine ⟨hw1, [(Sum.inr c, v)], rfl, by show 1 ≤ 15; decide, ?_⟩
    obtain ⟨g3, hr3⟩ := hr_setD (ws := [((Sum.inr c : Key), v)]) (us' := [(Sum.inr c, x)]) hr2 hp2 (.cons ⟨rfl, a⟩ .nil)
    exact k _ _ (.ref p) _ ((g1.trans g2).trans g3) hr3 rfl hu2
end
end CN

set_option Elab.async false
set_option linter.all false
set_option maxRecDepth 100000
set_option maxHeartbeats 8000000
namespace K03
open PySem PySem.Spec PyProof.Rows L2 CN Evl
def top (i : Nat) : Stmt := PySem.Challenge.pw_caughtnames_k03_errors_and_their_fields.main.body.getD i (.Pass ⟨0, 0, 0, 0⟩)
abbrev s_InvalidName___init__ : Stmt := (inClass (top 4) 0)
abbrev N_InvalidName___init__ : List Str := ["self", "value"]
theorem sc_InvalidName___init__ : FnScope N_InvalidName___init__ ["self", "value"] (defScope s_InvalidName___init__) := ⟨rfl, rfl, rfl, by decide +kernel, rfl, by decide +kernel, by decide +kernel⟩
abbrev s_InvalidTerm___init__ : Stmt := (inClass (top 5) 0)
abbrev N_InvalidTerm___init__ : List Str := ["self", "value"]
theorem sc_InvalidTerm___init__ : FnScope N_InvalidTerm___init__ ["self", "value"] (defScope s_InvalidTerm___init__) := ⟨rfl, rfl, rfl, by decide +kernel, rfl, by decide +kernel, by decide +kernel⟩
abbrev s_InvalidBody___init__ : Stmt := (inClass (top 6) 0)
abbrev N_InvalidBody___init__ : List Str := ["self", "value"]
theorem sc_InvalidBody___init__ : FnScope N_InvalidBody___init__ ["self", "value"] (defScope s_InvalidBody___init__) := ⟨rfl, rfl, rfl, by decide +kernel, rfl, by decide +kernel, by decide +kernel⟩
abbrev s_InvalidProgram___init__ : Stmt := (inClass (top 7) 0)
abbrev N_InvalidProgram___init__ : List Str := ["self", "value"]
theorem sc_InvalidProgram___init__ : FnScope N_InvalidProgram___init__ ["self", "value"] (defScope s_InvalidProgram___init__) := ⟨rfl, rfl, rfl, by decide +kernel, rfl, by decide +kernel, by decide +kernel⟩
abbrev s_InvalidParameters___init__ : Stmt := (inClass (top 8) 0)
abbrev N_InvalidParameters___init__ : List Str := ["self", "value"]
theorem sc_InvalidParameters___init__ : FnScope N_InvalidParameters___init__ ["self", "value"] (defScope s_InvalidParameters___init__) := ⟨rfl, rfl, rfl, by decide +kernel, rfl, by decide +kernel, by decide +kernel⟩
abbrev s_InvalidTemplate___init__ : Stmt := (inClass (top 9) 0)
abbrev N_InvalidTemplate___init__ : List Str := ["self", "value"]
theorem sc_InvalidTemplate___init__ : FnScope N_InvalidTemplate___init__ ["self", "value"] (defScope s_InvalidTemplate___init__) := ⟨rfl, rfl, rfl, by decide +kernel, rfl, by decide +kernel, by decide +kernel⟩
abbrev s_InvalidCall___init__ : Stmt := (inClass (top 10) 0)
abbrev N_InvalidCall___init__ : List Str := ["self", "value"]
theorem sc_InvalidCall___init__ : FnScope N_InvalidCall___init__ ["self", "value"] (defScope s_InvalidCall___init__) := ⟨rfl, rfl, rfl, by decide +kernel, rfl, by decide +kernel, by decide +kernel⟩
abbrev s_InvalidBook___init__ : Stmt := (inClass (top 11) 0)
abbrev N_InvalidBook___init__ : List Str := ["self", "value"]
theorem sc_InvalidBook___init__ : FnScope N_InvalidBook___init__ ["self", "value"] (defScope s_InvalidBook___init__) := ⟨rfl, rfl, rfl, by decide +kernel, rfl, by decide +kernel, by decide +kernel⟩
abbrev s_InvalidChoice___init__ : Stmt := (inClass (top 12) 0)
abbrev N_InvalidChoice___init__ : List Str := ["self", "value"]
theorem sc_InvalidChoice___init__ : FnScope N_InvalidChoice___init__ ["self", "value"] (defScope s_InvalidChoice___init__) := ⟨rfl, rfl, rfl, by decide +kernel, rfl, by decide +kernel, by decide +kernel⟩
abbrev s_InvalidFillings___init__ : Stmt := (inClass (top 13) 0)
abbrev N_InvalidFillings___init__ : List Str := ["self", "value"]
theorem sc_InvalidFillings___init__ : FnScope N_InvalidFillings___init__ ["self", "value"] (defScope s_InvalidFillings___init__) := ⟨rfl, rfl, rfl, by decide +kernel, rfl, by decide +kernel, by decide +kernel⟩
abbrev s_InvalidSite___init__ : Stmt := (inClass (top 14) 0)
abbrev N_InvalidSite___init__ : List Str := ["self", "value"]
theorem sc_InvalidSite___init__ : FnScope N_InvalidSite___init__ ["self", "value"] (defScope s_InvalidSite___init__) := ⟨rfl, rfl, rfl, by decide +kernel, rfl, by decide +kernel, by decide +kernel⟩
abbrev s_InvalidTables___init__ : Stmt := (inClass (top 15) 0)
abbrev N_InvalidTables___init__ : List Str := ["self", "value"]
theorem sc_InvalidTables___init__ : FnScope N_InvalidTables___init__ ["self", "value"] (defScope s_InvalidTables___init__) := ⟨rfl, rfl, rfl, by decide +kernel, rfl, by decide +kernel, by decide +kernel⟩
abbrev s_InvalidMeaning___init__ : Stmt := (inClass (top 16) 0)
abbrev N_InvalidMeaning___init__ : List Str := ["self", "value"]
theorem sc_InvalidMeaning___init__ : FnScope N_InvalidMeaning___init__ ["self", "value"] (defScope s_InvalidMeaning___init__) := ⟨rfl, rfl, rfl, by decide +kernel, rfl, by decide +kernel, by decide +kernel⟩
abbrev s_InvalidText___init__ : Stmt := (inClass (top 17) 0)
abbrev N_InvalidText___init__ : List Str := ["self", "value"]
theorem sc_InvalidText___init__ : FnScope N_InvalidText___init__ ["self", "value"] (defScope s_InvalidText___init__) := ⟨rfl, rfl, rfl, by decide +kernel, rfl, by decide +kernel, by decide +kernel⟩
abbrev s_InvalidLine___init__ : Stmt := (inClass (top 18) 0)
abbrev N_InvalidLine___init__ : List Str := ["self", "value"]
theorem sc_InvalidLine___init__ : FnScope N_InvalidLine___init__ ["self", "value"] (defScope s_InvalidLine___init__) := ⟨rfl, rfl, rfl, by decide +kernel, rfl, by decide +kernel, by decide +kernel⟩
abbrev s_InvalidLines___init__ : Stmt := (inClass (top 19) 0)
abbrev N_InvalidLines___init__ : List Str := ["self", "value"]
theorem sc_InvalidLines___init__ : FnScope N_InvalidLines___init__ ["self", "value"] (defScope s_InvalidLines___init__) := ⟨rfl, rfl, rfl, by decide +kernel, rfl, by decide +kernel, by decide +kernel⟩
abbrev s_InvalidMode___init__ : Stmt := (inClass (top 20) 0)
abbrev N_InvalidMode___init__ : List Str := ["self", "value"]
theorem sc_InvalidMode___init__ : FnScope N_InvalidMode___init__ ["self", "value"] (defScope s_InvalidMode___init__) := ⟨rfl, rfl, rfl, by decide +kernel, rfl, by decide +kernel, by decide +kernel⟩
abbrev s_InvalidLetter___init__ : Stmt := (inClass (top 21) 0)
abbrev N_InvalidLetter___init__ : List Str := ["self", "value"]
theorem sc_InvalidLetter___init__ : FnScope N_InvalidLetter___init__ ["self", "value"] (defScope s_InvalidLetter___init__) := ⟨rfl, rfl, rfl, by decide +kernel, rfl, by decide +kernel, by decide +kernel⟩
abbrev s_UnlikeParameters___init__ : Stmt := (inClass (top 22) 0)
abbrev N_UnlikeParameters___init__ : List Str := ["self", "value"]
theorem sc_UnlikeParameters___init__ : FnScope N_UnlikeParameters___init__ ["self", "value"] (defScope s_UnlikeParameters___init__) := ⟨rfl, rfl, rfl, by decide +kernel, rfl, by decide +kernel, by decide +kernel⟩
abbrev s_Duplicate___init__ : Stmt := (inClass (top 23) 0)
abbrev N_Duplicate___init__ : List Str := ["self", "name"]
theorem sc_Duplicate___init__ : FnScope N_Duplicate___init__ ["self", "name"] (defScope s_Duplicate___init__) := ⟨rfl, rfl, rfl, by decide +kernel, rfl, by decide +kernel, by decide +kernel⟩
abbrev s_Reserved___init__ : Stmt := (inClass (top 24) 0)
abbrev N_Reserved___init__ : List Str := ["self", "name"]
theorem sc_Reserved___init__ : FnScope N_Reserved___init__ ["self", "name"] (defScope s_Reserved___init__) := ⟨rfl, rfl, rfl, by decide +kernel, rfl, by decide +kernel, by decide +kernel⟩
abbrev s_TooLarge___init__ : Stmt := (inClass (top 25) 0)
abbrev N_TooLarge___init__ : List Str := ["self", "count"]
theorem sc_TooLarge___init__ : FnScope N_TooLarge___init__ ["self", "count"] (defScope s_TooLarge___init__) := ⟨rfl, rfl, rfl, by decide +kernel, rfl, by decide +kernel, by decide +kernel⟩
abbrev s_InvalidRow___init__ : Stmt := (inClass (top 26) 0)
abbrev N_InvalidRow___init__ : List Str := ["self", "index"]
theorem sc_InvalidRow___init__ : FnScope N_InvalidRow___init__ ["self", "index"] (defScope s_InvalidRow___init__) := ⟨rfl, rfl, rfl, by decide +kernel, rfl, by decide +kernel, by decide +kernel⟩
abbrev s_UnknownTemplate___init__ : Stmt := (inClass (top 27) 0)
abbrev N_UnknownTemplate___init__ : List Str := ["self", "name"]
theorem sc_UnknownTemplate___init__ : FnScope N_UnknownTemplate___init__ ["self", "name"] (defScope s_UnknownTemplate___init__) := ⟨rfl, rfl, rfl, by decide +kernel, rfl, by decide +kernel, by decide +kernel⟩
abbrev s_UnknownHole___init__ : Stmt := (inClass (top 28) 0)
abbrev N_UnknownHole___init__ : List Str := ["self", "name"]
theorem sc_UnknownHole___init__ : FnScope N_UnknownHole___init__ ["self", "name"] (defScope s_UnknownHole___init__) := ⟨rfl, rfl, rfl, by decide +kernel, rfl, by decide +kernel, by decide +kernel⟩
abbrev s_UnknownBinder___init__ : Stmt := (inClass (top 29) 0)
abbrev N_UnknownBinder___init__ : List Str := ["self", "number"]
theorem sc_UnknownBinder___init__ : FnScope N_UnknownBinder___init__ ["self", "number"] (defScope s_UnknownBinder___init__) := ⟨rfl, rfl, rfl, by decide +kernel, rfl, by decide +kernel, by decide +kernel⟩
abbrev s_StillCalled___init__ : Stmt := (inClass (top 30) 0)
abbrev N_StillCalled___init__ : List Str := ["self", "name"]
theorem sc_StillCalled___init__ : FnScope N_StillCalled___init__ ["self", "name"] (defScope s_StillCalled___init__) := ⟨rfl, rfl, rfl, by decide +kernel, rfl, by decide +kernel, by decide +kernel⟩
abbrev s_NothingToUndo___init__ : Stmt := (inClass (top 31) 0)
abbrev N_NothingToUndo___init__ : List Str := ["self"]
theorem sc_NothingToUndo___init__ : FnScope N_NothingToUndo___init__ ["self"] (defScope s_NothingToUndo___init__) := ⟨rfl, rfl, rfl, by decide +kernel, rfl, by decide +kernel, by decide +kernel⟩
abbrev s_NothingToRedo___init__ : Stmt := (inClass (top 32) 0)
abbrev N_NothingToRedo___init__ : List Str := ["self"]
theorem sc_NothingToRedo___init__ : FnScope N_NothingToRedo___init__ ["self"] (defScope s_NothingToRedo___init__) := ⟨rfl, rfl, rfl, by decide +kernel, rfl, by decide +kernel, by decide +kernel⟩
abbrev s__law_cell : Stmt := (top 34)
abbrev N__law_cell : List Str := ["_law_script", "_law_k"]
theorem sc__law_cell : FnScope N__law_cell ["_law_script", "_law_k"] (defScope s__law_cell) := ⟨rfl, rfl, rfl, by decide +kernel, rfl, by decide +kernel, by decide +kernel⟩
abbrev s__law_box : Stmt := (top 35)
abbrev N__law_box : List Str := ["_law_cell_here"]
theorem sc__law_box : FnScope N__law_box ["_law_cell_here"] (defScope s__law_box) := ⟨rfl, rfl, rfl, by decide +kernel, rfl, by decide +kernel, by decide +kernel⟩
abbrev s__law_take : Stmt := (top 36)
abbrev N__law_take : List Str := ["_law_box_here", "_law_many", "_law_digit", "_law_number"]
theorem sc__law_take : FnScope N__law_take ["_law_box_here", "_law_many"] (defScope s__law_take) := ⟨rfl, rfl, rfl, by decide +kernel, rfl, by decide +kernel, by decide +kernel⟩
abbrev s__law_value : Stmt := (top 37)
abbrev N__law_value : List Str := ["_law_box_here", "_law_some"]
theorem sc__law_value : FnScope N__law_value ["_law_box_here"] (defScope s__law_value) := ⟨rfl, rfl, rfl, by decide +kernel, rfl, by decide +kernel, by decide +kernel⟩
abbrev s__law_made : Stmt := (top 38)
abbrev N__law_made : List Str := ["_law_value_here", "_law_found"]
theorem sc__law_made : FnScope N__law_made ["_law_value_here"] (defScope s__law_made) := ⟨rfl, rfl, rfl, by decide +kernel, rfl, by decide +kernel, by decide +kernel⟩
abbrev s__law_field : Stmt := (top 39)
abbrev N__law_field : List Str := ["_law_error", "_law_k"]
theorem sc__law_field : FnScope N__law_field ["_law_error", "_law_k"] (defScope s__law_field) := ⟨rfl, rfl, rfl, by decide +kernel, rfl, by decide +kernel, by decide +kernel⟩
abbrev s__law_kinds : Stmt := (top 40)
abbrev N__law_kinds : List Str := ["_law_error", "_law_found", "_law_k"]
theorem sc__law_kinds : FnScope N__law_kinds ["_law_error"] (defScope s__law_kinds) := ⟨rfl, rfl, rfl, by decide +kernel, rfl, by decide +kernel, by decide +kernel⟩
abbrev s__law_bases : Stmt := (top 41)
abbrev N__law_bases : List Str := ["_law_error", "_law_found"]
theorem sc__law_bases : FnScope N__law_bases ["_law_error"] (defScope s__law_bases) := ⟨rfl, rfl, rfl, by decide +kernel, rfl, by decide +kernel, by decide +kernel⟩
abbrev s__law_due : Stmt := (top 42)
abbrev N__law_due : List Str := ["_law_k"]
theorem sc__law_due : FnScope N__law_due ["_law_k"] (defScope s__law_due) := ⟨rfl, rfl, rfl, by decide +kernel, rfl, by decide +kernel, by decide +kernel⟩
abbrev s_law : Stmt := (top 43)
abbrev N_law : List Str := ["_law_script", "_law_k", "_law_box_here", "_law_value_here", "_law_at", "_law_error", "_law_errors"]
theorem sc_law : FnScope N_law ["_law_script"] (defScope s_law) := ⟨rfl, rfl, rfl, by decide +kernel, rfl, by decide +kernel, by decide +kernel⟩
structure Ad where
  mk ::
  (f_InvalidName___init__ : Addr) (d_InvalidName___init__ : FuncData)
  (f_InvalidTerm___init__ : Addr) (d_InvalidTerm___init__ : FuncData)
  (f_InvalidBody___init__ : Addr) (d_InvalidBody___init__ : FuncData)
  (f_InvalidProgram___init__ : Addr) (d_InvalidProgram___init__ : FuncData)
  (f_InvalidParameters___init__ : Addr) (d_InvalidParameters___init__ : FuncData)
  (f_InvalidTemplate___init__ : Addr) (d_InvalidTemplate___init__ : FuncData)
  (f_InvalidCall___init__ : Addr) (d_InvalidCall___init__ : FuncData)
  (f_InvalidBook___init__ : Addr) (d_InvalidBook___init__ : FuncData)
  (f_InvalidChoice___init__ : Addr) (d_InvalidChoice___init__ : FuncData)
  (f_InvalidFillings___init__ : Addr) (d_InvalidFillings___init__ : FuncData)
  (f_InvalidSite___init__ : Addr) (d_InvalidSite___init__ : FuncData)
  (f_InvalidTables___init__ : Addr) (d_InvalidTables___init__ : FuncData)
  (f_InvalidMeaning___init__ : Addr) (d_InvalidMeaning___init__ : FuncData)
  (f_InvalidText___init__ : Addr) (d_InvalidText___init__ : FuncData)
  (f_InvalidLine___init__ : Addr) (d_InvalidLine___init__ : FuncData)
  (f_InvalidLines___init__ : Addr) (d_InvalidLines___init__ : FuncData)
  (f_InvalidMode___init__ : Addr) (d_InvalidMode___init__ : FuncData)
  (f_InvalidLetter___init__ : Addr) (d_InvalidLetter___init__ : FuncData)
  (f_UnlikeParameters___init__ : Addr) (d_UnlikeParameters___init__ : FuncData)
  (f_Duplicate___init__ : Addr) (d_Duplicate___init__ : FuncData)
  (f_Reserved___init__ : Addr) (d_Reserved___init__ : FuncData)
  (f_TooLarge___init__ : Addr) (d_TooLarge___init__ : FuncData)
  (f_InvalidRow___init__ : Addr) (d_InvalidRow___init__ : FuncData)
  (f_UnknownTemplate___init__ : Addr) (d_UnknownTemplate___init__ : FuncData)
  (f_UnknownHole___init__ : Addr) (d_UnknownHole___init__ : FuncData)
  (f_UnknownBinder___init__ : Addr) (d_UnknownBinder___init__ : FuncData)
  (f_StillCalled___init__ : Addr) (d_StillCalled___init__ : FuncData)
  (f_NothingToUndo___init__ : Addr) (d_NothingToUndo___init__ : FuncData)
  (f_NothingToRedo___init__ : Addr) (d_NothingToRedo___init__ : FuncData)
  (f__law_cell : Addr) (d__law_cell : FuncData)
  (f__law_box : Addr) (d__law_box : FuncData)
  (f__law_take : Addr) (d__law_take : FuncData)
  (f__law_value : Addr) (d__law_value : FuncData)
  (f__law_made : Addr) (d__law_made : FuncData)
  (f__law_field : Addr) (d__law_field : FuncData)
  (f__law_kinds : Addr) (d__law_kinds : FuncData)
  (f__law_bases : Addr) (d__law_bases : FuncData)
  (f__law_due : Addr) (d__law_due : FuncData)
  (f_law : Addr) (d_law : FuncData)
  (c_CaughtError : Addr)
  (c_AbsentError : Addr)
  (c_StateError : Addr)
  (c_InvalidName : Addr)
  (c_InvalidTerm : Addr)
  (c_InvalidBody : Addr)
  (c_InvalidProgram : Addr)
  (c_InvalidParameters : Addr)
  (c_InvalidTemplate : Addr)
  (c_InvalidCall : Addr)
  (c_InvalidBook : Addr)
  (c_InvalidChoice : Addr)
  (c_InvalidFillings : Addr)
  (c_InvalidSite : Addr)
  (c_InvalidTables : Addr)
  (c_InvalidMeaning : Addr)
  (c_InvalidText : Addr)
  (c_InvalidLine : Addr)
  (c_InvalidLines : Addr)
  (c_InvalidMode : Addr)
  (c_InvalidLetter : Addr)
  (c_UnlikeParameters : Addr)
  (c_Duplicate : Addr)
  (c_Reserved : Addr)
  (c_TooLarge : Addr)
  (c_InvalidRow : Addr)
  (c_UnknownTemplate : Addr)
  (c_UnknownHole : Addr)
  (c_UnknownBinder : Addr)
  (c_StillCalled : Addr)
  (c_NothingToUndo : Addr)
  (c_NothingToRedo : Addr)
def xl (a : Ad) : List XC := [⟨"CaughtError", a.c_CaughtError, none, .ve⟩, ⟨"AbsentError", a.c_AbsentError, none, .ke⟩, ⟨"StateError", a.c_StateError, none, .le⟩, ⟨"InvalidName", a.c_InvalidName, some "CaughtError", .ve⟩, ⟨"InvalidTerm", a.c_InvalidTerm, some "CaughtError", .ve⟩, ⟨"InvalidBody", a.c_InvalidBody, some "CaughtError", .ve⟩, ⟨"InvalidProgram", a.c_InvalidProgram, some "CaughtError", .ve⟩, ⟨"InvalidParameters", a.c_InvalidParameters, some "CaughtError", .ve⟩, ⟨"InvalidTemplate", a.c_InvalidTemplate, some "CaughtError", .ve⟩, ⟨"InvalidCall", a.c_InvalidCall, some "CaughtError", .ve⟩, ⟨"InvalidBook", a.c_InvalidBook, some "CaughtError", .ve⟩, ⟨"InvalidChoice", a.c_InvalidChoice, some "CaughtError", .ve⟩, ⟨"InvalidFillings", a.c_InvalidFillings, some "CaughtError", .ve⟩, ⟨"InvalidSite", a.c_InvalidSite, some "CaughtError", .ve⟩, ⟨"InvalidTables", a.c_InvalidTables, some "CaughtError", .ve⟩, ⟨"InvalidMeaning", a.c_InvalidMeaning, some "CaughtError", .ve⟩, ⟨"InvalidText", a.c_InvalidText, some "CaughtError", .ve⟩, ⟨"InvalidLine", a.c_InvalidLine, some "CaughtError", .ve⟩, ⟨"InvalidLines", a.c_InvalidLines, some "CaughtError", .ve⟩, ⟨"InvalidMode", a.c_InvalidMode, some "CaughtError", .ve⟩, ⟨"InvalidLetter", a.c_InvalidLetter, some "CaughtError", .ve⟩, ⟨"UnlikeParameters", a.c_UnlikeParameters, some "CaughtError", .ve⟩, ⟨"Duplicate", a.c_Duplicate, some "CaughtError", .ve⟩, ⟨"Reserved", a.c_Reserved, some "CaughtError", .ve⟩, ⟨"TooLarge", a.c_TooLarge, some "CaughtError", .ve⟩, ⟨"InvalidRow", a.c_InvalidRow, some "CaughtError", .ve⟩, ⟨"UnknownTemplate", a.c_UnknownTemplate, some "AbsentError", .ke⟩, ⟨"UnknownHole", a.c_UnknownHole, some "AbsentError", .ke⟩, ⟨"UnknownBinder", a.c_UnknownBinder, some "AbsentError", .ke⟩, ⟨"StillCalled", a.c_StillCalled, some "StateError", .le⟩, ⟨"NothingToUndo", a.c_NothingToUndo, some "StateError", .le⟩, ⟨"NothingToRedo", a.c_NothingToRedo, some "StateError", .le⟩]
def xt : XT := [("CaughtError", none, .ve), ("AbsentError", none, .ke), ("StateError", none, .le), ("InvalidName", some "CaughtError", .ve), ("InvalidTerm", some "CaughtError", .ve), ("InvalidBody", some "CaughtError", .ve), ("InvalidProgram", some "CaughtError", .ve), ("InvalidParameters", some "CaughtError", .ve), ("InvalidTemplate", some "CaughtError", .ve), ("InvalidCall", some "CaughtError", .ve), ("InvalidBook", some "CaughtError", .ve), ("InvalidChoice", some "CaughtError", .ve), ("InvalidFillings", some "CaughtError", .ve), ("InvalidSite", some "CaughtError", .ve), ("InvalidTables", some "CaughtError", .ve), ("InvalidMeaning", some "CaughtError", .ve), ("InvalidText", some "CaughtError", .ve), ("InvalidLine", some "CaughtError", .ve), ("InvalidLines", some "CaughtError", .ve), ("InvalidMode", some "CaughtError", .ve), ("InvalidLetter", some "CaughtError", .ve), ("UnlikeParameters", some "CaughtError", .ve), ("Duplicate", some "CaughtError", .ve), ("Reserved", some "CaughtError", .ve), ("TooLarge", some "CaughtError", .ve), ("InvalidRow", some "CaughtError", .ve), ("UnknownTemplate", some "AbsentError", .ke), ("UnknownHole", some "AbsentError", .ke), ("UnknownBinder", some "AbsentError", .ke), ("StillCalled", some "StateError", .le), ("NothingToUndo", some "StateError", .le), ("NothingToRedo", some "StateError", .le)]
structure Txt (K : PySem.W.Frag) (mg : Str → Option Value) (a : Ad) : Prop where
  F_InvalidName___init__ : Fun K "__init__" "InvalidName.__init__" s_InvalidName___init__ a.f_InvalidName___init__ a.d_InvalidName___init__
  bi_InvalidName___init__ : Binds K a.d_InvalidName___init__ ["self", "value"] []
  i_InvalidName___init__ : PySem.W.findIn K (.ref a.c_InvalidName) "__init__" = some (some (.ref a.f_InvalidName___init__))
  ty_InvalidName___init__ : PySem.W.typeIn K (.ref a.f_InvalidName___init__) = some (.type "function")
  F_InvalidTerm___init__ : Fun K "__init__" "InvalidTerm.__init__" s_InvalidTerm___init__ a.f_InvalidTerm___init__ a.d_InvalidTerm___init__
  bi_InvalidTerm___init__ : Binds K a.d_InvalidTerm___init__ ["self", "value"] []
  i_InvalidTerm___init__ : PySem.W.findIn K (.ref a.c_InvalidTerm) "__init__" = some (some (.ref a.f_InvalidTerm___init__))
  ty_InvalidTerm___init__ : PySem.W.typeIn K (.ref a.f_InvalidTerm___init__) = some (.type "function")
  F_InvalidBody___init__ : Fun K "__init__" "InvalidBody.__init__" s_InvalidBody___init__ a.f_InvalidBody___init__ a.d_InvalidBody___init__
  bi_InvalidBody___init__ : Binds K a.d_InvalidBody___init__ ["self", "value"] []
  i_InvalidBody___init__ : PySem.W.findIn K (.ref a.c_InvalidBody) "__init__" = some (some (.ref a.f_InvalidBody___init__))
  ty_InvalidBody___init__ : PySem.W.typeIn K (.ref a.f_InvalidBody___init__) = some (.type "function")
  F_InvalidProgram___init__ : Fun K "__init__" "InvalidProgram.__init__" s_InvalidProgram___init__ a.f_InvalidProgram___init__ a.d_InvalidProgram___init__
  bi_InvalidProgram___init__ : Binds K a.d_InvalidProgram___init__ ["self", "value"] []
  i_InvalidProgram___init__ : PySem.W.findIn K (.ref a.c_InvalidProgram) "__init__" = some (some (.ref a.f_InvalidProgram___init__))
  ty_InvalidProgram___init__ : PySem.W.typeIn K (.ref a.f_InvalidProgram___init__) = some (.type "function")
  F_InvalidParameters___init__ : Fun K "__init__" "InvalidParameters.__init__" s_InvalidParameters___init__ a.f_InvalidParameters___init__ a.d_InvalidParameters___init__
  bi_InvalidParameters___init__ : Binds K a.d_InvalidParameters___init__ ["self", "value"] []
  i_InvalidParameters___init__ : PySem.W.findIn K (.ref a.c_InvalidParameters) "__init__" = some (some (.ref a.f_InvalidParameters___init__))
  ty_InvalidParameters___init__ : PySem.W.typeIn K (.ref a.f_InvalidParameters___init__) = some (.type "function")
  F_InvalidTemplate___init__ : Fun K "__init__" "InvalidTemplate.__init__" s_InvalidTemplate___init__ a.f_InvalidTemplate___init__ a.d_InvalidTemplate___init__
  bi_InvalidTemplate___init__ : Binds K a.d_InvalidTemplate___init__ ["self", "value"] []
  i_InvalidTemplate___init__ : PySem.W.findIn K (.ref a.c_InvalidTemplate) "__init__" = some (some (.ref a.f_InvalidTemplate___init__))
  ty_InvalidTemplate___init__ : PySem.W.typeIn K (.ref a.f_InvalidTemplate___init__) = some (.type "function")
  F_InvalidCall___init__ : Fun K "__init__" "InvalidCall.__init__" s_InvalidCall___init__ a.f_InvalidCall___init__ a.d_InvalidCall___init__
  bi_InvalidCall___init__ : Binds K a.d_InvalidCall___init__ ["self", "value"] []
  i_InvalidCall___init__ : PySem.W.findIn K (.ref a.c_InvalidCall) "__init__" = some (some (.ref a.f_InvalidCall___init__))
  ty_InvalidCall___init__ : PySem.W.typeIn K (.ref a.f_InvalidCall___init__) = some (.type "function")
  F_InvalidBook___init__ : Fun K "__init__" "InvalidBook.__init__" s_InvalidBook___init__ a.f_InvalidBook___init__ a.d_InvalidBook___init__
  bi_InvalidBook___init__ : Binds K a.d_InvalidBook___init__ ["self", "value"] []
  i_InvalidBook___init__ : PySem.W.findIn K (.ref a.c_InvalidBook) "__init__" = some (some (.ref a.f_InvalidBook___init__))
  ty_InvalidBook___init__ : PySem.W.typeIn K (.ref a.f_InvalidBook___init__) = some (.type "function")
  F_InvalidChoice___init__ : Fun K "__init__" "InvalidChoice.__init__" s_InvalidChoice___init__ a.f_InvalidChoice___init__ a.d_InvalidChoice___init__
  bi_InvalidChoice___init__ : Binds K a.d_InvalidChoice___init__ ["self", "value"] []
  i_InvalidChoice___init__ : PySem.W.findIn K (.ref a.c_InvalidChoice) "__init__" = some (some (.ref a.f_InvalidChoice___init__))
  ty_InvalidChoice___init__ : PySem.W.typeIn K (.ref a.f_InvalidChoice___init__) = some (.type "function")
  F_InvalidFillings___init__ : Fun K "__init__" "InvalidFillings.__init__" s_InvalidFillings___init__ a.f_InvalidFillings___init__ a.d_InvalidFillings___init__
  bi_InvalidFillings___init__ : Binds K a.d_InvalidFillings___init__ ["self", "value"] []
  i_InvalidFillings___init__ : PySem.W.findIn K (.ref a.c_InvalidFillings) "__init__" = some (some (.ref a.f_InvalidFillings___init__))
  ty_InvalidFillings___init__ : PySem.W.typeIn K (.ref a.f_InvalidFillings___init__) = some (.type "function")
  F_InvalidSite___init__ : Fun K "__init__" "InvalidSite.__init__" s_InvalidSite___init__ a.f_InvalidSite___init__ a.d_InvalidSite___init__
  bi_InvalidSite___init__ : Binds K a.d_InvalidSite___init__ ["self", "value"] []
  i_InvalidSite___init__ : PySem.W.findIn K (.ref a.c_InvalidSite) "__init__" = some (some (.ref a.f_InvalidSite___init__))
  ty_InvalidSite___init__ : PySem.W.typeIn K (.ref a.f_InvalidSite___init__) = some (.type "function")
  F_InvalidTables___init__ : Fun K "__init__" "InvalidTables.__init__" s_InvalidTables___init__ a.f_InvalidTables___init__ a.d_InvalidTables___init__
  bi_InvalidTables___init__ : Binds K a.d_InvalidTables___init__ ["self", "value"] []
  i_InvalidTables___init__ : PySem.W.findIn K (.ref a.c_InvalidTables) "__init__" = some (some (.ref a.f_InvalidTables___init__))
  ty_InvalidTables___init__ : PySem.W.typeIn K (.ref a.f_InvalidTables___init__) = some (.type "function")
  F_InvalidMeaning___init__ : Fun K "__init__" "InvalidMeaning.__init__" s_InvalidMeaning___init__ a.f_InvalidMeaning___init__ a.d_InvalidMeaning___init__
  bi_InvalidMeaning___init__ : Binds K a.d_InvalidMeaning___init__ ["self", "value"] []
  i_InvalidMeaning___init__ : PySem.W.findIn K (.ref a.c_InvalidMeaning) "__init__" = some (some (.ref a.f_InvalidMeaning___init__))
  ty_InvalidMeaning___init__ : PySem.W.typeIn K (.ref a.f_InvalidMeaning___init__) = some (.type "function")
  F_InvalidText___init__ : Fun K "__init__" "InvalidText.__init__" s_InvalidText___init__ a.f_InvalidText___init__ a.d_InvalidText___init__
  bi_InvalidText___init__ : Binds K a.d_InvalidText___init__ ["self", "value"] []
  i_InvalidText___init__ : PySem.W.findIn K (.ref a.c_InvalidText) "__init__" = some (some (.ref a.f_InvalidText___init__))
  ty_InvalidText___init__ : PySem.W.typeIn K (.ref a.f_InvalidText___init__) = some (.type "function")
  F_InvalidLine___init__ : Fun K "__init__" "InvalidLine.__init__" s_InvalidLine___init__ a.f_InvalidLine___init__ a.d_InvalidLine___init__
  bi_InvalidLine___init__ : Binds K a.d_InvalidLine___init__ ["self", "value"] []
  i_InvalidLine___init__ : PySem.W.findIn K (.ref a.c_InvalidLine) "__init__" = some (some (.ref a.f_InvalidLine___init__))
  ty_InvalidLine___init__ : PySem.W.typeIn K (.ref a.f_InvalidLine___init__) = some (.type "function")
  F_InvalidLines___init__ : Fun K "__init__" "InvalidLines.__init__" s_InvalidLines___init__ a.f_InvalidLines___init__ a.d_InvalidLines___init__
  bi_InvalidLines___init__ : Binds K a.d_InvalidLines___init__ ["self", "value"] []
  i_InvalidLines___init__ : PySem.W.findIn K (.ref a.c_InvalidLines) "__init__" = some (some (.ref a.f_InvalidLines___init__))
  ty_InvalidLines___init__ : PySem.W.typeIn K (.ref a.f_InvalidLines___init__) = some (.type "function")
  F_InvalidMode___init__ : Fun K "__init__" "InvalidMode.__init__" s_InvalidMode___init__ a.f_InvalidMode___init__ a.d_InvalidMode___init__
  bi_InvalidMode___init__ : Binds K a.d_InvalidMode___init__ ["self", "value"] []
  i_InvalidMode___init__ : PySem.W.findIn K (.ref a.c_InvalidMode) "__init__" = some (some (.ref a.f_InvalidMode___init__))
  ty_InvalidMode___init__ : PySem.W.typeIn K (.ref a.f_InvalidMode___init__) = some (.type "function")
  F_InvalidLetter___init__ : Fun K "__init__" "InvalidLetter.__init__" s_InvalidLetter___init__ a.f_InvalidLetter___init__ a.d_InvalidLetter___init__
  bi_InvalidLetter___init__ : Binds K a.d_InvalidLetter___init__ ["self", "value"] []
  i_InvalidLetter___init__ : PySem.W.findIn K (.ref a.c_InvalidLetter) "__init__" = some (some (.ref a.f_InvalidLetter___init__))
  ty_InvalidLetter___init__ : PySem.W.typeIn K (.ref a.f_InvalidLetter___init__) = some (.type "function")
  F_UnlikeParameters___init__ : Fun K "__init__" "UnlikeParameters.__init__" s_UnlikeParameters___init__ a.f_UnlikeParameters___init__ a.d_UnlikeParameters___init__
  bi_UnlikeParameters___init__ : Binds K a.d_UnlikeParameters___init__ ["self", "value"] []
  i_UnlikeParameters___init__ : PySem.W.findIn K (.ref a.c_UnlikeParameters) "__init__" = some (some (.ref a.f_UnlikeParameters___init__))
  ty_UnlikeParameters___init__ : PySem.W.typeIn K (.ref a.f_UnlikeParameters___init__) = some (.type "function")
  F_Duplicate___init__ : Fun K "__init__" "Duplicate.__init__" s_Duplicate___init__ a.f_Duplicate___init__ a.d_Duplicate___init__
  bi_Duplicate___init__ : Binds K a.d_Duplicate___init__ ["self", "name"] []
  i_Duplicate___init__ : PySem.W.findIn K (.ref a.c_Duplicate) "__init__" = some (some (.ref a.f_Duplicate___init__))
  ty_Duplicate___init__ : PySem.W.typeIn K (.ref a.f_Duplicate___init__) = some (.type "function")
  F_Reserved___init__ : Fun K "__init__" "Reserved.__init__" s_Reserved___init__ a.f_Reserved___init__ a.d_Reserved___init__
  bi_Reserved___init__ : Binds K a.d_Reserved___init__ ["self", "name"] []
  i_Reserved___init__ : PySem.W.findIn K (.ref a.c_Reserved) "__init__" = some (some (.ref a.f_Reserved___init__))
  ty_Reserved___init__ : PySem.W.typeIn K (.ref a.f_Reserved___init__) = some (.type "function")
  F_TooLarge___init__ : Fun K "__init__" "TooLarge.__init__" s_TooLarge___init__ a.f_TooLarge___init__ a.d_TooLarge___init__
  bi_TooLarge___init__ : Binds K a.d_TooLarge___init__ ["self", "count"] []
  i_TooLarge___init__ : PySem.W.findIn K (.ref a.c_TooLarge) "__init__" = some (some (.ref a.f_TooLarge___init__))
  ty_TooLarge___init__ : PySem.W.typeIn K (.ref a.f_TooLarge___init__) = some (.type "function")
  F_InvalidRow___init__ : Fun K "__init__" "InvalidRow.__init__" s_InvalidRow___init__ a.f_InvalidRow___init__ a.d_InvalidRow___init__
  bi_InvalidRow___init__ : Binds K a.d_InvalidRow___init__ ["self", "index"] []
  i_InvalidRow___init__ : PySem.W.findIn K (.ref a.c_InvalidRow) "__init__" = some (some (.ref a.f_InvalidRow___init__))
  ty_InvalidRow___init__ : PySem.W.typeIn K (.ref a.f_InvalidRow___init__) = some (.type "function")
  F_UnknownTemplate___init__ : Fun K "__init__" "UnknownTemplate.__init__" s_UnknownTemplate___init__ a.f_UnknownTemplate___init__ a.d_UnknownTemplate___init__
  bi_UnknownTemplate___init__ : Binds K a.d_UnknownTemplate___init__ ["self", "name"] []
  i_UnknownTemplate___init__ : PySem.W.findIn K (.ref a.c_UnknownTemplate) "__init__" = some (some (.ref a.f_UnknownTemplate___init__))
  ty_UnknownTemplate___init__ : PySem.W.typeIn K (.ref a.f_UnknownTemplate___init__) = some (.type "function")
  F_UnknownHole___init__ : Fun K "__init__" "UnknownHole.__init__" s_UnknownHole___init__ a.f_UnknownHole___init__ a.d_UnknownHole___init__
  bi_UnknownHole___init__ : Binds K a.d_UnknownHole___init__ ["self", "name"] []
  i_UnknownHole___init__ : PySem.W.findIn K (.ref a.c_UnknownHole) "__init__" = some (some (.ref a.f_UnknownHole___init__))
  ty_UnknownHole___init__ : PySem.W.typeIn K (.ref a.f_UnknownHole___init__) = some (.type "function")
  F_UnknownBinder___init__ : Fun K "__init__" "UnknownBinder.__init__" s_UnknownBinder___init__ a.f_UnknownBinder___init__ a.d_UnknownBinder___init__
  bi_UnknownBinder___init__ : Binds K a.d_UnknownBinder___init__ ["self", "number"] []
  i_UnknownBinder___init__ : PySem.W.findIn K (.ref a.c_UnknownBinder) "__init__" = some (some (.ref a.f_UnknownBinder___init__))
  ty_UnknownBinder___init__ : PySem.W.typeIn K (.ref a.f_UnknownBinder___init__) = some (.type "function")
  F_StillCalled___init__ : Fun K "__init__" "StillCalled.__init__" s_StillCalled___init__ a.f_StillCalled___init__ a.d_StillCalled___init__
  bi_StillCalled___init__ : Binds K a.d_StillCalled___init__ ["self", "name"] []
  i_StillCalled___init__ : PySem.W.findIn K (.ref a.c_StillCalled) "__init__" = some (some (.ref a.f_StillCalled___init__))
  ty_StillCalled___init__ : PySem.W.typeIn K (.ref a.f_StillCalled___init__) = some (.type "function")
  F_NothingToUndo___init__ : Fun K "__init__" "NothingToUndo.__init__" s_NothingToUndo___init__ a.f_NothingToUndo___init__ a.d_NothingToUndo___init__
  bi_NothingToUndo___init__ : Binds K a.d_NothingToUndo___init__ ["self"] []
  i_NothingToUndo___init__ : PySem.W.findIn K (.ref a.c_NothingToUndo) "__init__" = some (some (.ref a.f_NothingToUndo___init__))
  ty_NothingToUndo___init__ : PySem.W.typeIn K (.ref a.f_NothingToUndo___init__) = some (.type "function")
  F_NothingToRedo___init__ : Fun K "__init__" "NothingToRedo.__init__" s_NothingToRedo___init__ a.f_NothingToRedo___init__ a.d_NothingToRedo___init__
  bi_NothingToRedo___init__ : Binds K a.d_NothingToRedo___init__ ["self"] []
  i_NothingToRedo___init__ : PySem.W.findIn K (.ref a.c_NothingToRedo) "__init__" = some (some (.ref a.f_NothingToRedo___init__))
  ty_NothingToRedo___init__ : PySem.W.typeIn K (.ref a.f_NothingToRedo___init__) = some (.type "function")
  F__law_cell : Fun K "_law_cell" "_law_cell" s__law_cell a.f__law_cell a.d__law_cell
  bi__law_cell : Binds K a.d__law_cell ["_law_script", "_law_k"] []
  g__law_cell : mg "_law_cell" = some (.ref a.f__law_cell)
  F__law_box : Fun K "_law_box" "_law_box" s__law_box a.f__law_box a.d__law_box
  bi__law_box : Binds K a.d__law_box ["_law_cell_here"] []
  g__law_box : mg "_law_box" = some (.ref a.f__law_box)
  F__law_take : Fun K "_law_take" "_law_take" s__law_take a.f__law_take a.d__law_take
  bi__law_take : Binds K a.d__law_take ["_law_box_here", "_law_many"] []
  g__law_take : mg "_law_take" = some (.ref a.f__law_take)
  F__law_value : Fun K "_law_value" "_law_value" s__law_value a.f__law_value a.d__law_value
  bi__law_value : Binds K a.d__law_value ["_law_box_here"] []
  g__law_value : mg "_law_value" = some (.ref a.f__law_value)
  F__law_made : Fun K "_law_made" "_law_made" s__law_made a.f__law_made a.d__law_made
  bi__law_made : Binds K a.d__law_made ["_law_value_here"] []
  g__law_made : mg "_law_made" = some (.ref a.f__law_made)
  F__law_field : Fun K "_law_field" "_law_field" s__law_field a.f__law_field a.d__law_field
  bi__law_field : Binds K a.d__law_field ["_law_error", "_law_k"] []
  g__law_field : mg "_law_field" = some (.ref a.f__law_field)
  F__law_kinds : Fun K "_law_kinds" "_law_kinds" s__law_kinds a.f__law_kinds a.d__law_kinds
  bi__law_kinds : Binds K a.d__law_kinds ["_law_error"] []
  g__law_kinds : mg "_law_kinds" = some (.ref a.f__law_kinds)
  F__law_bases : Fun K "_law_bases" "_law_bases" s__law_bases a.f__law_bases a.d__law_bases
  bi__law_bases : Binds K a.d__law_bases ["_law_error"] []
  g__law_bases : mg "_law_bases" = some (.ref a.f__law_bases)
  F__law_due : Fun K "_law_due" "_law_due" s__law_due a.f__law_due a.d__law_due
  bi__law_due : Binds K a.d__law_due ["_law_k"] []
  g__law_due : mg "_law_due" = some (.ref a.f__law_due)
  F_law : Fun K "law" "law" s_law a.f_law a.d_law
  bi_law : Binds K a.d_law ["_law_script"] []
  g_law : mg "law" = some (.ref a.f_law)
  lb : ∀ (s : Shared) (u : Value), BindsTo s a.d_law ⟨[u], []⟩ [("_law_script", u)]
  g_CaughtError : mg "CaughtError" = some (.ref a.c_CaughtError)
  ox_CaughtError : OexB K .ve a.c_CaughtError
  ini_CaughtError : PySem.W.findIn K (.ref a.c_CaughtError) "__init__" = some (some (.builtin "ValueError.__init__"))
  xv_CaughtError : ExV K "CaughtError" a.c_CaughtError none .ve
  e_CaughtError : ExB0 K .ve a.c_CaughtError
  g_AbsentError : mg "AbsentError" = some (.ref a.c_AbsentError)
  ox_AbsentError : OexB K .ke a.c_AbsentError
  ini_AbsentError : PySem.W.findIn K (.ref a.c_AbsentError) "__init__" = some (some (.builtin "KeyError.__init__"))
  xv_AbsentError : ExV K "AbsentError" a.c_AbsentError none .ke
  e_AbsentError : ExB0 K .ke a.c_AbsentError
  g_StateError : mg "StateError" = some (.ref a.c_StateError)
  ox_StateError : OexB K .le a.c_StateError
  ini_StateError : PySem.W.findIn K (.ref a.c_StateError) "__init__" = some (some (.builtin "LookupError.__init__"))
  xv_StateError : ExV K "StateError" a.c_StateError none .le
  e_StateError : ExB0 K .le a.c_StateError
  g_InvalidName : mg "InvalidName" = some (.ref a.c_InvalidName)
  xv_InvalidName : ExV K "InvalidName" a.c_InvalidName (some a.c_CaughtError) .ve
  e_InvalidName : ExT K .ve a.c_InvalidName "value"
  g_InvalidTerm : mg "InvalidTerm" = some (.ref a.c_InvalidTerm)
  xv_InvalidTerm : ExV K "InvalidTerm" a.c_InvalidTerm (some a.c_CaughtError) .ve
  e_InvalidTerm : ExT K .ve a.c_InvalidTerm "value"
  g_InvalidBody : mg "InvalidBody" = some (.ref a.c_InvalidBody)
  xv_InvalidBody : ExV K "InvalidBody" a.c_InvalidBody (some a.c_CaughtError) .ve
  e_InvalidBody : ExT K .ve a.c_InvalidBody "value"
  g_InvalidProgram : mg "InvalidProgram" = some (.ref a.c_InvalidProgram)
  xv_InvalidProgram : ExV K "InvalidProgram" a.c_InvalidProgram (some a.c_CaughtError) .ve
  e_InvalidProgram : ExT K .ve a.c_InvalidProgram "value"
  g_InvalidParameters : mg "InvalidParameters" = some (.ref a.c_InvalidParameters)
  xv_InvalidParameters : ExV K "InvalidParameters" a.c_InvalidParameters (some a.c_CaughtError) .ve
  e_InvalidParameters : ExT K .ve a.c_InvalidParameters "value"
  g_InvalidTemplate : mg "InvalidTemplate" = some (.ref a.c_InvalidTemplate)
  xv_InvalidTemplate : ExV K "InvalidTemplate" a.c_InvalidTemplate (some a.c_CaughtError) .ve
  e_InvalidTemplate : ExT K .ve a.c_InvalidTemplate "value"
  g_InvalidCall : mg "InvalidCall" = some (.ref a.c_InvalidCall)
  xv_InvalidCall : ExV K "InvalidCall" a.c_InvalidCall (some a.c_CaughtError) .ve
  e_InvalidCall : ExT K .ve a.c_InvalidCall "value"
  g_InvalidBook : mg "InvalidBook" = some (.ref a.c_InvalidBook)
  xv_InvalidBook : ExV K "InvalidBook" a.c_InvalidBook (some a.c_CaughtError) .ve
  e_InvalidBook : ExT K .ve a.c_InvalidBook "value"
  g_InvalidChoice : mg "InvalidChoice" = some (.ref a.c_InvalidChoice)
  xv_InvalidChoice : ExV K "InvalidChoice" a.c_InvalidChoice (some a.c_CaughtError) .ve
  e_InvalidChoice : ExT K .ve a.c_InvalidChoice "value"
  g_InvalidFillings : mg "InvalidFillings" = some (.ref a.c_InvalidFillings)
  xv_InvalidFillings : ExV K "InvalidFillings" a.c_InvalidFillings (some a.c_CaughtError) .ve
  e_InvalidFillings : ExT K .ve a.c_InvalidFillings "value"
  g_InvalidSite : mg "InvalidSite" = some (.ref a.c_InvalidSite)
  xv_InvalidSite : ExV K "InvalidSite" a.c_InvalidSite (some a.c_CaughtError) .ve
  e_InvalidSite : ExT K .ve a.c_InvalidSite "value"
  g_InvalidTables : mg "InvalidTables" = some (.ref a.c_InvalidTables)
  xv_InvalidTables : ExV K "InvalidTables" a.c_InvalidTables (some a.c_CaughtError) .ve
  e_InvalidTables : ExT K .ve a.c_InvalidTables "value"
  g_InvalidMeaning : mg "InvalidMeaning" = some (.ref a.c_InvalidMeaning)
  xv_InvalidMeaning : ExV K "InvalidMeaning" a.c_InvalidMeaning (some a.c_CaughtError) .ve
  e_InvalidMeaning : ExT K .ve a.c_InvalidMeaning "value"
  g_InvalidText : mg "InvalidText" = some (.ref a.c_InvalidText)
  xv_InvalidText : ExV K "InvalidText" a.c_InvalidText (some a.c_CaughtError) .ve
  e_InvalidText : ExT K .ve a.c_InvalidText "value"
  g_InvalidLine : mg "InvalidLine" = some (.ref a.c_InvalidLine)
  xv_InvalidLine : ExV K "InvalidLine" a.c_InvalidLine (some a.c_CaughtError) .ve
  e_InvalidLine : ExT K .ve a.c_InvalidLine "value"
  g_InvalidLines : mg "InvalidLines" = some (.ref a.c_InvalidLines)
  xv_InvalidLines : ExV K "InvalidLines" a.c_InvalidLines (some a.c_CaughtError) .ve
  e_InvalidLines : ExT K .ve a.c_InvalidLines "value"
  g_InvalidMode : mg "InvalidMode" = some (.ref a.c_InvalidMode)
  xv_InvalidMode : ExV K "InvalidMode" a.c_InvalidMode (some a.c_CaughtError) .ve
  e_InvalidMode : ExT K .ve a.c_InvalidMode "value"
  g_InvalidLetter : mg "InvalidLetter" = some (.ref a.c_InvalidLetter)
  xv_InvalidLetter : ExV K "InvalidLetter" a.c_InvalidLetter (some a.c_CaughtError) .ve
  e_InvalidLetter : ExT K .ve a.c_InvalidLetter "value"
  g_UnlikeParameters : mg "UnlikeParameters" = some (.ref a.c_UnlikeParameters)
  xv_UnlikeParameters : ExV K "UnlikeParameters" a.c_UnlikeParameters (some a.c_CaughtError) .ve
  e_UnlikeParameters : ExT K .ve a.c_UnlikeParameters "value"
  g_Duplicate : mg "Duplicate" = some (.ref a.c_Duplicate)
  xv_Duplicate : ExV K "Duplicate" a.c_Duplicate (some a.c_CaughtError) .ve
  e_Duplicate : ExT K .ve a.c_Duplicate "name"
  g_Reserved : mg "Reserved" = some (.ref a.c_Reserved)
  xv_Reserved : ExV K "Reserved" a.c_Reserved (some a.c_CaughtError) .ve
  e_Reserved : ExT K .ve a.c_Reserved "name"
  g_TooLarge : mg "TooLarge" = some (.ref a.c_TooLarge)
  xv_TooLarge : ExV K "TooLarge" a.c_TooLarge (some a.c_CaughtError) .ve
  e_TooLarge : ExT K .ve a.c_TooLarge "count"
  g_InvalidRow : mg "InvalidRow" = some (.ref a.c_InvalidRow)
  xv_InvalidRow : ExV K "InvalidRow" a.c_InvalidRow (some a.c_CaughtError) .ve
  e_InvalidRow : ExT K .ve a.c_InvalidRow "index"
  g_UnknownTemplate : mg "UnknownTemplate" = some (.ref a.c_UnknownTemplate)
  xv_UnknownTemplate : ExV K "UnknownTemplate" a.c_UnknownTemplate (some a.c_AbsentError) .ke
  e_UnknownTemplate : ExT K .ke a.c_UnknownTemplate "name"
  g_UnknownHole : mg "UnknownHole" = some (.ref a.c_UnknownHole)
  xv_UnknownHole : ExV K "UnknownHole" a.c_UnknownHole (some a.c_AbsentError) .ke
  e_UnknownHole : ExT K .ke a.c_UnknownHole "name"
  g_UnknownBinder : mg "UnknownBinder" = some (.ref a.c_UnknownBinder)
  xv_UnknownBinder : ExV K "UnknownBinder" a.c_UnknownBinder (some a.c_AbsentError) .ke
  e_UnknownBinder : ExT K .ke a.c_UnknownBinder "number"
  g_StillCalled : mg "StillCalled" = some (.ref a.c_StillCalled)
  xv_StillCalled : ExV K "StillCalled" a.c_StillCalled (some a.c_StateError) .le
  e_StillCalled : ExT K .le a.c_StillCalled "name"
  g_NothingToUndo : mg "NothingToUndo" = some (.ref a.c_NothingToUndo)
  ox_NothingToUndo : OexB K .le a.c_NothingToUndo
  xv_NothingToUndo : ExV K "NothingToUndo" a.c_NothingToUndo (some a.c_StateError) .le
  g_NothingToRedo : mg "NothingToRedo" = some (.ref a.c_NothingToRedo)
  ox_NothingToRedo : OexB K .le a.c_NothingToRedo
  xv_NothingToRedo : ExV K "NothingToRedo" a.c_NothingToRedo (some a.c_StateError) .le
  nd : ((xl a).map XC.ad).Nodup
  b_len : mg "len" = none
  b_max : mg "max" = none
  b_min : mg "min" = none
  b_isinstance : mg "isinstance" = none
  b_range : mg "range" = none
  b_repr : mg "repr" = none
  b_enumerate : mg "enumerate" = none
  b_list : mg "list" = none
  b_dict : mg "dict" = none
  b_ValueError : mg "ValueError" = none
  b_KeyError : mg "KeyError" = none
  b_LookupError : mg "LookupError" = none
theorem Txt.xcs {K : PySem.W.Frag} {mg : Str → Option Value} {a : Ad} (T : Txt K mg a) : XCs K (xl a) := ⟨List.forall_mem_cons.mpr ⟨⟨_, T.xv_CaughtError, .inl ⟨rfl, rfl⟩⟩, List.forall_mem_cons.mpr ⟨⟨_, T.xv_AbsentError, .inl ⟨rfl, rfl⟩⟩, List.forall_mem_cons.mpr ⟨⟨_, T.xv_StateError, .inl ⟨rfl, rfl⟩⟩, List.forall_mem_cons.mpr ⟨⟨_, T.xv_InvalidName, .inr ⟨_, (.head _), rfl, rfl⟩⟩, List.forall_mem_cons.mpr ⟨⟨_, T.xv_InvalidTerm, .inr ⟨_, (.head _), rfl, rfl⟩⟩, List.forall_mem_cons.mpr ⟨⟨_, T.xv_InvalidBody, .inr ⟨_, (.head _), rfl, rfl⟩⟩, List.forall_mem_cons.mpr ⟨⟨_, T.xv_InvalidProgram, .inr ⟨_, (.head _), rfl, rfl⟩⟩, List.forall_mem_cons.mpr ⟨⟨_, T.xv_InvalidParameters, .inr ⟨_, (.head _), rfl, rfl⟩⟩, List.forall_mem_cons.mpr ⟨⟨_, T.xv_InvalidTemplate, .inr ⟨_, (.head _), rfl, rfl⟩⟩, List.forall_mem_cons.mpr ⟨⟨_, T.xv_InvalidCall, .inr ⟨_, (.head _), rfl, rfl⟩⟩, List.forall_mem_cons.mpr ⟨⟨_, T.xv_InvalidBook, .inr ⟨_, (.head _), rfl, rfl⟩⟩, List.forall_mem_cons.mpr ⟨⟨_, T.xv_InvalidChoice, .inr ⟨_, (.head _), rfl, rfl⟩⟩, List.forall_mem_cons.mpr ⟨⟨_, T.xv_InvalidFillings, .inr ⟨_, (.head _), rfl, rfl⟩⟩, List.forall_mem_cons.mpr ⟨⟨_, T.xv_InvalidSite, .inr ⟨_, (.head _), rfl, rfl⟩⟩, List.forall_mem_cons.mpr ⟨⟨_, T.xv_InvalidTables, .inr ⟨_, (.head _), rfl, rfl⟩⟩, List.forall_mem_cons.mpr ⟨⟨_, T.xv_InvalidMeaning, .inr ⟨_, (.head _), rfl, rfl⟩⟩, List.forall_mem_cons.mpr ⟨⟨_, T.xv_InvalidText, .inr ⟨_, (.head _), rfl, rfl⟩⟩, List.forall_mem_cons.mpr ⟨⟨_, T.xv_InvalidLine, .inr ⟨_, (.head _), rfl, rfl⟩⟩, List.forall_mem_cons.mpr ⟨⟨_, T.xv_InvalidLines, .inr ⟨_, (.head _), rfl, rfl⟩⟩, List.forall_mem_cons.mpr ⟨⟨_, T.xv_InvalidMode, .inr ⟨_, (.head _), rfl, rfl⟩⟩, List.forall_mem_cons.mpr ⟨⟨_, T.xv_InvalidLetter, .inr ⟨_, (.head _), rfl, rfl⟩⟩, List.forall_mem_cons.mpr ⟨⟨_, T.xv_UnlikeParameters, .inr ⟨_, (.head _), rfl, rfl⟩⟩, List.forall_mem_cons.mpr ⟨⟨_, T.xv_Duplicate, .inr ⟨_, (.head _), rfl, rfl⟩⟩, List.forall_mem_cons.mpr ⟨⟨_, T.xv_Reserved, .inr ⟨_, (.head _), rfl, rfl⟩⟩, List.forall_mem_cons.mpr ⟨⟨_, T.xv_TooLarge, .inr ⟨_, (.head _), rfl, rfl⟩⟩, List.forall_mem_cons.mpr ⟨⟨_, T.xv_InvalidRow, .inr ⟨_, (.head _), rfl, rfl⟩⟩, List.forall_mem_cons.mpr ⟨⟨_, T.xv_UnknownTemplate, .inr ⟨_, (.tail _ (.head _)), rfl, rfl⟩⟩, List.forall_mem_cons.mpr ⟨⟨_, T.xv_UnknownHole, .inr ⟨_, (.tail _ (.head _)), rfl, rfl⟩⟩, List.forall_mem_cons.mpr ⟨⟨_, T.xv_UnknownBinder, .inr ⟨_, (.tail _ (.head _)), rfl, rfl⟩⟩, List.forall_mem_cons.mpr ⟨⟨_, T.xv_StillCalled, .inr ⟨_, (.tail _ (.tail _ (.head _))), rfl, rfl⟩⟩, List.forall_mem_cons.mpr ⟨⟨_, T.xv_NothingToUndo, .inr ⟨_, (.tail _ (.tail _ (.head _))), rfl, rfl⟩⟩, List.forall_mem_cons.mpr ⟨⟨_, T.xv_NothingToRedo, .inr ⟨_, (.tail _ (.tail _ (.head _))), rfl, rfl⟩⟩, fun _ h => nomatch h⟩⟩⟩⟩⟩⟩⟩⟩⟩⟩⟩⟩⟩⟩⟩⟩⟩⟩⟩⟩⟩⟩⟩⟩⟩⟩⟩⟩⟩⟩⟩⟩, T.nd, (by decide +kernel : (xt.map Prod.fst).Nodup)⟩
theorem Txt.sx_CaughtError {K : PySem.W.Frag} {mg : Str → Option Value} {a : Ad} (T : Txt K mg a) {L : Link} {te : TE} {ue : UE} (he : SE K L te ue) : SE K L (tCB (rIsiU K) (tCons te (tCons (tC (.ref a.c_CaughtError)) tNil))) (uIsX xt "CaughtError" ue) := se_isX (xs := xl a) T.xcs (.head _) he
theorem Txt.sx_AbsentError {K : PySem.W.Frag} {mg : Str → Option Value} {a : Ad} (T : Txt K mg a) {L : Link} {te : TE} {ue : UE} (he : SE K L te ue) : SE K L (tCB (rIsiU K) (tCons te (tCons (tC (.ref a.c_AbsentError)) tNil))) (uIsX xt "AbsentError" ue) := se_isX (xs := xl a) T.xcs (.tail _ (.head _)) he
theorem Txt.sx_StateError {K : PySem.W.Frag} {mg : Str → Option Value} {a : Ad} (T : Txt K mg a) {L : Link} {te : TE} {ue : UE} (he : SE K L te ue) : SE K L (tCB (rIsiU K) (tCons te (tCons (tC (.ref a.c_StateError)) tNil))) (uIsX xt "StateError" ue) := se_isX (xs := xl a) T.xcs (.tail _ (.tail _ (.head _))) he
theorem Txt.sx_InvalidName {K : PySem.W.Frag} {mg : Str → Option Value} {a : Ad} (T : Txt K mg a) {L : Link} {te : TE} {ue : UE} (he : SE K L te ue) : SE K L (tCB (rIsiU K) (tCons te (tCons (tC (.ref a.c_InvalidName)) tNil))) (uIsX xt "InvalidName" ue) := se_isX (xs := xl a) T.xcs (.tail _ (.tail _ (.tail _ (.head _)))) he
theorem Txt.sx_InvalidTerm {K : PySem.W.Frag} {mg : Str → Option Value} {a : Ad} (T : Txt K mg a) {L : Link} {te : TE} {ue : UE} (he : SE K L te ue) : SE K L (tCB (rIsiU K) (tCons te (tCons (tC (.ref a.c_InvalidTerm)) tNil))) (uIsX xt "InvalidTerm" ue) := se_isX (xs := xl a) T.xcs (.tail _ (.tail _ (.tail _ (.tail _ (.head _))))) he
theorem Txt.sx_InvalidBody {K : PySem.W.Frag} {mg : Str → Option Value} {a : Ad} (T : Txt K mg a) {L : Link} {te : TE} {ue : UE} (he : SE K L te ue) : SE K L (tCB (rIsiU K) (tCons te (tCons (tC (.ref a.c_InvalidBody)) tNil))) (uIsX xt "InvalidBody" ue) := se_isX (xs := xl a) T.xcs (.tail _ (.tail _ (.tail _ (.tail _ (.tail _ (.head _)))))) he
theorem Txt.sx_InvalidProgram {K : PySem.W.Frag} {mg : Str → Option Value} {a : Ad} (T : Txt K mg a) {L : Link} {te : TE} {ue : UE} (he : SE K L te ue) : SE K L (tCB (rIsiU K) (tCons te (tCons (tC (.ref a.c_InvalidProgram)) tNil))) (uIsX xt "InvalidProgram" ue) := se_isX (xs := xl a) T.xcs (.tail _ (.tail _ (.tail _ (.tail _ (.tail _ (.tail _ (.head _))))))) he
theorem Txt.sx_InvalidParameters {K : PySem.W.Frag} {mg : Str → Option Value} {a : Ad} (T : Txt K mg a) {L : Link} {te : TE} {ue : UE} (he : SE K L te ue) : SE K L (tCB (rIsiU K) (tCons te (tCons (tC (.ref a.c_InvalidParameters)) tNil))) (uIsX xt "InvalidParameters" ue) := se_isX (xs := xl a) T.xcs (.tail _ (.tail _ (.tail _ (.tail _ (.tail _ (.tail _ (.tail _ (.head _)))))))) he
theorem Txt.sx_InvalidTemplate {K : PySem.W.Frag} {mg : Str → Option Value} {a : Ad} (T : Txt K mg a) {L : Link} {te : TE} {ue : UE} (he : SE K L te ue) : SE K L (tCB (rIsiU K) (tCons te (tCons (tC (.ref a.c_InvalidTemplate)) tNil))) (uIsX xt "InvalidTemplate" ue) := se_isX (xs := xl a) T.xcs (.tail _ (.tail _ (.tail _ (.tail _ (.tail _ (.tail _ (.tail _ (.tail _ (.head _))))))))) he
theorem Txt.sx_InvalidCall {K : PySem.W.Frag} {mg : Str → Option Value} {a : Ad} (T : Txt K mg a) {L : Link} {te : TE} {ue : UE} (he : SE K L te ue) : SE K L (tCB (rIsiU K) (tCons te (tCons (tC (.ref a.c_InvalidCall)) tNil))) (uIsX xt "InvalidCall" ue) := se_isX (xs := xl a) T.xcs (.tail _ (.tail _ (.tail _ (.tail _ (.tail _ (.tail _ (.tail _ (.tail _ (.tail _ (.head _)))))))))) he
theorem Txt.sx_InvalidBook {K : PySem.W.Frag} {mg : Str → Option Value} {a : Ad} (T : Txt K mg a) {L : Link} {te : TE} {ue : UE} (he : SE K L te ue) : SE K L (tCB (rIsiU K) (tCons te (tCons (tC (.ref a.c_InvalidBook)) tNil))) (uIsX xt "InvalidBook" ue) := se_isX (xs := xl a) T.xcs (.tail _ (.tail _ (.tail _ (.tail _ (.tail _ (.tail _ (.tail _ (.tail _ (.tail _ (.tail _ (.head _))))))))))) he
theorem Txt.sx_InvalidChoice {K : PySem.W.Frag} {mg : Str → Option Value} {a : Ad} (T : Txt K mg a) {L : Link} {te : TE} {ue : UE} (he : SE K L te ue) : SE K L (tCB (rIsiU K) (tCons te (tCons (tC (.ref a.c_InvalidChoice)) tNil))) (uIsX xt "InvalidChoice" ue) := se_isX (xs := xl a) T.xcs (.tail _ (.tail _ (.tail _ (.tail _ (.tail _ (.tail _ (.tail _ (.tail _ (.tail _ (.tail _ (.tail _ (.head _)))))))))))) he
theorem Txt.sx_InvalidFillings {K : PySem.W.Frag} {mg : Str → Option Value} {a : Ad} (T : Txt K mg a) {L : Link} {te : TE} {ue : UE} (he : SE K L te ue) : SE K L (tCB (rIsiU K) (tCons te (tCons (tC (.ref a.c_InvalidFillings)) tNil))) (uIsX xt "InvalidFillings" ue) := se_isX (xs := xl a) T.xcs (.tail _ (.tail _ (.tail _ (.tail _ (.tail _ (.tail _ (.tail _ (.tail _ (.tail _ (.tail _ (.tail _ (.tail _ (.head _))))))))))))) he
theorem Txt.sx_InvalidSite {K : PySem.W.Frag} {mg : Str → Option Value} {a : Ad} (T : Txt K mg a) {L : Link} {te : TE} {ue : UE} (he : SE K L te ue) : SE K L (tCB (rIsiU K) (tCons te (tCons (tC (.ref a.c_InvalidSite)) tNil))) (uIsX xt "InvalidSite" ue) := se_isX (xs := xl a) T.xcs (.tail _ (.tail _ (.tail _ (.tail _ (.tail _ (.tail _ (.tail _ (.tail _ (.tail _ (.tail _ (.tail _ (.tail _ (.tail _ (.head _)))))))))))))) he
theorem Txt.sx_InvalidTables {K : PySem.W.Frag} {mg : Str → Option Value} {a : Ad} (T : Txt K mg a) {L : Link} {te : TE} {ue : UE} (he : SE K L te ue) : SE K L (tCB (rIsiU K) (tCons te (tCons (tC (.ref a.c_InvalidTables)) tNil))) (uIsX xt "InvalidTables" ue) := se_isX (xs := xl a) T.xcs (.tail _ (.tail _ (.tail _ (.tail _ (.tail _ (.tail _ (.tail _ (.tail _ (.tail _ (.tail _ (.tail _ (.tail _ (.tail _ (.tail _ (.head _))))))))))))))) he
theorem Txt.sx_InvalidMeaning {K : PySem.W.Frag} {mg : Str → Option Value} {a : Ad} (T : Txt K mg a) {L : Link} {te : TE} {ue : UE} (he : SE K L te ue) : SE K L (tCB (rIsiU K) (tCons te (tCons (tC (.ref a.c_InvalidMeaning)) tNil))) (uIsX xt "InvalidMeaning" ue) := se_isX (xs := xl a) T.xcs (.tail _ (.tail _ (.tail _ (.tail _ (.tail _ (.tail _ (.tail _ (.tail _ (.tail _ (.tail _ (.tail _ (.tail _ (.tail _ (.tail _ (.tail _ (.head _)))))))))))))))) he
theorem Txt.sx_InvalidText {K : PySem.W.Frag} {mg : Str → Option Value} {a : Ad} (T : Txt K mg a) {L : Link} {te : TE} {ue : UE} (he : SE K L te ue) : SE K L (tCB (rIsiU K) (tCons te (tCons (tC (.ref a.c_InvalidText)) tNil))) (uIsX xt "InvalidText" ue) := se_isX (xs := xl a) T.xcs (.tail _ (.tail _ (.tail _ (.tail _ (.tail _ (.tail _ (.tail _ (.tail _ (.tail _ (.tail _ (.tail _ (.tail _ (.tail _ (.tail _ (.tail _ (.tail _ (.head _))))))))))))))))) he
theorem Txt.sx_InvalidLine {K : PySem.W.Frag} {mg : Str → Option Value} {a : Ad} (T : Txt K mg a) {L : Link} {te : TE} {ue : UE} (he : SE K L te ue) : SE K L (tCB (rIsiU K) (tCons te (tCons (tC (.ref a.c_InvalidLine)) tNil))) (uIsX xt "InvalidLine" ue) := se_isX (xs := xl a) T.xcs (.tail _ (.tail _ (.tail _ (.tail _ (.tail _ (.tail _ (.tail _ (.tail _ (.tail _ (.tail _ (.tail _ (.tail _ (.tail _ (.tail _ (.tail _ (.tail _ (.tail _ (.head _)))))))))))))))))) he
theorem Txt.sx_InvalidLines {K : PySem.W.Frag} {mg : Str → Option Value} {a : Ad} (T : Txt K mg a) {L : Link} {te : TE} {ue : UE} (he : SE K L te ue) : SE K L (tCB (rIsiU K) (tCons te (tCons (tC (.ref a.c_InvalidLines)) tNil))) (uIsX xt "InvalidLines" ue) := se_isX (xs := xl a) T.xcs (.tail _ (.tail _ (.tail _ (.tail _ (.tail _ (.tail _ (.tail _ (.tail _ (.tail _ (.tail _ (.tail _ (.tail _ (.tail _ (.tail _ (.tail _ (.tail _ (.tail _ (.tail _ (.head _))))))))))))))))))) he
theorem Txt.sx_InvalidMode {K : PySem.W.Frag} {mg : Str → Option Value} {a : Ad} (T : Txt K mg a) {L : Link} {te : TE} {ue : UE} (he : SE K L te ue) : SE K L (tCB (rIsiU K) (tCons te (tCons (tC (.ref a.c_InvalidMode)) tNil))) (uIsX xt "InvalidMode" ue) := se_isX (xs := xl a) T.xcs (.tail _ (.tail _ (.tail _ (.tail _ (.tail _ (.tail _ (.tail _ (.tail _ (.tail _ (.tail _ (.tail _ (.tail _ (.tail _ (.tail _ (.tail _ (.tail _ (.tail _ (.tail _ (.tail _ (.head _)))))))))))))))))))) he
theorem Txt.sx_InvalidLetter {K : PySem.W.Frag} {mg : Str → Option Value} {a : Ad} (T : Txt K mg a) {L : Link} {te : TE} {ue : UE} (he : SE K L te ue) : SE K L (tCB (rIsiU K) (tCons te (tCons (tC (.ref a.c_InvalidLetter)) tNil))) (uIsX xt "InvalidLetter" ue) := se_isX (xs := xl a) T.xcs (.tail _ (.tail _ (.tail _ (.tail _ (.tail _ (.tail _ (.tail _ (.tail _ (.tail _ (.tail _ (.tail _ (.tail _ (.tail _ (.tail _ (.tail _ (.tail _ (.tail _ (.tail _ (.tail _ (.tail _ (.head _))))))))))))))))))))) he
theorem Txt.sx_UnlikeParameters {K : PySem.W.Frag} {mg : Str → Option Value} {a : Ad} (T : Txt K mg a) {L : Link} {te : TE} {ue : UE} (he : SE K L te ue) : SE K L (tCB (rIsiU K) (tCons te (tCons (tC (.ref a.c_UnlikeParameters)) tNil))) (uIsX xt "UnlikeParameters" ue) := se_isX (xs := xl a) T.xcs (.tail _ (.tail _ (.tail _ (.tail _ (.tail _ (.tail _ (.tail _ (.tail _ (.tail _ (.tail _ (.tail _ (.tail _ (.tail _ (.tail _ (.tail _ (.tail _ (.tail _ (.tail _ (.tail _ (.tail _ (.tail _ (.head _)))))))))))))))))))))) he
theorem Txt.sx_Duplicate {K : PySem.W.Frag} {mg : Str → Option Value} {a : Ad} (T : Txt K mg a) {L : Link} {te : TE} {ue : UE} (he : SE K L te ue) : SE K L (tCB (rIsiU K) (tCons te (tCons (tC (.ref a.c_Duplicate)) tNil))) (uIsX xt "Duplicate" ue) := se_isX (xs := xl a) T.xcs (.tail _ (.tail _ (.tail _ (.tail _ (.tail _ (.tail _ (.tail _ (.tail _ (.tail _ (.tail _ (.tail _ (.tail _ (.tail _ (.tail _ (.tail _ (.tail _ (.tail _ (.tail _ (.tail _ (.tail _ (.tail _ (.tail _ (.head _))))))))))))))))))))))) he
theorem Txt.sx_Reserved {K : PySem.W.Frag} {mg : Str → Option Value} {a : Ad} (T : Txt K mg a) {L : Link} {te : TE} {ue : UE} (he : SE K L te ue) : SE K L (tCB (rIsiU K) (tCons te (tCons (tC (.ref a.c_Reserved)) tNil))) (uIsX xt "Reserved" ue) := se_isX (xs := xl a) T.xcs (.tail _ (.tail _ (.tail _ (.tail _ (.tail _ (.tail _ (.tail _ (.tail _ (.tail _ (.tail _ (.tail _ (.tail _ (.tail _ (.tail _ (.tail _ (.tail _ (.tail _ (.tail _ (.tail _ (.tail _ (.tail _ (.tail _ (.tail _ (.head _)))))))))))))))))))))))) he
theorem Txt.sx_TooLarge {K : PySem.W.Frag} {mg : Str → Option Value} {a : Ad} (T : Txt K mg a) {L : Link} {te : TE} {ue : UE} (he : SE K L te ue) : SE K L (tCB (rIsiU K) (tCons te (tCons (tC (.ref a.c_TooLarge)) tNil))) (uIsX xt "TooLarge" ue) := se_isX (xs := xl a) T.xcs (.tail _ (.tail _ (.tail _ (.tail _ (.tail _ (.tail _ (.tail _ (.tail _ (.tail _ (.tail _ (.tail _ (.tail _ (.tail _ (.tail _ (.tail _ (.tail _ (.tail _ (.tail _ (.tail _ (.tail _ (.tail _ (.tail _ (.tail _ (.tail _ (.head _))))))))))))))))))))))))) he
theorem Txt.sx_InvalidRow {K : PySem.W.Frag} {mg : Str → Option Value} {a : Ad} (T : Txt K mg a) {L : Link} {te : TE} {ue : UE} (he : SE K L te ue) : SE K L (tCB (rIsiU K) (tCons te (tCons (tC (.ref a.c_InvalidRow)) tNil))) (uIsX xt "InvalidRow" ue) := se_isX (xs := xl a) T.xcs (.tail _ (.tail _ (.tail _ (.tail _ (.tail _ (.tail _ (.tail _ (.tail _ (.tail _ (.tail _ (.tail _ (.tail _ (.tail _ (.tail _ (.tail _ (.tail _ (.tail _ (.tail _ (.tail _ (.tail _ (.tail _ (.tail _ (.tail _ (.tail _ (.tail _ (.head _)))))))))))))))))))))))))) he
theorem Txt.sx_UnknownTemplate {K : PySem.W.Frag} {mg : Str → Option Value} {a : Ad} (T : Txt K mg a) {L : Link} {te : TE} {ue : UE} (he : SE K L te ue) : SE K L (tCB (rIsiU K) (tCons te (tCons (tC (.ref a.c_UnknownTemplate)) tNil))) (uIsX xt "UnknownTemplate" ue) := se_isX (xs := xl a) T.xcs (.tail _ (.tail _ (.tail _ (.tail _ (.tail _ (.tail _ (.tail _ (.tail _ (.tail _ (.tail _ (.tail _ (.tail _ (.tail _ (.tail _ (.tail _ (.tail _ (.tail _ (.tail _ (.tail _ (.tail _ (.tail _ (.tail _ (.tail _ (.tail _ (.tail _ (.tail _ (.head _))))))))))))))))))))))))))) he
theorem Txt.sx_UnknownHole {K : PySem.W.Frag} {mg : Str → Option Value} {a : Ad} (T : Txt K mg a) {L : Link} {te : TE} {ue : UE} (he : SE K L te ue) : SE K L (tCB (rIsiU K) (tCons te (tCons (tC (.ref a.c_UnknownHole)) tNil))) (uIsX xt "UnknownHole" ue) := se_isX (xs := xl a) T.xcs (.tail _ (.tail _ (.tail _ (.tail _ (.tail _ (.tail _ (.tail _ (.tail _ (.tail _ (.tail _ (.tail _ (.tail _ (.tail _ (.tail _ (.tail _ (.tail _ (.tail _ (.tail _ (.tail _ (.tail _ (.tail _ (.tail _ (.tail _ (.tail _ (.tail _ (.tail _ (.tail _ (.head _)))))))))))))))))))))))))))) he
theorem Txt.sx_UnknownBinder {K : PySem.W.Frag} {mg : Str → Option Value} {a : Ad} (T : Txt K mg a) {L : Link} {te : TE} {ue : UE} (he : SE K L te ue) : SE K L (tCB (rIsiU K) (tCons te (tCons (tC (.ref a.c_UnknownBinder)) tNil))) (uIsX xt "UnknownBinder" ue) := se_isX (xs := xl a) T.xcs (.tail _ (.tail _ (.tail _ (.tail _ (.tail _ (.tail _ (.tail _ (.tail _ (.tail _ (.tail _ (.tail _ (.tail _ (.tail _ (.tail _ (.tail _ (.tail _ (.tail _ (.tail _ (.tail _ (.tail _ (.tail _ (.tail _ (.tail _ (.tail _ (.tail _ (.tail _ (.tail _ (.tail _ (.head _))))))))))))))))))))))))))))) he
theorem Txt.sx_StillCalled {K : PySem.W.Frag} {mg : Str → Option Value} {a : Ad} (T : Txt K mg a) {L : Link} {te : TE} {ue : UE} (he : SE K L te ue) : SE K L (tCB (rIsiU K) (tCons te (tCons (tC (.ref a.c_StillCalled)) tNil))) (uIsX xt "StillCalled" ue) := se_isX (xs := xl a) T.xcs (.tail _ (.tail _ (.tail _ (.tail _ (.tail _ (.tail _ (.tail _ (.tail _ (.tail _ (.tail _ (.tail _ (.tail _ (.tail _ (.tail _ (.tail _ (.tail _ (.tail _ (.tail _ (.tail _ (.tail _ (.tail _ (.tail _ (.tail _ (.tail _ (.tail _ (.tail _ (.tail _ (.tail _ (.tail _ (.head _)))))))))))))))))))))))))))))) he
theorem Txt.sx_NothingToUndo {K : PySem.W.Frag} {mg : Str → Option Value} {a : Ad} (T : Txt K mg a) {L : Link} {te : TE} {ue : UE} (he : SE K L te ue) : SE K L (tCB (rIsiU K) (tCons te (tCons (tC (.ref a.c_NothingToUndo)) tNil))) (uIsX xt "NothingToUndo" ue) := se_isX (xs := xl a) T.xcs (.tail _ (.tail _ (.tail _ (.tail _ (.tail _ (.tail _ (.tail _ (.tail _ (.tail _ (.tail _ (.tail _ (.tail _ (.tail _ (.tail _ (.tail _ (.tail _ (.tail _ (.tail _ (.tail _ (.tail _ (.tail _ (.tail _ (.tail _ (.tail _ (.tail _ (.tail _ (.tail _ (.tail _ (.tail _ (.tail _ (.head _))))))))))))))))))))))))))))))) he
theorem Txt.sx_NothingToRedo {K : PySem.W.Frag} {mg : Str → Option Value} {a : Ad} (T : Txt K mg a) {L : Link} {te : TE} {ue : UE} (he : SE K L te ue) : SE K L (tCB (rIsiU K) (tCons te (tCons (tC (.ref a.c_NothingToRedo)) tNil))) (uIsX xt "NothingToRedo" ue) := se_isX (xs := xl a) T.xcs (.tail _ (.tail _ (.tail _ (.tail _ (.tail _ (.tail _ (.tail _ (.tail _ (.tail _ (.tail _ (.tail _ (.tail _ (.tail _ (.tail _ (.tail _ (.tail _ (.tail _ (.tail _ (.tail _ (.tail _ (.tail _ (.tail _ (.tail _ (.tail _ (.tail _ (.tail _ (.tail _ (.tail _ (.tail _ (.tail _ (.tail _ (.head _)))))))))))))))))))))))))))))))) he

end K03

set_option Elab.async false
set_option linter.all false
set_option maxRecDepth 100000
set_option maxHeartbeats 4000000
namespace K03
open PySem PySem.Spec PyProof.Rows L2 CN Evl
def t__law_cell (K : PySem.W.Frag) (a : Ad) : TS :=
  (tSeq (tIfS (tTest (tOp rLtU (tVar 1) (tCB (rLenU K) (tCons (tVar 0) tNil)))) (tRet (tOp (rIx K) (tVar 0) (tVar 1))) tNext)
  (tRet (tOp (rAddW K) (tOp (rMulW K) (tC (.int 7919)) (tVar 1)) (tC (.int 131)))))
def t__law_box (K : PySem.W.Frag) (a : Ad) : TS :=
  (tRet (tLstG (tCons (tCB rMaxI (tCons (tC (.int 0)) (tCons (tOp rSubI (tVar 0) (tOp rPowI (tC (.int 10)) (tC (.int 18)))) tNil))) (tCons (tOp rModI (tVar 0) (tC (.int 2147483629))) (tCons (tC (.int 0)) tNil)))))
def t__law_take (K : PySem.W.Frag) (a : Ad) : TS :=
  (tSeq (tIfS (tTest (tOp rGtU (tOp (rIx K) (tVar 0) (tC (.int 0))) (tC (.int 0)))) (tSeq (tAsg (tOp rModI (tOp (rIx K) (tVar 0) (tC (.int 0))) (tVar 1)) (gName 2))
  (tSeq (tAsg (tOp rDivI (tOp (rIx K) (tVar 0) (tC (.int 0))) (tVar 1)) (gSub (tVar 0) (tC (.int 0)) rSetL))
  (tRet (tVar 2)))) tNext)
  (tSeq (tAsg (tOp (rAddW K) (tOp (rIx K) (tVar 0) (tC (.int 2))) (tC (.int 1))) (gSub (tVar 0) (tC (.int 2)) rSetL))
  (tSeq (tAsg (tOp rModI (tOp rPowI (tOp (rAddW K) (tOp (rAddW K) (tOp (rIx K) (tVar 0) (tC (.int 1))) (tOp (rMulW K) (tC (.int 7919)) (tOp (rIx K) (tVar 0) (tC (.int 2))))) (tC (.int 43))) (tC (.int 5))) (tC (.int 2147483647))) (gName 3))
  (tSeq (tAsg (tOp rModI (tOp rPowI (tOp (rAddW K) (tVar 3) (tOp (rMulW K) (tC (.int 104729)) (tOp (rIx K) (tVar 0) (tC (.int 2))))) (tC (.int 3))) (tC (.int 2147483587))) (gName 3))
  (tRet (tOp rModI (tOp rDivI (tVar 3) (tC (.int 8))) (tVar 1)))))))
theorem rd__law_take {K : PySem.W.Frag} {a : Ad} {vs : List V} {H : Hp} {Q : VK} {E : XK} (h : spTake vs H Q E) :
    t__law_take K a { nx := fun _ H' => Q .non H', rt := Q } (L2.start N__law_take vs) H := by
  obtain ⟨b, many, m, xs, rfl, ⟨n, r, c, hb, h1, h2, h3, h4, h5⟩, hm, hp, hq, k⟩ := h
  refine ⟨_, rfl, ix_l hb at3_0 ⟨_, rfl, ?_⟩⟩
  refine ite2 (fun hn => ?_) (fun hn => ?_)
  · have hn' : 0 < n := of_decide_eq_true hn
    refine ⟨_, rfl, ix_l hb at3_0 ⟨_, rfl, hp, ?_⟩⟩
    refine ⟨_, rfl, ix_l hb at3_0 ⟨_, rfl, ⟨hp, hq⟩, ?_⟩⟩
    refine ⟨_, rfl, b, _, 0, 0, rfl, rfl, hb, ixN_0, ?_⟩
    refine ⟨_, rfl, ?_⟩
    refine k _ _ (Int.emod_nonneg _ (by omega)) (Int.emod_lt_of_pos _ hp) ExBx.upd ?_
    exact ⟨n / many, r, c, upd_same, Int.ediv_nonneg h1 (by omega), h2, h3, h4, by omega⟩
  · refine ⟨_, rfl, ix_l hb at3_2 ?_⟩
    refine ⟨_, rfl, b, _, 2, 2, rfl, rfl, hb, ixN_2, ?_⟩
    have hb2 : (upd H b (.lst (.int n :: .int r :: .int (c + 1) :: xs))) b = some (.lst (.int n :: .int r :: .int (c + 1) :: xs)) := upd_same
    refine ⟨_, rfl, ix_l hb2 at3_1 ⟨_, rfl, ix_l hb2 at3_2 ⟨.inl ⟨by decide, by decide⟩, ?_⟩⟩⟩
    refine ⟨⟨by decide, by decide, ?_⟩, by decide, ?_⟩
    · show (r + 7919 * (c + 1) + 43).natAbs < 2 ^ 64
      omega
    · generalize hx : (r + 7919 * (c + 1) + 43) ^ (5 : Int).toNat % 2147483647 = x
      have x0 : 0 ≤ x := by
        rw [← hx]
        exact Int.emod_nonneg _ (by decide)
      have x1 : x < 2147483647 := by
        rw [← hx]
        exact Int.emod_lt_of_pos _ (by decide)
      refine ⟨_, rfl, _, rfl, ix_l hb2 at3_2 ⟨.inl ⟨by decide, by decide⟩, ?_⟩⟩
      refine ⟨⟨by decide, by decide, ?_⟩, by decide, ?_⟩
      · show (x + 104729 * (c + 1)).natAbs < 2 ^ 64
        omega
      · refine ⟨_, rfl, ⟨by decide, by decide⟩, _, rfl, hp, ?_⟩
        refine k _ _ (Int.emod_nonneg _ (by omega)) (Int.emod_lt_of_pos _ hp) ExBx.upd ?_
        exact ⟨n, r, c + 1, upd_same, h1, h2, h3, by omega, by omega⟩
theorem rd__law_cell {K : PySem.W.Frag} {a : Ad} {vs : List V} {H : Hp} {Q : VK} {E : XK} (h : CN.spCell K vs H Q E) :
    t__law_cell K a { nx := fun _ H' => Q .non H', rt := Q } (L2.start N__law_cell vs) H := by
  obtain ⟨p, ns, k, rfl, hS, hk, q⟩ := h
  refine ⟨_, rfl, _, rfl, .inl ⟨_, .inl hS, _, rfl, ?_⟩⟩
  refine ite2 (fun hn => ?_) (fun hn => ?_)
  · have hn' : (k : Int) < (ns.map V.int).length := of_decide_eq_true hn
    obtain ⟨v, e, hv⟩ := atI_some (xs := ns.map V.int) (i := k) (by omega) hn'
    obtain ⟨z, _, rfl⟩ := List.mem_map.mp hv
    exact ⟨_, rfl, _, rfl, ix_L hS e (q z)⟩
  · exact ⟨_, rfl, .inl ⟨by decide, by decide⟩, q _⟩
theorem rd__law_box {K : PySem.W.Frag} {a : Ad} {vs : List V} {H : Hp} {Q : VK} {E : XK} (h : spBox vs H Q E) :
    t__law_box K a { nx := fun _ H' => Q .non H', rt := Q } (L2.start N__law_box vs) H := by
  obtain ⟨c, rfl, q⟩ := h
  refine ⟨_, rfl, ⟨by decide, by decide, by decide⟩, ?_⟩
  refine ⟨_, rfl, by decide, ?_⟩
  refine ⟨(by show 3 ≤ sizeLine; decide), fun p H' hp e h' => q p H' hp e ⟨_, _, _, h', ?_, Int.emod_nonneg _ (by decide), Int.emod_lt_of_pos _ (by decide), by decide, by decide⟩⟩
  split <;> omega
abbrev spt__law_take (K : PySem.W.Frag) : Sp := spTake
abbrev spt__law_box (K : PySem.W.Frag) : Sp := spBox
abbrev spt__law_cell (K : PySem.W.Frag) : Sp := CN.spCell K
theorem okt__law_take {P : Program} {w : World} {K : PySem.W.Frag} {mg : Str → Option Value} {base : Heap} {a : Ad} (T : Txt K mg a) : FnOk P w K mg base CX0 1 a.f__law_take a.d__law_take ["_law_box_here", "_law_many"] (spt__law_take K) := by
  refine T.F__law_take.ok sc__law_take (fun vs H Q E h => ?_) (fun cdv A outer s H vs Q E hr h => ⟨t__law_take K a, ?_, rd__law_take h⟩)
  · obtain ⟨_, _, _, _, rfl, _⟩ := h
    rfl
  exact (pss_cons (ps_if (pt_cmpR op_gtU (pe_ix ix_seq (pv 0) pe_int (fun _ _ => rfl)) pe_int (nomark _)) (pss_cons (ps_set (i := 2) sc__law_take.nd rfl (Or.inl rfl) (pe_op op_modI (pe_ix ix_seq (pv 0) pe_int (fun _ _ => rfl)) (pv 1)))
      (pss_cons (ps_asg (pe_op op_divI (pe_ix ix_seq (pv 0) pe_int (fun _ _ => rfl)) (pv 1)) (pg_sub (pv 0) pe_int set_list))
      (pss_one (ps_ret (pv 2))))) pss_nil)
      (pss_cons (ps_asg (pe_op op_addW (pe_ix ix_seq (pv 0) pe_int (fun _ _ => rfl)) pe_int) (pg_sub (pv 0) pe_int set_list))
      (pss_cons (ps_set (i := 3) sc__law_take.nd rfl (Or.inl rfl) (pe_op op_modI (pe_op op_powI (pe_op op_addW (pe_op op_addW (pe_ix ix_seq (pv 0) pe_int (fun _ _ => rfl)) (pe_op op_mulW pe_int (pe_ix ix_seq (pv 0) pe_int (fun _ _ => rfl)))) pe_int) pe_int) pe_int))
      (pss_cons (ps_set (i := 3) sc__law_take.nd rfl (Or.inl rfl) (pe_op op_modI (pe_op op_powI (pe_op op_addW (pv 3) (pe_op op_mulW pe_int (pe_ix ix_seq (pv 0) pe_int (fun _ _ => rfl)))) pe_int) pe_int))
      (pss_one (ps_ret (pe_op op_modI (pe_op op_divI (pv 3) pe_int) (pv 1))))))))
theorem ok__law_cell {P : Program} {w : World} {K : PySem.W.Frag} {mg : Str → Option Value} {base : Heap} {a : Ad} (T : Txt K mg a) : FnOk P w K mg base CX0 1 a.f__law_cell a.d__law_cell ["_law_script", "_law_k"] (spt__law_cell K) := by
  refine T.F__law_cell.ok sc__law_cell (fun vs H Q E h => ?_) (fun cdv A outer s H vs Q E hr h => ⟨t__law_cell K a, ?_, rd__law_cell h⟩)
  · obtain ⟨_, _, _, rfl, _⟩ := h
    rfl
  exact (pss_cons (ps_if (pt_cmpR op_ltU (pv 1) (pe_callB call_lenU (by rfl) T.b_len (by decide +kernel) (pa_cons (pv 0) pa_nil)) (nomark _)) (pss_one (ps_ret (pe_ix ix_seq (pv 0) (pv 1) (fun _ _ => rfl)))) pss_nil)
      (pss_one (ps_ret (pe_op op_addW (pe_op op_mulW pe_int (pv 1)) pe_int))))
theorem ok__law_box {P : Program} {w : World} {K : PySem.W.Frag} {mg : Str → Option Value} {base : Heap} {a : Ad} (T : Txt K mg a) : FnOk P w K mg base CX0 1 a.f__law_box a.d__law_box ["_law_cell_here"] (spt__law_box K) := by
  refine T.F__law_box.ok sc__law_box (fun vs H Q E h => ?_) (fun cdv A outer s H vs Q E hr h => ⟨t__law_box K a, ?_, rd__law_box h⟩)
  · obtain ⟨_, rfl, _⟩ := h
    rfl
  exact (pss_one (ps_ret (pe_lstG (pa_cons (pe_callB (call_maxI rfl) (by rfl) T.b_max (by decide +kernel) (pa_cons pe_int (pa_cons (pe_op op_subI (pv 0) (pe_op op_powI pe_int pe_int)) pa_nil))) (pa_cons (pe_op op_modI (pv 0) pe_int) (pa_cons pe_int pa_nil))))))
abbrev sp__law_take : USp := uTake
theorem ok__law_take {P : Program} {w : World} {K : PySem.W.Frag} {mg : Str → Option Value} {base : Heap} {a : Ad} (T : Txt K mg a) : FnOk P w K mg base CX0 1 a.f__law_take a.d__law_take ["_law_box_here", "_law_many"] (lift K sp__law_take) := (okt__law_take T).imp fun _ _ _ _ h => take_lift h
theorem ok_InvalidName___init__ {P : Program} {w : World} {K : PySem.W.Frag} {mg : Str → Option Value} {base : Heap} {a : Ad} (T : Txt K mg a) : FnOk P w K mg base CX0 1 a.f_InvalidName___init__ a.d_InvalidName___init__ ["self", "value"] (spXI a.c_InvalidName "value") := by
  refine T.F_InvalidName___init__.ok sc_InvalidName___init__ (fun vs H Q E h => ?_) (fun cdv A outer s H vs Q E hr h => ⟨tXI K .ve "value" "not a name", ?_, rd_xi T.e_InvalidName rfl h⟩)
  · obtain ⟨_, _, rfl, _⟩ := h
    rfl
  exact pss_cons (ps_expr (pe_binit T.e_CaughtError (by rfl) T.g_CaughtError (pa_cons (pv 0) (pa_cons pe_str pa_nil)))) (pss_one (ps_fst (pv 0) (pv 1)))
theorem ok_InvalidTerm___init__ {P : Program} {w : World} {K : PySem.W.Frag} {mg : Str → Option Value} {base : Heap} {a : Ad} (T : Txt K mg a) : FnOk P w K mg base CX0 1 a.f_InvalidTerm___init__ a.d_InvalidTerm___init__ ["self", "value"] (spXI a.c_InvalidTerm "value") := by
  refine T.F_InvalidTerm___init__.ok sc_InvalidTerm___init__ (fun vs H Q E h => ?_) (fun cdv A outer s H vs Q E hr h => ⟨tXI K .ve "value" "not a term", ?_, rd_xi T.e_InvalidTerm rfl h⟩)
  · obtain ⟨_, _, rfl, _⟩ := h
    rfl
  exact pss_cons (ps_expr (pe_binit T.e_CaughtError (by rfl) T.g_CaughtError (pa_cons (pv 0) (pa_cons pe_str pa_nil)))) (pss_one (ps_fst (pv 0) (pv 1)))
theorem ok_InvalidBody___init__ {P : Program} {w : World} {K : PySem.W.Frag} {mg : Str → Option Value} {base : Heap} {a : Ad} (T : Txt K mg a) : FnOk P w K mg base CX0 1 a.f_InvalidBody___init__ a.d_InvalidBody___init__ ["self", "value"] (spXI a.c_InvalidBody "value") := by
  refine T.F_InvalidBody___init__.ok sc_InvalidBody___init__ (fun vs H Q E h => ?_) (fun cdv A outer s H vs Q E hr h => ⟨tXI K .ve "value" "not a body with these parameters", ?_, rd_xi T.e_InvalidBody rfl h⟩)
  · obtain ⟨_, _, rfl, _⟩ := h
    rfl
  exact pss_cons (ps_expr (pe_binit T.e_CaughtError (by rfl) T.g_CaughtError (pa_cons (pv 0) (pa_cons pe_str pa_nil)))) (pss_one (ps_fst (pv 0) (pv 1)))
theorem ok_InvalidProgram___init__ {P : Program} {w : World} {K : PySem.W.Frag} {mg : Str → Option Value} {base : Heap} {a : Ad} (T : Txt K mg a) : FnOk P w K mg base CX0 1 a.f_InvalidProgram___init__ a.d_InvalidProgram___init__ ["self", "value"] (spXI a.c_InvalidProgram "value") := by
  refine T.F_InvalidProgram___init__.ok sc_InvalidProgram___init__ (fun vs H Q E h => ?_) (fun cdv A outer s H vs Q E hr h => ⟨tXI K .ve "value" "not a program", ?_, rd_xi T.e_InvalidProgram rfl h⟩)
  · obtain ⟨_, _, rfl, _⟩ := h
    rfl
  exact pss_cons (ps_expr (pe_binit T.e_CaughtError (by rfl) T.g_CaughtError (pa_cons (pv 0) (pa_cons pe_str pa_nil)))) (pss_one (ps_fst (pv 0) (pv 1)))
theorem ok_InvalidParameters___init__ {P : Program} {w : World} {K : PySem.W.Frag} {mg : Str → Option Value} {base : Heap} {a : Ad} (T : Txt K mg a) : FnOk P w K mg base CX0 1 a.f_InvalidParameters___init__ a.d_InvalidParameters___init__ ["self", "value"] (spXI a.c_InvalidParameters "value") := by
  refine T.F_InvalidParameters___init__.ok sc_InvalidParameters___init__ (fun vs H Q E h => ?_) (fun cdv A outer s H vs Q E hr h => ⟨tXI K .ve "value" "not a list of parameters", ?_, rd_xi T.e_InvalidParameters rfl h⟩)
  · obtain ⟨_, _, rfl, _⟩ := h
    rfl
  exact pss_cons (ps_expr (pe_binit T.e_CaughtError (by rfl) T.g_CaughtError (pa_cons (pv 0) (pa_cons pe_str pa_nil)))) (pss_one (ps_fst (pv 0) (pv 1)))
theorem ok_InvalidTemplate___init__ {P : Program} {w : World} {K : PySem.W.Frag} {mg : Str → Option Value} {base : Heap} {a : Ad} (T : Txt K mg a) : FnOk P w K mg base CX0 1 a.f_InvalidTemplate___init__ a.d_InvalidTemplate___init__ ["self", "value"] (spXI a.c_InvalidTemplate "value") := by
  refine T.F_InvalidTemplate___init__.ok sc_InvalidTemplate___init__ (fun vs H Q E h => ?_) (fun cdv A outer s H vs Q E hr h => ⟨tXI K .ve "value" "not a template", ?_, rd_xi T.e_InvalidTemplate rfl h⟩)
  · obtain ⟨_, _, rfl, _⟩ := h
    rfl
  exact pss_cons (ps_expr (pe_binit T.e_CaughtError (by rfl) T.g_CaughtError (pa_cons (pv 0) (pa_cons pe_str pa_nil)))) (pss_one (ps_fst (pv 0) (pv 1)))
theorem ok_InvalidCall___init__ {P : Program} {w : World} {K : PySem.W.Frag} {mg : Str → Option Value} {base : Heap} {a : Ad} (T : Txt K mg a) : FnOk P w K mg base CX0 1 a.f_InvalidCall___init__ a.d_InvalidCall___init__ ["self", "value"] (spXI a.c_InvalidCall "value") := by
  refine T.F_InvalidCall___init__.ok sc_InvalidCall___init__ (fun vs H Q E h => ?_) (fun cdv A outer s H vs Q E hr h => ⟨tXI K .ve "value" "the call does not fit the template", ?_, rd_xi T.e_InvalidCall rfl h⟩)
  · obtain ⟨_, _, rfl, _⟩ := h
    rfl
  exact pss_cons (ps_expr (pe_binit T.e_CaughtError (by rfl) T.g_CaughtError (pa_cons (pv 0) (pa_cons pe_str pa_nil)))) (pss_one (ps_fst (pv 0) (pv 1)))
theorem ok_InvalidBook___init__ {P : Program} {w : World} {K : PySem.W.Frag} {mg : Str → Option Value} {base : Heap} {a : Ad} (T : Txt K mg a) : FnOk P w K mg base CX0 1 a.f_InvalidBook___init__ a.d_InvalidBook___init__ ["self", "value"] (spXI a.c_InvalidBook "value") := by
  refine T.F_InvalidBook___init__.ok sc_InvalidBook___init__ (fun vs H Q E h => ?_) (fun cdv A outer s H vs Q E hr h => ⟨tXI K .ve "value" "not a book, or not a list of at most five templates", ?_, rd_xi T.e_InvalidBook rfl h⟩)
  · obtain ⟨_, _, rfl, _⟩ := h
    rfl
  exact pss_cons (ps_expr (pe_binit T.e_CaughtError (by rfl) T.g_CaughtError (pa_cons (pv 0) (pa_cons pe_str pa_nil)))) (pss_one (ps_fst (pv 0) (pv 1)))
theorem ok_InvalidChoice___init__ {P : Program} {w : World} {K : PySem.W.Frag} {mg : Str → Option Value} {base : Heap} {a : Ad} (T : Txt K mg a) : FnOk P w K mg base CX0 1 a.f_InvalidChoice___init__ a.d_InvalidChoice___init__ ["self", "value"] (spXI a.c_InvalidChoice "value") := by
  refine T.F_InvalidChoice___init__.ok sc_InvalidChoice___init__ (fun vs H Q E h => ?_) (fun cdv A outer s H vs Q E hr h => ⟨tXI K .ve "value" "not a name for each name parameter", ?_, rd_xi T.e_InvalidChoice rfl h⟩)
  · obtain ⟨_, _, rfl, _⟩ := h
    rfl
  exact pss_cons (ps_expr (pe_binit T.e_CaughtError (by rfl) T.g_CaughtError (pa_cons (pv 0) (pa_cons pe_str pa_nil)))) (pss_one (ps_fst (pv 0) (pv 1)))
theorem ok_InvalidFillings___init__ {P : Program} {w : World} {K : PySem.W.Frag} {mg : Str → Option Value} {base : Heap} {a : Ad} (T : Txt K mg a) : FnOk P w K mg base CX0 1 a.f_InvalidFillings___init__ a.d_InvalidFillings___init__ ["self", "value"] (spXI a.c_InvalidFillings "value") := by
  refine T.F_InvalidFillings___init__.ok sc_InvalidFillings___init__ (fun vs H Q E h => ?_) (fun cdv A outer s H vs Q E hr h => ⟨tXI K .ve "value" "not a term for each hole", ?_, rd_xi T.e_InvalidFillings rfl h⟩)
  · obtain ⟨_, _, rfl, _⟩ := h
    rfl
  exact pss_cons (ps_expr (pe_binit T.e_CaughtError (by rfl) T.g_CaughtError (pa_cons (pv 0) (pa_cons pe_str pa_nil)))) (pss_one (ps_fst (pv 0) (pv 1)))
theorem ok_InvalidSite___init__ {P : Program} {w : World} {K : PySem.W.Frag} {mg : Str → Option Value} {base : Heap} {a : Ad} (T : Txt K mg a) : FnOk P w K mg base CX0 1 a.f_InvalidSite___init__ a.d_InvalidSite___init__ ["self", "value"] (spXI a.c_InvalidSite "value") := by
  refine T.F_InvalidSite___init__.ok sc_InvalidSite___init__ (fun vs H Q E h => ?_) (fun cdv A outer s H vs Q E hr h => ⟨tXI K .ve "value" "not a list of names with terms", ?_, rd_xi T.e_InvalidSite rfl h⟩)
  · obtain ⟨_, _, rfl, _⟩ := h
    rfl
  exact pss_cons (ps_expr (pe_binit T.e_CaughtError (by rfl) T.g_CaughtError (pa_cons (pv 0) (pa_cons pe_str pa_nil)))) (pss_one (ps_fst (pv 0) (pv 1)))
theorem ok_InvalidTables___init__ {P : Program} {w : World} {K : PySem.W.Frag} {mg : Str → Option Value} {base : Heap} {a : Ad} (T : Txt K mg a) : FnOk P w K mg base CX0 1 a.f_InvalidTables___init__ a.d_InvalidTables___init__ ["self", "value"] (spXI a.c_InvalidTables "value") := by
  refine T.F_InvalidTables___init__.ok sc_InvalidTables___init__ (fun vs H Q E h => ?_) (fun cdv A outer s H vs Q E hr h => ⟨tXI K .ve "value" "not a dict of tables", ?_, rd_xi T.e_InvalidTables rfl h⟩)
  · obtain ⟨_, _, rfl, _⟩ := h
    rfl
  exact pss_cons (ps_expr (pe_binit T.e_CaughtError (by rfl) T.g_CaughtError (pa_cons (pv 0) (pa_cons pe_str pa_nil)))) (pss_one (ps_fst (pv 0) (pv 1)))
theorem ok_InvalidMeaning___init__ {P : Program} {w : World} {K : PySem.W.Frag} {mg : Str → Option Value} {base : Heap} {a : Ad} (T : Txt K mg a) : FnOk P w K mg base CX0 1 a.f_InvalidMeaning___init__ a.d_InvalidMeaning___init__ ["self", "value"] (spXI a.c_InvalidMeaning "value") := by
  refine T.F_InvalidMeaning___init__.ok sc_InvalidMeaning___init__ (fun vs H Q E h => ?_) (fun cdv A outer s H vs Q E hr h => ⟨tXI K .ve "value" "not a meaning for these operators", ?_, rd_xi T.e_InvalidMeaning rfl h⟩)
  · obtain ⟨_, _, rfl, _⟩ := h
    rfl
  exact pss_cons (ps_expr (pe_binit T.e_CaughtError (by rfl) T.g_CaughtError (pa_cons (pv 0) (pa_cons pe_str pa_nil)))) (pss_one (ps_fst (pv 0) (pv 1)))
theorem ok_InvalidText___init__ {P : Program} {w : World} {K : PySem.W.Frag} {mg : Str → Option Value} {base : Heap} {a : Ad} (T : Txt K mg a) : FnOk P w K mg base CX0 1 a.f_InvalidText___init__ a.d_InvalidText___init__ ["self", "value"] (spXI a.c_InvalidText "value") := by
  refine T.F_InvalidText___init__.ok sc_InvalidText___init__ (fun vs H Q E h => ?_) (fun cdv A outer s H vs Q E hr h => ⟨tXI K .ve "value" "not the text of such a thing", ?_, rd_xi T.e_InvalidText rfl h⟩)
  · obtain ⟨_, _, rfl, _⟩ := h
    rfl
  exact pss_cons (ps_expr (pe_binit T.e_CaughtError (by rfl) T.g_CaughtError (pa_cons (pv 0) (pa_cons pe_str pa_nil)))) (pss_one (ps_fst (pv 0) (pv 1)))
theorem ok_InvalidLine___init__ {P : Program} {w : World} {K : PySem.W.Frag} {mg : Str → Option Value} {base : Heap} {a : Ad} (T : Txt K mg a) : FnOk P w K mg base CX0 1 a.f_InvalidLine___init__ a.d_InvalidLine___init__ ["self", "value"] (spXI a.c_InvalidLine "value") := by
  refine T.F_InvalidLine___init__.ok sc_InvalidLine___init__ (fun vs H Q E h => ?_) (fun cdv A outer s H vs Q E hr h => ⟨tXI K .ve "value" "not a command", ?_, rd_xi T.e_InvalidLine rfl h⟩)
  · obtain ⟨_, _, rfl, _⟩ := h
    rfl
  exact pss_cons (ps_expr (pe_binit T.e_CaughtError (by rfl) T.g_CaughtError (pa_cons (pv 0) (pa_cons pe_str pa_nil)))) (pss_one (ps_fst (pv 0) (pv 1)))
theorem ok_InvalidLines___init__ {P : Program} {w : World} {K : PySem.W.Frag} {mg : Str → Option Value} {base : Heap} {a : Ad} (T : Txt K mg a) : FnOk P w K mg base CX0 1 a.f_InvalidLines___init__ a.d_InvalidLines___init__ ["self", "value"] (spXI a.c_InvalidLines "value") := by
  refine T.F_InvalidLines___init__.ok sc_InvalidLines___init__ (fun vs H Q E h => ?_) (fun cdv A outer s H vs Q E hr h => ⟨tXI K .ve "value" "not a list of at most 40 commands", ?_, rd_xi T.e_InvalidLines rfl h⟩)
  · obtain ⟨_, _, rfl, _⟩ := h
    rfl
  exact pss_cons (ps_expr (pe_binit T.e_CaughtError (by rfl) T.g_CaughtError (pa_cons (pv 0) (pa_cons pe_str pa_nil)))) (pss_one (ps_fst (pv 0) (pv 1)))
theorem ok_InvalidMode___init__ {P : Program} {w : World} {K : PySem.W.Frag} {mg : Str → Option Value} {base : Heap} {a : Ad} (T : Txt K mg a) : FnOk P w K mg base CX0 1 a.f_InvalidMode___init__ a.d_InvalidMode___init__ ["self", "value"] (spXI a.c_InvalidMode "value") := by
  refine T.F_InvalidMode___init__.ok sc_InvalidMode___init__ (fun vs H Q E h => ?_) (fun cdv A outer s H vs Q E hr h => ⟨tXI K .ve "value" "not one of the modes", ?_, rd_xi T.e_InvalidMode rfl h⟩)
  · obtain ⟨_, _, rfl, _⟩ := h
    rfl
  exact pss_cons (ps_expr (pe_binit T.e_CaughtError (by rfl) T.g_CaughtError (pa_cons (pv 0) (pa_cons pe_str pa_nil)))) (pss_one (ps_fst (pv 0) (pv 1)))
theorem ok_InvalidLetter___init__ {P : Program} {w : World} {K : PySem.W.Frag} {mg : Str → Option Value} {base : Heap} {a : Ad} (T : Txt K mg a) : FnOk P w K mg base CX0 1 a.f_InvalidLetter___init__ a.d_InvalidLetter___init__ ["self", "value"] (spXI a.c_InvalidLetter "value") := by
  refine T.F_InvalidLetter___init__.ok sc_InvalidLetter___init__ (fun vs H Q E h => ?_) (fun cdv A outer s H vs Q E hr h => ⟨tXI K .ve "value" "not a letter", ?_, rd_xi T.e_InvalidLetter rfl h⟩)
  · obtain ⟨_, _, rfl, _⟩ := h
    rfl
  exact pss_cons (ps_expr (pe_binit T.e_CaughtError (by rfl) T.g_CaughtError (pa_cons (pv 0) (pa_cons pe_str pa_nil)))) (pss_one (ps_fst (pv 0) (pv 1)))
theorem ok_UnlikeParameters___init__ {P : Program} {w : World} {K : PySem.W.Frag} {mg : Str → Option Value} {base : Heap} {a : Ad} (T : Txt K mg a) : FnOk P w K mg base CX0 1 a.f_UnlikeParameters___init__ a.d_UnlikeParameters___init__ ["self", "value"] (spXI a.c_UnlikeParameters "value") := by
  refine T.F_UnlikeParameters___init__.ok sc_UnlikeParameters___init__ (fun vs H Q E h => ?_) (fun cdv A outer s H vs Q E hr h => ⟨tXI K .ve "value" "the two templates have different parameters", ?_, rd_xi T.e_UnlikeParameters rfl h⟩)
  · obtain ⟨_, _, rfl, _⟩ := h
    rfl
  exact pss_cons (ps_expr (pe_binit T.e_CaughtError (by rfl) T.g_CaughtError (pa_cons (pv 0) (pa_cons pe_str pa_nil)))) (pss_one (ps_fst (pv 0) (pv 1)))
theorem ok_Duplicate___init__ {P : Program} {w : World} {K : PySem.W.Frag} {mg : Str → Option Value} {base : Heap} {a : Ad} (T : Txt K mg a) : FnOk P w K mg base CX0 1 a.f_Duplicate___init__ a.d_Duplicate___init__ ["self", "name"] (spXI a.c_Duplicate "name") := by
  refine T.F_Duplicate___init__.ok sc_Duplicate___init__ (fun vs H Q E h => ?_) (fun cdv A outer s H vs Q E hr h => ⟨tXI K .ve "name" "two templates have one name", ?_, rd_xi T.e_Duplicate rfl h⟩)
  · obtain ⟨_, _, rfl, _⟩ := h
    rfl
  exact pss_cons (ps_expr (pe_binit T.e_CaughtError (by rfl) T.g_CaughtError (pa_cons (pv 0) (pa_cons pe_str pa_nil)))) (pss_one (ps_fst (pv 0) (pv 1)))
theorem ok_Reserved___init__ {P : Program} {w : World} {K : PySem.W.Frag} {mg : Str → Option Value} {base : Heap} {a : Ad} (T : Txt K mg a) : FnOk P w K mg base CX0 1 a.f_Reserved___init__ a.d_Reserved___init__ ["self", "name"] (spXI a.c_Reserved "name") := by
  refine T.F_Reserved___init__.ok sc_Reserved___init__ (fun vs H Q E h => ?_) (fun cdv A outer s H vs Q E hr h => ⟨tXI K .ve "name" "a name of the book begins with the letter", ?_, rd_xi T.e_Reserved rfl h⟩)
  · obtain ⟨_, _, rfl, _⟩ := h
    rfl
  exact pss_cons (ps_expr (pe_binit T.e_CaughtError (by rfl) T.g_CaughtError (pa_cons (pv 0) (pa_cons pe_str pa_nil)))) (pss_one (ps_fst (pv 0) (pv 1)))
theorem ok_TooLarge___init__ {P : Program} {w : World} {K : PySem.W.Frag} {mg : Str → Option Value} {base : Heap} {a : Ad} (T : Txt K mg a) : FnOk P w K mg base CX0 1 a.f_TooLarge___init__ a.d_TooLarge___init__ ["self", "count"] (spXI a.c_TooLarge "count") := by
  refine T.F_TooLarge___init__.ok sc_TooLarge___init__ (fun vs H Q E h => ?_) (fun cdv A outer s H vs Q E hr h => ⟨tXI K .ve "count" "larger than is allowed", ?_, rd_xi T.e_TooLarge rfl h⟩)
  · obtain ⟨_, _, rfl, _⟩ := h
    rfl
  exact pss_cons (ps_expr (pe_binit T.e_CaughtError (by rfl) T.g_CaughtError (pa_cons (pv 0) (pa_cons pe_str pa_nil)))) (pss_one (ps_fst (pv 0) (pv 1)))
theorem ok_InvalidRow___init__ {P : Program} {w : World} {K : PySem.W.Frag} {mg : Str → Option Value} {base : Heap} {a : Ad} (T : Txt K mg a) : FnOk P w K mg base CX0 1 a.f_InvalidRow___init__ a.d_InvalidRow___init__ ["self", "index"] (spXI a.c_InvalidRow "index") := by
  refine T.F_InvalidRow___init__.ok sc_InvalidRow___init__ (fun vs H Q E h => ?_) (fun cdv A outer s H vs Q E hr h => ⟨tXI K .ve "index" "a line is not the text of a template that fits the lines before it", ?_, rd_xi T.e_InvalidRow rfl h⟩)
  · obtain ⟨_, _, rfl, _⟩ := h
    rfl
  exact pss_cons (ps_expr (pe_binit T.e_CaughtError (by rfl) T.g_CaughtError (pa_cons (pv 0) (pa_cons pe_str pa_nil)))) (pss_one (ps_fst (pv 0) (pv 1)))
theorem ok_UnknownTemplate___init__ {P : Program} {w : World} {K : PySem.W.Frag} {mg : Str → Option Value} {base : Heap} {a : Ad} (T : Txt K mg a) : FnOk P w K mg base CX0 1 a.f_UnknownTemplate___init__ a.d_UnknownTemplate___init__ ["self", "name"] (spXI a.c_UnknownTemplate "name") := by
  refine T.F_UnknownTemplate___init__.ok sc_UnknownTemplate___init__ (fun vs H Q E h => ?_) (fun cdv A outer s H vs Q E hr h => ⟨tXI K .ke "name" "there is no such template", ?_, rd_xi T.e_UnknownTemplate rfl h⟩)
  · obtain ⟨_, _, rfl, _⟩ := h
    rfl
  exact pss_cons (ps_expr (pe_binit T.e_AbsentError (by rfl) T.g_AbsentError (pa_cons (pv 0) (pa_cons pe_str pa_nil)))) (pss_one (ps_fst (pv 0) (pv 1)))
theorem ok_UnknownHole___init__ {P : Program} {w : World} {K : PySem.W.Frag} {mg : Str → Option Value} {base : Heap} {a : Ad} (T : Txt K mg a) : FnOk P w K mg base CX0 1 a.f_UnknownHole___init__ a.d_UnknownHole___init__ ["self", "name"] (spXI a.c_UnknownHole "name") := by
  refine T.F_UnknownHole___init__.ok sc_UnknownHole___init__ (fun vs H Q E h => ?_) (fun cdv A outer s H vs Q E hr h => ⟨tXI K .ke "name" "the template has no such hole", ?_, rd_xi T.e_UnknownHole rfl h⟩)
  · obtain ⟨_, _, rfl, _⟩ := h
    rfl
  exact pss_cons (ps_expr (pe_binit T.e_AbsentError (by rfl) T.g_AbsentError (pa_cons (pv 0) (pa_cons pe_str pa_nil)))) (pss_one (ps_fst (pv 0) (pv 1)))
theorem ok_UnknownBinder___init__ {P : Program} {w : World} {K : PySem.W.Frag} {mg : Str → Option Value} {base : Heap} {a : Ad} (T : Txt K mg a) : FnOk P w K mg base CX0 1 a.f_UnknownBinder___init__ a.d_UnknownBinder___init__ ["self", "number"] (spXI a.c_UnknownBinder "number") := by
  refine T.F_UnknownBinder___init__.ok sc_UnknownBinder___init__ (fun vs H Q E h => ?_) (fun cdv A outer s H vs Q E hr h => ⟨tXI K .ke "number" "the term has no such binder", ?_, rd_xi T.e_UnknownBinder rfl h⟩)
  · obtain ⟨_, _, rfl, _⟩ := h
    rfl
  exact pss_cons (ps_expr (pe_binit T.e_AbsentError (by rfl) T.g_AbsentError (pa_cons (pv 0) (pa_cons pe_str pa_nil)))) (pss_one (ps_fst (pv 0) (pv 1)))
theorem ok_StillCalled___init__ {P : Program} {w : World} {K : PySem.W.Frag} {mg : Str → Option Value} {base : Heap} {a : Ad} (T : Txt K mg a) : FnOk P w K mg base CX0 1 a.f_StillCalled___init__ a.d_StillCalled___init__ ["self", "name"] (spXI a.c_StillCalled "name") := by
  refine T.F_StillCalled___init__.ok sc_StillCalled___init__ (fun vs H Q E h => ?_) (fun cdv A outer s H vs Q E hr h => ⟨tXI K .le "name" "another template calls this one", ?_, rd_xi T.e_StillCalled rfl h⟩)
  · obtain ⟨_, _, rfl, _⟩ := h
    rfl
  exact pss_cons (ps_expr (pe_binit T.e_StateError (by rfl) T.g_StateError (pa_cons (pv 0) (pa_cons pe_str pa_nil)))) (pss_one (ps_fst (pv 0) (pv 1)))
theorem ok_NothingToUndo___init__ {P : Program} {w : World} {K : PySem.W.Frag} {mg : Str → Option Value} {base : Heap} {a : Ad} (T : Txt K mg a) : FnOk P w K mg base CX0 1 a.f_NothingToUndo___init__ a.d_NothingToUndo___init__ ["self"] (spX0 a.c_NothingToUndo) := by
  refine T.F_NothingToUndo___init__.ok sc_NothingToUndo___init__ (fun vs H Q E h => ?_) (fun cdv A outer s H vs Q E hr h => ⟨tX0 K .le "there is no edit to take back", ?_, rd_x0 T.ox_NothingToUndo rfl h⟩)
  · obtain ⟨_, rfl, _⟩ := h
    rfl
  exact pss_one (ps_expr (pe_binit T.e_StateError (by rfl) T.g_StateError (pa_cons (pv 0) (pa_cons pe_str pa_nil))))
theorem ok_NothingToRedo___init__ {P : Program} {w : World} {K : PySem.W.Frag} {mg : Str → Option Value} {base : Heap} {a : Ad} (T : Txt K mg a) : FnOk P w K mg base CX0 1 a.f_NothingToRedo___init__ a.d_NothingToRedo___init__ ["self"] (spX0 a.c_NothingToRedo) := by
  refine T.F_NothingToRedo___init__.ok sc_NothingToRedo___init__ (fun vs H Q E h => ?_) (fun cdv A outer s H vs Q E hr h => ⟨tX0 K .le "there is no edit to do again", ?_, rd_x0 T.ox_NothingToRedo rfl h⟩)
  · obtain ⟨_, rfl, _⟩ := h
    rfl
  exact pss_one (ps_expr (pe_binit T.e_StateError (by rfl) T.g_StateError (pa_cons (pv 0) (pa_cons pe_str pa_nil))))
end K03

set_option Elab.async false
set_option linter.all false
set_option maxRecDepth 100000
set_option maxHeartbeats 4000000
namespace K03
open PySem PySem.Spec PyProof.Rows L2 CN Evl
def G0 : List (Str × Str) := [(("InvalidName" : Str), ("value" : Str)), (("InvalidTerm" : Str), ("value" : Str)), (("InvalidBody" : Str), ("value" : Str)), (("InvalidProgram" : Str), ("value" : Str))]
def G1 : List (Str × Str) := [(("InvalidParameters" : Str), ("value" : Str)), (("InvalidTemplate" : Str), ("value" : Str)), (("InvalidCall" : Str), ("value" : Str)), (("InvalidBook" : Str), ("value" : Str))]
def G2 : List (Str × Str) := [(("InvalidChoice" : Str), ("value" : Str)), (("InvalidFillings" : Str), ("value" : Str)), (("InvalidSite" : Str), ("value" : Str)), (("InvalidTables" : Str), ("value" : Str))]
def G3 : List (Str × Str) := [(("InvalidMeaning" : Str), ("value" : Str)), (("InvalidText" : Str), ("value" : Str)), (("InvalidLine" : Str), ("value" : Str)), (("InvalidLines" : Str), ("value" : Str))]
def G4 : List (Str × Str) := [(("InvalidMode" : Str), ("value" : Str)), (("InvalidLetter" : Str), ("value" : Str)), (("UnlikeParameters" : Str), ("value" : Str)), (("Duplicate" : Str), ("name" : Str))]
def G5 : List (Str × Str) := [(("Reserved" : Str), ("name" : Str)), (("TooLarge" : Str), ("count" : Str)), (("InvalidRow" : Str), ("index" : Str)), (("UnknownTemplate" : Str), ("name" : Str))]
def G6 : List (Str × Str) := [(("UnknownHole" : Str), ("name" : Str)), (("UnknownBinder" : Str), ("number" : Str)), (("StillCalled" : Str), ("name" : Str))]
def cfs : List (Str × Str) := G0 ++ G1 ++ G2 ++ G3 ++ G4 ++ G5 ++ G6
def XN : List Str := cfs.map Prod.fst ++ ([("NothingToUndo" : Str), ("NothingToRedo" : Str)] : List Str)
def Old (μ μ' : Mem) : Prop := ∀ a m, μ a = some m → μ' a = some m
theorem Old.refl {μ : Mem} : Old μ μ := fun _ _ h => h
theorem Old.trans {μ μ1 μ2 : Mem} (h : Old μ μ1) (k : Old μ1 μ2) : Old μ μ2 := fun a m e => k a m (h a m e)
theorem Old.put {μ : Mem} {p : Addr} {m : MO} (h : μ p = none) : Old μ (put μ p m) := fun a x e => by
  rw [put_ne (fun z => by rw [z, h] at e; cases e)]
  exact e
theorem Old.none {μ μ' : Mem} (h : Old μ μ') {p : Addr} (e : μ' p = none) : μ p = none := by
  cases e0 : μ p with
  | none => rfl
  | some m =>
    have := h p m e0
    rw [e] at this
    cases this
def News (x : UV) (μ μ' : Mem) (cf : List (Str × Str)) (ps : List Addr) : Prop := Paired (fun q p => μ p = none ∧ μ' p = some (.exn q.1 [(q.2, x)])) cf ps
theorem News.to {x : UV} {μ0 μ μ1 μ2 : Mem} {cf : List (Str × Str)} {ps : List Addr} (h : News x μ μ1 cf ps) (h0 : Old μ0 μ) (k : Old μ1 μ2) : News x μ0 μ2 cf ps := pmap h fun q p e => ⟨h0.none e.1, k _ _ e.2⟩
def mkArgs : List (Str × Str) → UA
  | [] => uNil
  | q :: r => uCons (uMkX q.1 q.2 (uCons (uVar 0) uNil)) (mkArgs r)
theorem mk_args {x : UV} {ρ : Rho} (h0 : ρ[0]? = some (some x)) : ∀ (cf : List (Str × Str)) (μ : Mem) (R : List UV → Mem → Prop), (∀ ps μ', Old μ μ' → News x μ μ' cf ps → R (ps.map UV.ref) μ') → mkArgs cf ρ μ R
  | [], μ, R, q => q [] μ Old.refl .nil
  | (c, f) :: cf, μ, R, q => by
    unfold mkArgs
    simp only [uCons, uMkX, uVar, h0, uNil]
    intro p hp
    refine mk_args h0 cf _ _ fun ps μ' ho hn => ?_
    exact q (p :: ps) μ' ((Old.put hp).trans ho) (.cons ⟨hp, ho _ _ put_same⟩ (hn.to (Old.put hp) Old.refl))
def sp__law_made : USp := fun us μ R _ => ∃ x, us = [x] ∧ ∀ l ps μ', Old μ μ' → μ l = none → μ' l = some (.lst (ps.map UV.ref)) → News x μ μ' cfs ps → R (.ref l) μ'
theorem ln__law_made (us : List UV) (μ : Mem) (R : UK) (X : UX) (h : sp__law_made us μ R X) : us.length = 1 := by
  obtain ⟨_, rfl, _⟩ := h
  rfl
theorem paired_appP {α β : Type} {F : α → β → Prop} : ∀ {a1 : List α} {b1 : List β} {a2 : List α} {b2 : List β}, Paired F a1 b1 → Paired F a2 b2 → Paired F (a1 ++ a2) (b1 ++ b2)
  | _, _, _, _, .nil, h => h
  | _, _, _, _, .cons x t, h => .cons x (paired_appP t h)
def t__law_made (K : PySem.W.Frag) (a : Ad) : TS :=
  (tSeq (tAsg (tLstG (tCons (tMkX a.c_InvalidName "value" (tCons (tVar 0) tNil)) (tCons (tMkX a.c_InvalidTerm "value" (tCons (tVar 0) tNil)) (tCons (tMkX a.c_InvalidBody "value" (tCons (tVar 0) tNil)) (tCons (tMkX a.c_InvalidProgram "value" (tCons (tVar 0) tNil)) tNil))))) (gName 1))
  (tSeq (tAsg (tOp (rAddW K) (tVar 1) (tLstG (tCons (tMkX a.c_InvalidParameters "value" (tCons (tVar 0) tNil)) (tCons (tMkX a.c_InvalidTemplate "value" (tCons (tVar 0) tNil)) (tCons (tMkX a.c_InvalidCall "value" (tCons (tVar 0) tNil)) (tCons (tMkX a.c_InvalidBook "value" (tCons (tVar 0) tNil)) tNil)))))) (gName 1))
  (tSeq (tAsg (tOp (rAddW K) (tVar 1) (tLstG (tCons (tMkX a.c_InvalidChoice "value" (tCons (tVar 0) tNil)) (tCons (tMkX a.c_InvalidFillings "value" (tCons (tVar 0) tNil)) (tCons (tMkX a.c_InvalidSite "value" (tCons (tVar 0) tNil)) (tCons (tMkX a.c_InvalidTables "value" (tCons (tVar 0) tNil)) tNil)))))) (gName 1))
  (tSeq (tAsg (tOp (rAddW K) (tVar 1) (tLstG (tCons (tMkX a.c_InvalidMeaning "value" (tCons (tVar 0) tNil)) (tCons (tMkX a.c_InvalidText "value" (tCons (tVar 0) tNil)) (tCons (tMkX a.c_InvalidLine "value" (tCons (tVar 0) tNil)) (tCons (tMkX a.c_InvalidLines "value" (tCons (tVar 0) tNil)) tNil)))))) (gName 1))
  (tSeq (tAsg (tOp (rAddW K) (tVar 1) (tLstG (tCons (tMkX a.c_InvalidMode "value" (tCons (tVar 0) tNil)) (tCons (tMkX a.c_InvalidLetter "value" (tCons (tVar 0) tNil)) (tCons (tMkX a.c_UnlikeParameters "value" (tCons (tVar 0) tNil)) (tCons (tMkX a.c_Duplicate "name" (tCons (tVar 0) tNil)) tNil)))))) (gName 1))
  (tSeq (tAsg (tOp (rAddW K) (tVar 1) (tLstG (tCons (tMkX a.c_Reserved "name" (tCons (tVar 0) tNil)) (tCons (tMkX a.c_TooLarge "count" (tCons (tVar 0) tNil)) (tCons (tMkX a.c_InvalidRow "index" (tCons (tVar 0) tNil)) (tCons (tMkX a.c_UnknownTemplate "name" (tCons (tVar 0) tNil)) tNil)))))) (gName 1))
  (tSeq (tAsg (tOp (rAddW K) (tVar 1) (tLstG (tCons (tMkX a.c_UnknownHole "name" (tCons (tVar 0) tNil)) (tCons (tMkX a.c_UnknownBinder "number" (tCons (tVar 0) tNil)) (tCons (tMkX a.c_StillCalled "name" (tCons (tVar 0) tNil)) tNil))))) (gName 1))
  (tRet (tVar 1)))))))))
def u__law_made : US :=
  (uSeq (uAsg (uLstM (uCons (uMkX "InvalidName" "value" (uCons (uVar 0) uNil)) (uCons (uMkX "InvalidTerm" "value" (uCons (uVar 0) uNil)) (uCons (uMkX "InvalidBody" "value" (uCons (uVar 0) uNil)) (uCons (uMkX "InvalidProgram" "value" (uCons (uVar 0) uNil)) uNil))))) (gNameU 1))
  (uSeq (uAsg (uCatM (uVar 1) (uLstM (uCons (uMkX "InvalidParameters" "value" (uCons (uVar 0) uNil)) (uCons (uMkX "InvalidTemplate" "value" (uCons (uVar 0) uNil)) (uCons (uMkX "InvalidCall" "value" (uCons (uVar 0) uNil)) (uCons (uMkX "InvalidBook" "value" (uCons (uVar 0) uNil)) uNil)))))) (gNameU 1))
  (uSeq (uAsg (uCatM (uVar 1) (uLstM (uCons (uMkX "InvalidChoice" "value" (uCons (uVar 0) uNil)) (uCons (uMkX "InvalidFillings" "value" (uCons (uVar 0) uNil)) (uCons (uMkX "InvalidSite" "value" (uCons (uVar 0) uNil)) (uCons (uMkX "InvalidTables" "value" (uCons (uVar 0) uNil)) uNil)))))) (gNameU 1))
  (uSeq (uAsg (uCatM (uVar 1) (uLstM (uCons (uMkX "InvalidMeaning" "value" (uCons (uVar 0) uNil)) (uCons (uMkX "InvalidText" "value" (uCons (uVar 0) uNil)) (uCons (uMkX "InvalidLine" "value" (uCons (uVar 0) uNil)) (uCons (uMkX "InvalidLines" "value" (uCons (uVar 0) uNil)) uNil)))))) (gNameU 1))
  (uSeq (uAsg (uCatM (uVar 1) (uLstM (uCons (uMkX "InvalidMode" "value" (uCons (uVar 0) uNil)) (uCons (uMkX "InvalidLetter" "value" (uCons (uVar 0) uNil)) (uCons (uMkX "UnlikeParameters" "value" (uCons (uVar 0) uNil)) (uCons (uMkX "Duplicate" "name" (uCons (uVar 0) uNil)) uNil)))))) (gNameU 1))
  (uSeq (uAsg (uCatM (uVar 1) (uLstM (uCons (uMkX "Reserved" "name" (uCons (uVar 0) uNil)) (uCons (uMkX "TooLarge" "count" (uCons (uVar 0) uNil)) (uCons (uMkX "InvalidRow" "index" (uCons (uVar 0) uNil)) (uCons (uMkX "UnknownTemplate" "name" (uCons (uVar 0) uNil)) uNil)))))) (gNameU 1))
  (uSeq (uAsg (uCatM (uVar 1) (uLstM (uCons (uMkX "UnknownHole" "name" (uCons (uVar 0) uNil)) (uCons (uMkX "UnknownBinder" "number" (uCons (uVar 0) uNil)) (uCons (uMkX "StillCalled" "name" (uCons (uVar 0) uNil)) uNil))))) (gNameU 1))
  (uRet (uVar 1)))))))))
theorem S__law_made {K : PySem.W.Frag} {mg : Str → Option Value} {a : Ad} (T : Txt K mg a) : SS K L0 (t__law_made K a) (u__law_made) :=
  (ss_seq (ss_asg (se_lstM (sa_cons (se_mkX T.xv_InvalidName.ns T.e_InvalidName.toExF (sa_cons se_var sa_nil)) (sa_cons (se_mkX T.xv_InvalidTerm.ns T.e_InvalidTerm.toExF (sa_cons se_var sa_nil)) (sa_cons (se_mkX T.xv_InvalidBody.ns T.e_InvalidBody.toExF (sa_cons se_var sa_nil)) (sa_cons (se_mkX T.xv_InvalidProgram.ns T.e_InvalidProgram.toExF (sa_cons se_var sa_nil)) sa_nil))))) (sg_name (vs := [1]) (by decide)))
    (ss_seq (ss_asg (se_catM se_var (se_lstM (sa_cons (se_mkX T.xv_InvalidParameters.ns T.e_InvalidParameters.toExF (sa_cons se_var sa_nil)) (sa_cons (se_mkX T.xv_InvalidTemplate.ns T.e_InvalidTemplate.toExF (sa_cons se_var sa_nil)) (sa_cons (se_mkX T.xv_InvalidCall.ns T.e_InvalidCall.toExF (sa_cons se_var sa_nil)) (sa_cons (se_mkX T.xv_InvalidBook.ns T.e_InvalidBook.toExF (sa_cons se_var sa_nil)) sa_nil)))))) (sg_name (vs := [1]) (by decide)))
    (ss_seq (ss_asg (se_catM se_var (se_lstM (sa_cons (se_mkX T.xv_InvalidChoice.ns T.e_InvalidChoice.toExF (sa_cons se_var sa_nil)) (sa_cons (se_mkX T.xv_InvalidFillings.ns T.e_InvalidFillings.toExF (sa_cons se_var sa_nil)) (sa_cons (se_mkX T.xv_InvalidSite.ns T.e_InvalidSite.toExF (sa_cons se_var sa_nil)) (sa_cons (se_mkX T.xv_InvalidTables.ns T.e_InvalidTables.toExF (sa_cons se_var sa_nil)) sa_nil)))))) (sg_name (vs := [1]) (by decide)))
    (ss_seq (ss_asg (se_catM se_var (se_lstM (sa_cons (se_mkX T.xv_InvalidMeaning.ns T.e_InvalidMeaning.toExF (sa_cons se_var sa_nil)) (sa_cons (se_mkX T.xv_InvalidText.ns T.e_InvalidText.toExF (sa_cons se_var sa_nil)) (sa_cons (se_mkX T.xv_InvalidLine.ns T.e_InvalidLine.toExF (sa_cons se_var sa_nil)) (sa_cons (se_mkX T.xv_InvalidLines.ns T.e_InvalidLines.toExF (sa_cons se_var sa_nil)) sa_nil)))))) (sg_name (vs := [1]) (by decide)))
    (ss_seq (ss_asg (se_catM se_var (se_lstM (sa_cons (se_mkX T.xv_InvalidMode.ns T.e_InvalidMode.toExF (sa_cons se_var sa_nil)) (sa_cons (se_mkX T.xv_InvalidLetter.ns T.e_InvalidLetter.toExF (sa_cons se_var sa_nil)) (sa_cons (se_mkX T.xv_UnlikeParameters.ns T.e_UnlikeParameters.toExF (sa_cons se_var sa_nil)) (sa_cons (se_mkX T.xv_Duplicate.ns T.e_Duplicate.toExF (sa_cons se_var sa_nil)) sa_nil)))))) (sg_name (vs := [1]) (by decide)))
    (ss_seq (ss_asg (se_catM se_var (se_lstM (sa_cons (se_mkX T.xv_Reserved.ns T.e_Reserved.toExF (sa_cons se_var sa_nil)) (sa_cons (se_mkX T.xv_TooLarge.ns T.e_TooLarge.toExF (sa_cons se_var sa_nil)) (sa_cons (se_mkX T.xv_InvalidRow.ns T.e_InvalidRow.toExF (sa_cons se_var sa_nil)) (sa_cons (se_mkX T.xv_UnknownTemplate.ns T.e_UnknownTemplate.toExF (sa_cons se_var sa_nil)) sa_nil)))))) (sg_name (vs := [1]) (by decide)))
    (ss_seq (ss_asg (se_catM se_var (se_lstM (sa_cons (se_mkX T.xv_UnknownHole.ns T.e_UnknownHole.toExF (sa_cons se_var sa_nil)) (sa_cons (se_mkX T.xv_UnknownBinder.ns T.e_UnknownBinder.toExF (sa_cons se_var sa_nil)) (sa_cons (se_mkX T.xv_StillCalled.ns T.e_StillCalled.toExF (sa_cons se_var sa_nil)) sa_nil))))) (sg_name (vs := [1]) (by decide)))
    (ss_ret se_var))))))))
theorem cat_step {x : UV} {μ μ1 : Mem} {l : Addr} {ps : List Addr} {cf : List (Str × Str)} {R : UK} (ho : Old μ μ1) (hl0 : μ l = none) (hl : μ1 l = some (.lst (ps.map UV.ref))) (hn : News x μ μ1 cf ps) (hz : cf.length ≤ 100) (G : List (Str × Str)) (hg : G.length ≤ 10)
    (q : ∀ l' ps' μ', Old μ μ' → μ l' = none → μ' l' = some (.lst (ps'.map UV.ref)) → News x μ μ' (cf ++ G) ps' → R (.ref l') μ') : uCatM (uVar 1) (uLstM (mkArgs G)) [some x, some (.ref l)] μ1 R := by
  unfold uCatM uVar
  show uLstM (mkArgs G) [some x, some (.ref l)] μ1 _
  refine mk_args (x := x) rfl G μ1 _ fun ps2 μ2 h2 n2 => ⟨by rw [List.length_map, ← n2.length]; omega, fun p hp => ?_⟩
  have e1 : put μ2 p (.lst (ps2.map UV.ref)) l = some (.lst (ps.map UV.ref)) := Old.put hp _ _ (h2 _ _ hl)
  show match itemsL (put μ2 p (.lst (ps2.map UV.ref))) (.ref l) with | some us => _ | none => False
  have i1 : itemsL (put μ2 p (.lst (ps2.map UV.ref))) (.ref l) = some (ps.map UV.ref) := by
    show (match put μ2 p (.lst (ps2.map UV.ref)) l with | some (.lst us) => some us | _ => none) = _
    rw [e1]
  have i2 : itemsL (put μ2 p (.lst (ps2.map UV.ref))) (.ref p) = some (ps2.map UV.ref) := by
    show (match put μ2 p (.lst (ps2.map UV.ref)) p with | some (.lst us) => some us | _ => none) = _
    rw [put_same]
  rw [i1, i2]
  refine ⟨by rw [List.length_map, List.length_map, ← n2.length, ← hn.length]; omega, fun s hs => ?_⟩
  have o3 : Old μ2 (put (put μ2 p (.lst (ps2.map UV.ref))) s (.lst (ps.map UV.ref ++ ps2.map UV.ref))) := (Old.put hp).trans (Old.put hs)
  have n0 : μ s = none := by
    cases e0 : μ s with
    | none => rfl
    | some m =>
      have := (Old.put (m := .lst (ps2.map UV.ref)) hp) _ _ (h2 _ _ (ho _ _ e0))
      rw [hs] at this
      cases this
  refine q s (ps ++ ps2) _ ((ho.trans h2).trans o3) n0 (by rw [put_same, List.map_append]) ?_
  exact paired_appP (hn.to Old.refl (h2.trans o3)) (n2.to ho o3)
theorem rdu__law_made (us : List UV) (μ : Mem) (R : UK) (X : UX) (h : sp__law_made us μ R X) : u__law_made (endU R) (startU 2 us) μ := by
  obtain ⟨x, rfl, q⟩ := h
  unfold u__law_made
  refine seq_step fun K hK => ?_
  refine mk_args (x := x) rfl G0 μ _ fun ps μ1 o1 n1 => ⟨by rw [List.length_map, ← n1.length]; decide, fun l hl => ?_⟩
  have hl0 : μ l = none := by
    cases e0 : μ l with
    | none => rfl
    | some m =>
      have := o1 _ _ e0
      rw [hl] at this
      cases this
  have st := o1.trans (Old.put (m := .lst (ps.map UV.ref)) hl)
  have e1 : put μ1 l (.lst (ps.map UV.ref)) l = some (.lst (ps.map UV.ref)) := put_same
  have n2 := n1.to (μ0 := μ) Old.refl (Old.put (m := .lst (ps.map UV.ref)) hl)
  generalize put μ1 l (.lst (ps.map UV.ref)) = μ2 at st e1 n2
  show K [some x, some (.ref l)] μ2
  rw [hK]
  clear hK
  refine seq_step fun K hK => ?_
  refine cat_step st hl0 e1 n2 (by decide) G1 (by decide) fun l ps μ2 st hl0 e1 n2 => ?_
  show K [some x, some (.ref l)] μ2
  rw [hK]
  clear hK
  refine seq_step fun K hK => ?_
  refine cat_step st hl0 e1 n2 (by decide) G2 (by decide) fun l ps μ2 st hl0 e1 n2 => ?_
  show K [some x, some (.ref l)] μ2
  rw [hK]
  clear hK
  refine seq_step fun K hK => ?_
  refine cat_step st hl0 e1 n2 (by decide) G3 (by decide) fun l ps μ2 st hl0 e1 n2 => ?_
  show K [some x, some (.ref l)] μ2
  rw [hK]
  clear hK
  refine seq_step fun K hK => ?_
  refine cat_step st hl0 e1 n2 (by decide) G4 (by decide) fun l ps μ2 st hl0 e1 n2 => ?_
  show K [some x, some (.ref l)] μ2
  rw [hK]
  clear hK
  refine seq_step fun K hK => ?_
  refine cat_step st hl0 e1 n2 (by decide) G5 (by decide) fun l ps μ2 st hl0 e1 n2 => ?_
  show K [some x, some (.ref l)] μ2
  rw [hK]
  clear hK
  refine seq_step fun K hK => ?_
  refine cat_step st hl0 e1 n2 (by decide) G6 (by decide) fun l ps μ2 st hl0 e1 n2 => ?_
  show K [some x, some (.ref l)] μ2
  rw [hK]
  clear hK
  exact fin_of Wk.refl (q l ps μ2 st hl0 e1 n2)
theorem ok__law_made {P : Program} {w : World} {K : PySem.W.Frag} {mg : Str → Option Value} {base : Heap} {a : Ad} (T : Txt K mg a) : FnOk P w K mg base CX0 3 a.f__law_made a.d__law_made ["_law_value_here"] (lift K sp__law_made) := by
  have G_Duplicate___init__ := ok_Duplicate___init__ (P := P) (w := w) (base := base) T
  have G_InvalidBody___init__ := ok_InvalidBody___init__ (P := P) (w := w) (base := base) T
  have G_InvalidBook___init__ := ok_InvalidBook___init__ (P := P) (w := w) (base := base) T
  have G_InvalidCall___init__ := ok_InvalidCall___init__ (P := P) (w := w) (base := base) T
  have G_InvalidChoice___init__ := ok_InvalidChoice___init__ (P := P) (w := w) (base := base) T
  have G_InvalidFillings___init__ := ok_InvalidFillings___init__ (P := P) (w := w) (base := base) T
  have G_InvalidLetter___init__ := ok_InvalidLetter___init__ (P := P) (w := w) (base := base) T
  have G_InvalidLine___init__ := ok_InvalidLine___init__ (P := P) (w := w) (base := base) T
  have G_InvalidLines___init__ := ok_InvalidLines___init__ (P := P) (w := w) (base := base) T
  have G_InvalidMeaning___init__ := ok_InvalidMeaning___init__ (P := P) (w := w) (base := base) T
  have G_InvalidMode___init__ := ok_InvalidMode___init__ (P := P) (w := w) (base := base) T
  have G_InvalidName___init__ := ok_InvalidName___init__ (P := P) (w := w) (base := base) T
  have G_InvalidParameters___init__ := ok_InvalidParameters___init__ (P := P) (w := w) (base := base) T
  have G_InvalidProgram___init__ := ok_InvalidProgram___init__ (P := P) (w := w) (base := base) T
  have G_InvalidRow___init__ := ok_InvalidRow___init__ (P := P) (w := w) (base := base) T
  have G_InvalidSite___init__ := ok_InvalidSite___init__ (P := P) (w := w) (base := base) T
  have G_InvalidTables___init__ := ok_InvalidTables___init__ (P := P) (w := w) (base := base) T
  have G_InvalidTemplate___init__ := ok_InvalidTemplate___init__ (P := P) (w := w) (base := base) T
  have G_InvalidTerm___init__ := ok_InvalidTerm___init__ (P := P) (w := w) (base := base) T
  have G_InvalidText___init__ := ok_InvalidText___init__ (P := P) (w := w) (base := base) T
  have G_Reserved___init__ := ok_Reserved___init__ (P := P) (w := w) (base := base) T
  have G_StillCalled___init__ := ok_StillCalled___init__ (P := P) (w := w) (base := base) T
  have G_TooLarge___init__ := ok_TooLarge___init__ (P := P) (w := w) (base := base) T
  have G_UnknownBinder___init__ := ok_UnknownBinder___init__ (P := P) (w := w) (base := base) T
  have G_UnknownHole___init__ := ok_UnknownHole___init__ (P := P) (w := w) (base := base) T
  have G_UnknownTemplate___init__ := ok_UnknownTemplate___init__ (P := P) (w := w) (base := base) T
  have G_UnlikeParameters___init__ := ok_UnlikeParameters___init__ (P := P) (w := w) (base := base) T
  refine T.F__law_made.ok sc__law_made (fun vs H Q E h => len_of ln__law_made h) (fun cdv A outer s H vs Q E hr h => ⟨t__law_made K a, ?_, CN.rd_of rfl (S__law_made T) rdu__law_made h⟩)
  exact (pss_cons (ps_set (i := 1) sc__law_made.nd rfl (Or.inl rfl) (pe_lstG (pa_cons (pe_mkX T.e_InvalidName.ox T.i_InvalidName___init__ T.ty_InvalidName___init__ G_InvalidName___init__ (hr.mono (by first | decide | omega)) T.bi_InvalidName___init__ pass0 (by rfl) T.g_InvalidName (pa_cons (pv 0) pa_nil)) (pa_cons (pe_mkX T.e_InvalidTerm.ox T.i_InvalidTerm___init__ T.ty_InvalidTerm___init__ G_InvalidTerm___init__ (hr.mono (by first | decide | omega)) T.bi_InvalidTerm___init__ pass0 (by rfl) T.g_InvalidTerm (pa_cons (pv 0) pa_nil)) (pa_cons (pe_mkX T.e_InvalidBody.ox T.i_InvalidBody___init__ T.ty_InvalidBody___init__ G_InvalidBody___init__ (hr.mono (by first | decide | omega)) T.bi_InvalidBody___init__ pass0 (by rfl) T.g_InvalidBody (pa_cons (pv 0) pa_nil)) (pa_cons (pe_mkX T.e_InvalidProgram.ox T.i_InvalidProgram___init__ T.ty_InvalidProgram___init__ G_InvalidProgram___init__ (hr.mono (by first | decide | omega)) T.bi_InvalidProgram___init__ pass0 (by rfl) T.g_InvalidProgram (pa_cons (pv 0) pa_nil)) pa_nil))))))
      (pss_cons (ps_set (i := 1) sc__law_made.nd rfl (Or.inl rfl) (pe_op op_addW (pv 1) (pe_lstG (pa_cons (pe_mkX T.e_InvalidParameters.ox T.i_InvalidParameters___init__ T.ty_InvalidParameters___init__ G_InvalidParameters___init__ (hr.mono (by first | decide | omega)) T.bi_InvalidParameters___init__ pass0 (by rfl) T.g_InvalidParameters (pa_cons (pv 0) pa_nil)) (pa_cons (pe_mkX T.e_InvalidTemplate.ox T.i_InvalidTemplate___init__ T.ty_InvalidTemplate___init__ G_InvalidTemplate___init__ (hr.mono (by first | decide | omega)) T.bi_InvalidTemplate___init__ pass0 (by rfl) T.g_InvalidTemplate (pa_cons (pv 0) pa_nil)) (pa_cons (pe_mkX T.e_InvalidCall.ox T.i_InvalidCall___init__ T.ty_InvalidCall___init__ G_InvalidCall___init__ (hr.mono (by first | decide | omega)) T.bi_InvalidCall___init__ pass0 (by rfl) T.g_InvalidCall (pa_cons (pv 0) pa_nil)) (pa_cons (pe_mkX T.e_InvalidBook.ox T.i_InvalidBook___init__ T.ty_InvalidBook___init__ G_InvalidBook___init__ (hr.mono (by first | decide | omega)) T.bi_InvalidBook___init__ pass0 (by rfl) T.g_InvalidBook (pa_cons (pv 0) pa_nil)) pa_nil)))))))
      (pss_cons (ps_set (i := 1) sc__law_made.nd rfl (Or.inl rfl) (pe_op op_addW (pv 1) (pe_lstG (pa_cons (pe_mkX T.e_InvalidChoice.ox T.i_InvalidChoice___init__ T.ty_InvalidChoice___init__ G_InvalidChoice___init__ (hr.mono (by first | decide | omega)) T.bi_InvalidChoice___init__ pass0 (by rfl) T.g_InvalidChoice (pa_cons (pv 0) pa_nil)) (pa_cons (pe_mkX T.e_InvalidFillings.ox T.i_InvalidFillings___init__ T.ty_InvalidFillings___init__ G_InvalidFillings___init__ (hr.mono (by first | decide | omega)) T.bi_InvalidFillings___init__ pass0 (by rfl) T.g_InvalidFillings (pa_cons (pv 0) pa_nil)) (pa_cons (pe_mkX T.e_InvalidSite.ox T.i_InvalidSite___init__ T.ty_InvalidSite___init__ G_InvalidSite___init__ (hr.mono (by first | decide | omega)) T.bi_InvalidSite___init__ pass0 (by rfl) T.g_InvalidSite (pa_cons (pv 0) pa_nil)) (pa_cons (pe_mkX T.e_InvalidTables.ox T.i_InvalidTables___init__ T.ty_InvalidTables___init__ G_InvalidTables___init__ (hr.mono (by first | decide | omega)) T.bi_InvalidTables___init__ pass0 (by rfl) T.g_InvalidTables (pa_cons (pv 0) pa_nil)) pa_nil)))))))
      (pss_cons (ps_set (i := 1) sc__law_made.nd rfl (Or.inl rfl) (pe_op op_addW (pv 1) (pe_lstG (pa_cons (pe_mkX T.e_InvalidMeaning.ox T.i_InvalidMeaning___init__ T.ty_InvalidMeaning___init__ G_InvalidMeaning___init__ (hr.mono (by first | decide | omega)) T.bi_InvalidMeaning___init__ pass0 (by rfl) T.g_InvalidMeaning (pa_cons (pv 0) pa_nil)) (pa_cons (pe_mkX T.e_InvalidText.ox T.i_InvalidText___init__ T.ty_InvalidText___init__ G_InvalidText___init__ (hr.mono (by first | decide | omega)) T.bi_InvalidText___init__ pass0 (by rfl) T.g_InvalidText (pa_cons (pv 0) pa_nil)) (pa_cons (pe_mkX T.e_InvalidLine.ox T.i_InvalidLine___init__ T.ty_InvalidLine___init__ G_InvalidLine___init__ (hr.mono (by first | decide | omega)) T.bi_InvalidLine___init__ pass0 (by rfl) T.g_InvalidLine (pa_cons (pv 0) pa_nil)) (pa_cons (pe_mkX T.e_InvalidLines.ox T.i_InvalidLines___init__ T.ty_InvalidLines___init__ G_InvalidLines___init__ (hr.mono (by first | decide | omega)) T.bi_InvalidLines___init__ pass0 (by rfl) T.g_InvalidLines (pa_cons (pv 0) pa_nil)) pa_nil)))))))
      (pss_cons (ps_set (i := 1) sc__law_made.nd rfl (Or.inl rfl) (pe_op op_addW (pv 1) (pe_lstG (pa_cons (pe_mkX T.e_InvalidMode.ox T.i_InvalidMode___init__ T.ty_InvalidMode___init__ G_InvalidMode___init__ (hr.mono (by first | decide | omega)) T.bi_InvalidMode___init__ pass0 (by rfl) T.g_InvalidMode (pa_cons (pv 0) pa_nil)) (pa_cons (pe_mkX T.e_InvalidLetter.ox T.i_InvalidLetter___init__ T.ty_InvalidLetter___init__ G_InvalidLetter___init__ (hr.mono (by first | decide | omega)) T.bi_InvalidLetter___init__ pass0 (by rfl) T.g_InvalidLetter (pa_cons (pv 0) pa_nil)) (pa_cons (pe_mkX T.e_UnlikeParameters.ox T.i_UnlikeParameters___init__ T.ty_UnlikeParameters___init__ G_UnlikeParameters___init__ (hr.mono (by first | decide | omega)) T.bi_UnlikeParameters___init__ pass0 (by rfl) T.g_UnlikeParameters (pa_cons (pv 0) pa_nil)) (pa_cons (pe_mkX T.e_Duplicate.ox T.i_Duplicate___init__ T.ty_Duplicate___init__ G_Duplicate___init__ (hr.mono (by first | decide | omega)) T.bi_Duplicate___init__ pass0 (by rfl) T.g_Duplicate (pa_cons (pv 0) pa_nil)) pa_nil)))))))
      (pss_cons (ps_set (i := 1) sc__law_made.nd rfl (Or.inl rfl) (pe_op op_addW (pv 1) (pe_lstG (pa_cons (pe_mkX T.e_Reserved.ox T.i_Reserved___init__ T.ty_Reserved___init__ G_Reserved___init__ (hr.mono (by first | decide | omega)) T.bi_Reserved___init__ pass0 (by rfl) T.g_Reserved (pa_cons (pv 0) pa_nil)) (pa_cons (pe_mkX T.e_TooLarge.ox T.i_TooLarge___init__ T.ty_TooLarge___init__ G_TooLarge___init__ (hr.mono (by first | decide | omega)) T.bi_TooLarge___init__ pass0 (by rfl) T.g_TooLarge (pa_cons (pv 0) pa_nil)) (pa_cons (pe_mkX T.e_InvalidRow.ox T.i_InvalidRow___init__ T.ty_InvalidRow___init__ G_InvalidRow___init__ (hr.mono (by first | decide | omega)) T.bi_InvalidRow___init__ pass0 (by rfl) T.g_InvalidRow (pa_cons (pv 0) pa_nil)) (pa_cons (pe_mkX T.e_UnknownTemplate.ox T.i_UnknownTemplate___init__ T.ty_UnknownTemplate___init__ G_UnknownTemplate___init__ (hr.mono (by first | decide | omega)) T.bi_UnknownTemplate___init__ pass0 (by rfl) T.g_UnknownTemplate (pa_cons (pv 0) pa_nil)) pa_nil)))))))
      (pss_cons (ps_set (i := 1) sc__law_made.nd rfl (Or.inl rfl) (pe_op op_addW (pv 1) (pe_lstG (pa_cons (pe_mkX T.e_UnknownHole.ox T.i_UnknownHole___init__ T.ty_UnknownHole___init__ G_UnknownHole___init__ (hr.mono (by first | decide | omega)) T.bi_UnknownHole___init__ pass0 (by rfl) T.g_UnknownHole (pa_cons (pv 0) pa_nil)) (pa_cons (pe_mkX T.e_UnknownBinder.ox T.i_UnknownBinder___init__ T.ty_UnknownBinder___init__ G_UnknownBinder___init__ (hr.mono (by first | decide | omega)) T.bi_UnknownBinder___init__ pass0 (by rfl) T.g_UnknownBinder (pa_cons (pv 0) pa_nil)) (pa_cons (pe_mkX T.e_StillCalled.ox T.i_StillCalled___init__ T.ty_StillCalled___init__ G_StillCalled___init__ (hr.mono (by first | decide | omega)) T.bi_StillCalled___init__ pass0 (by rfl) T.g_StillCalled (pa_cons (pv 0) pa_nil)) pa_nil))))))
      (pss_one (ps_ret (pv 1))))))))))
end K03

set_option Elab.async false
set_option linter.all false
set_option maxRecDepth 100000
set_option maxHeartbeats 4000000
namespace K03
open PySem PySem.Spec PyProof.Rows L2 CN Evl
abbrev XR := Str × Option Str × BK
def isB (c : Str) (r : XR) (d : Str) : Bool := decide (c = d) || decide (r.2.1 = some d)
def rowOf (c : Str) : Option XR := xt.find? fun x => x.1 = c
theorem isX_eq {p : Addr} {c : Str} {fs : List (Str × UV)} {r : XR} {μ : Mem} {ρ : Rho} {d : Str} {R : UK} (hp : μ p = some (.exn c fs)) (h : rowOf c = some r) : uIsX xt d (uVar 0) (some (.ref p) :: ρ) μ R = R (.dat (.bool (isB c r d))) μ := by
  refine propext ⟨?_, fun q => ⟨p, c, fs, _, rfl, hp, ?_, q⟩⟩
  · rintro ⟨p', c', fs', b, e, hp', hb, q⟩
    cases e
    rw [hp] at hp'
    cases hp'
    unfold isaX at hb
    have h' : xt.find? (fun x => x.1 = c) = some r := h
    rw [h'] at hb
    cases hb
    exact q
  · unfold isaX
    have h' : xt.find? (fun x => x.1 = c) = some r := h
    rw [h']
    rfl
theorem isBu_eq {p : Addr} {c : Str} {fs : List (Str × UV)} {r : XR} {μ : Mem} {ρ : Rho} {n : String} {R : UK} (hp : μ p = some (.exn c fs)) (h : rowOf c = some r) : uIsB xt n (uVar 0) (some (.ref p) :: ρ) μ R = R (.dat (.bool (r.2.2.tail.contains (.type n)))) μ := by
  refine propext ⟨?_, fun q => ⟨p, c, fs, _, rfl, hp, ?_, q⟩⟩
  · rintro ⟨p', c', fs', b, e, hp', hb, q⟩
    cases e
    rw [hp] at hp'
    cases hp'
    unfold isaN at hb
    have h' : xt.find? (fun x => x.1 = c) = some r := h
    rw [h'] at hb
    cases hb
    exact q
  · unfold isaN
    have h' : xt.find? (fun x => x.1 = c) = some r := h
    rw [h']
    rfl
def xn (k : Nat) : Str := (XN[k]?).getD ""
def kindsN (c : Str) (r : XR) : List Nat := (List.range 29).filter fun k => isB c r (xn k)
def basesB (c : Str) (r : XR) : List Bool := [isB c r "CaughtError", isB c r "AbsentError", isB c r "StateError", r.2.2.tail.contains (.type "ValueError"), r.2.2.tail.contains (.type "KeyError"), r.2.2.tail.contains (.type "LookupError")]
def dueB (k : Int) : List Bool := if k < 23 then [true, false, false, true, false, false] else if k < 26 then [false, true, false, false, true, true] else [false, false, true, false, false, true]
def intsD (ks : List Nat) : PyData := .list (ks.map fun k => .int (k : Nat))
def boolsD (bs : List Bool) : PyData := .list (bs.map PyData.bool)
def sp__law_kinds : USp := fun us μ R _ => ∃ p c fs r, us = [.ref p] ∧ μ p = some (.exn c fs) ∧ rowOf c = some r ∧ R (.dat (intsD (kindsN c r))) μ
theorem ln__law_kinds (us : List UV) (μ : Mem) (R : UK) (X : UX) (h : sp__law_kinds us μ R X) : us.length = 1 := by
  obtain ⟨_, _, _, _, rfl, _⟩ := h
  rfl
def t__law_kinds (K : PySem.W.Frag) (a : Ad) : TS :=
  (tSeq (tAsg (tLstG (tCons (tCB (rIsiU K) (tCons (tVar 0) (tCons (tC (.ref a.c_InvalidName)) tNil))) (tCons (tCB (rIsiU K) (tCons (tVar 0) (tCons (tC (.ref a.c_InvalidTerm)) tNil))) tNil))) (gName 1))
  (tSeq (tAsg (tOp (rAddW K) (tVar 1) (tLstG (tCons (tCB (rIsiU K) (tCons (tVar 0) (tCons (tC (.ref a.c_InvalidBody)) tNil))) (tCons (tCB (rIsiU K) (tCons (tVar 0) (tCons (tC (.ref a.c_InvalidProgram)) tNil))) tNil)))) (gName 1))
  (tSeq (tAsg (tOp (rAddW K) (tVar 1) (tLstG (tCons (tCB (rIsiU K) (tCons (tVar 0) (tCons (tC (.ref a.c_InvalidParameters)) tNil))) (tCons (tCB (rIsiU K) (tCons (tVar 0) (tCons (tC (.ref a.c_InvalidTemplate)) tNil))) tNil)))) (gName 1))
  (tSeq (tAsg (tOp (rAddW K) (tVar 1) (tLstG (tCons (tCB (rIsiU K) (tCons (tVar 0) (tCons (tC (.ref a.c_InvalidCall)) tNil))) (tCons (tCB (rIsiU K) (tCons (tVar 0) (tCons (tC (.ref a.c_InvalidBook)) tNil))) tNil)))) (gName 1))
  (tSeq (tAsg (tOp (rAddW K) (tVar 1) (tLstG (tCons (tCB (rIsiU K) (tCons (tVar 0) (tCons (tC (.ref a.c_InvalidChoice)) tNil))) (tCons (tCB (rIsiU K) (tCons (tVar 0) (tCons (tC (.ref a.c_InvalidFillings)) tNil))) tNil)))) (gName 1))
  (tSeq (tAsg (tOp (rAddW K) (tVar 1) (tLstG (tCons (tCB (rIsiU K) (tCons (tVar 0) (tCons (tC (.ref a.c_InvalidSite)) tNil))) (tCons (tCB (rIsiU K) (tCons (tVar 0) (tCons (tC (.ref a.c_InvalidTables)) tNil))) tNil)))) (gName 1))
  (tSeq (tAsg (tOp (rAddW K) (tVar 1) (tLstG (tCons (tCB (rIsiU K) (tCons (tVar 0) (tCons (tC (.ref a.c_InvalidMeaning)) tNil))) (tCons (tCB (rIsiU K) (tCons (tVar 0) (tCons (tC (.ref a.c_InvalidText)) tNil))) tNil)))) (gName 1))
  (tSeq (tAsg (tOp (rAddW K) (tVar 1) (tLstG (tCons (tCB (rIsiU K) (tCons (tVar 0) (tCons (tC (.ref a.c_InvalidLine)) tNil))) (tCons (tCB (rIsiU K) (tCons (tVar 0) (tCons (tC (.ref a.c_InvalidLines)) tNil))) tNil)))) (gName 1))
  (tSeq (tAsg (tOp (rAddW K) (tVar 1) (tLstG (tCons (tCB (rIsiU K) (tCons (tVar 0) (tCons (tC (.ref a.c_InvalidMode)) tNil))) (tCons (tCB (rIsiU K) (tCons (tVar 0) (tCons (tC (.ref a.c_InvalidLetter)) tNil))) tNil)))) (gName 1))
  (tSeq (tAsg (tOp (rAddW K) (tVar 1) (tLstG (tCons (tCB (rIsiU K) (tCons (tVar 0) (tCons (tC (.ref a.c_UnlikeParameters)) tNil))) (tCons (tCB (rIsiU K) (tCons (tVar 0) (tCons (tC (.ref a.c_Duplicate)) tNil))) tNil)))) (gName 1))
  (tSeq (tAsg (tOp (rAddW K) (tVar 1) (tLstG (tCons (tCB (rIsiU K) (tCons (tVar 0) (tCons (tC (.ref a.c_Reserved)) tNil))) (tCons (tCB (rIsiU K) (tCons (tVar 0) (tCons (tC (.ref a.c_TooLarge)) tNil))) tNil)))) (gName 1))
  (tSeq (tAsg (tOp (rAddW K) (tVar 1) (tLstG (tCons (tCB (rIsiU K) (tCons (tVar 0) (tCons (tC (.ref a.c_InvalidRow)) tNil))) (tCons (tCB (rIsiU K) (tCons (tVar 0) (tCons (tC (.ref a.c_UnknownTemplate)) tNil))) tNil)))) (gName 1))
  (tSeq (tAsg (tOp (rAddW K) (tVar 1) (tLstG (tCons (tCB (rIsiU K) (tCons (tVar 0) (tCons (tC (.ref a.c_UnknownHole)) tNil))) (tCons (tCB (rIsiU K) (tCons (tVar 0) (tCons (tC (.ref a.c_UnknownBinder)) tNil))) tNil)))) (gName 1))
  (tSeq (tAsg (tOp (rAddW K) (tVar 1) (tLstG (tCons (tCB (rIsiU K) (tCons (tVar 0) (tCons (tC (.ref a.c_StillCalled)) tNil))) (tCons (tCB (rIsiU K) (tCons (tVar 0) (tCons (tC (.ref a.c_NothingToUndo)) tNil))) tNil)))) (gName 1))
  (tSeq (tAsg (tOp (rAddW K) (tVar 1) (tLstG (tCons (tCB (rIsiU K) (tCons (tVar 0) (tCons (tC (.ref a.c_NothingToRedo)) tNil))) tNil))) (gName 1))
  (tRet (tLc (iRng1 (tCons (tCB (rLenU K) (tCons (tVar 1) tNil)) tNil)) (gName 2) (tB (tOp (rIx K) (tVar 1) (tVar 2))) (tVar 2) [2])))))))))))))))))
def u__law_kinds : US :=
  (uSeq (uAsg (uLst (uCons (uIsX xt "InvalidName" (uVar 0)) (uCons (uIsX xt "InvalidTerm" (uVar 0)) uNil))) (gNameU 1))
  (uSeq (uAsg (uOp opAdd (uVar 1) (uLst (uCons (uIsX xt "InvalidBody" (uVar 0)) (uCons (uIsX xt "InvalidProgram" (uVar 0)) uNil)))) (gNameU 1))
  (uSeq (uAsg (uOp opAdd (uVar 1) (uLst (uCons (uIsX xt "InvalidParameters" (uVar 0)) (uCons (uIsX xt "InvalidTemplate" (uVar 0)) uNil)))) (gNameU 1))
  (uSeq (uAsg (uOp opAdd (uVar 1) (uLst (uCons (uIsX xt "InvalidCall" (uVar 0)) (uCons (uIsX xt "InvalidBook" (uVar 0)) uNil)))) (gNameU 1))
  (uSeq (uAsg (uOp opAdd (uVar 1) (uLst (uCons (uIsX xt "InvalidChoice" (uVar 0)) (uCons (uIsX xt "InvalidFillings" (uVar 0)) uNil)))) (gNameU 1))
  (uSeq (uAsg (uOp opAdd (uVar 1) (uLst (uCons (uIsX xt "InvalidSite" (uVar 0)) (uCons (uIsX xt "InvalidTables" (uVar 0)) uNil)))) (gNameU 1))
  (uSeq (uAsg (uOp opAdd (uVar 1) (uLst (uCons (uIsX xt "InvalidMeaning" (uVar 0)) (uCons (uIsX xt "InvalidText" (uVar 0)) uNil)))) (gNameU 1))
  (uSeq (uAsg (uOp opAdd (uVar 1) (uLst (uCons (uIsX xt "InvalidLine" (uVar 0)) (uCons (uIsX xt "InvalidLines" (uVar 0)) uNil)))) (gNameU 1))
  (uSeq (uAsg (uOp opAdd (uVar 1) (uLst (uCons (uIsX xt "InvalidMode" (uVar 0)) (uCons (uIsX xt "InvalidLetter" (uVar 0)) uNil)))) (gNameU 1))
  (uSeq (uAsg (uOp opAdd (uVar 1) (uLst (uCons (uIsX xt "UnlikeParameters" (uVar 0)) (uCons (uIsX xt "Duplicate" (uVar 0)) uNil)))) (gNameU 1))
  (uSeq (uAsg (uOp opAdd (uVar 1) (uLst (uCons (uIsX xt "Reserved" (uVar 0)) (uCons (uIsX xt "TooLarge" (uVar 0)) uNil)))) (gNameU 1))
  (uSeq (uAsg (uOp opAdd (uVar 1) (uLst (uCons (uIsX xt "InvalidRow" (uVar 0)) (uCons (uIsX xt "UnknownTemplate" (uVar 0)) uNil)))) (gNameU 1))
  (uSeq (uAsg (uOp opAdd (uVar 1) (uLst (uCons (uIsX xt "UnknownHole" (uVar 0)) (uCons (uIsX xt "UnknownBinder" (uVar 0)) uNil)))) (gNameU 1))
  (uSeq (uAsg (uOp opAdd (uVar 1) (uLst (uCons (uIsX xt "StillCalled" (uVar 0)) (uCons (uIsX xt "NothingToUndo" (uVar 0)) uNil)))) (gNameU 1))
  (uSeq (uAsg (uOp opAdd (uVar 1) (uLst (uCons (uIsX xt "NothingToRedo" (uVar 0)) uNil))) (gNameU 1))
  (uRet (uLc (uRng1 (uCons (uLen (uVar 1)) uNil)) (gNameU 2) (uTst (uIx (uVar 1) (uVar 2))) (uVar 2) [2])))))))))))))))))
theorem S__law_kinds {K : PySem.W.Frag} {mg : Str → Option Value} {a : Ad} (T : Txt K mg a) : SS K L0 (t__law_kinds K a) (u__law_kinds) :=
  (ss_seq (ss_asg (se_lst (sa_cons (T.sx_InvalidName se_var) (sa_cons (T.sx_InvalidTerm se_var) sa_nil))) (sg_name (vs := [1]) (by decide)))
    (ss_seq (ss_asg (se_op os_add se_var (se_lst (sa_cons (T.sx_InvalidBody se_var) (sa_cons (T.sx_InvalidProgram se_var) sa_nil)))) (sg_name (vs := [1]) (by decide)))
    (ss_seq (ss_asg (se_op os_add se_var (se_lst (sa_cons (T.sx_InvalidParameters se_var) (sa_cons (T.sx_InvalidTemplate se_var) sa_nil)))) (sg_name (vs := [1]) (by decide)))
    (ss_seq (ss_asg (se_op os_add se_var (se_lst (sa_cons (T.sx_InvalidCall se_var) (sa_cons (T.sx_InvalidBook se_var) sa_nil)))) (sg_name (vs := [1]) (by decide)))
    (ss_seq (ss_asg (se_op os_add se_var (se_lst (sa_cons (T.sx_InvalidChoice se_var) (sa_cons (T.sx_InvalidFillings se_var) sa_nil)))) (sg_name (vs := [1]) (by decide)))
    (ss_seq (ss_asg (se_op os_add se_var (se_lst (sa_cons (T.sx_InvalidSite se_var) (sa_cons (T.sx_InvalidTables se_var) sa_nil)))) (sg_name (vs := [1]) (by decide)))
    (ss_seq (ss_asg (se_op os_add se_var (se_lst (sa_cons (T.sx_InvalidMeaning se_var) (sa_cons (T.sx_InvalidText se_var) sa_nil)))) (sg_name (vs := [1]) (by decide)))
    (ss_seq (ss_asg (se_op os_add se_var (se_lst (sa_cons (T.sx_InvalidLine se_var) (sa_cons (T.sx_InvalidLines se_var) sa_nil)))) (sg_name (vs := [1]) (by decide)))
    (ss_seq (ss_asg (se_op os_add se_var (se_lst (sa_cons (T.sx_InvalidMode se_var) (sa_cons (T.sx_InvalidLetter se_var) sa_nil)))) (sg_name (vs := [1]) (by decide)))
    (ss_seq (ss_asg (se_op os_add se_var (se_lst (sa_cons (T.sx_UnlikeParameters se_var) (sa_cons (T.sx_Duplicate se_var) sa_nil)))) (sg_name (vs := [1]) (by decide)))
    (ss_seq (ss_asg (se_op os_add se_var (se_lst (sa_cons (T.sx_Reserved se_var) (sa_cons (T.sx_TooLarge se_var) sa_nil)))) (sg_name (vs := [1]) (by decide)))
    (ss_seq (ss_asg (se_op os_add se_var (se_lst (sa_cons (T.sx_InvalidRow se_var) (sa_cons (T.sx_UnknownTemplate se_var) sa_nil)))) (sg_name (vs := [1]) (by decide)))
    (ss_seq (ss_asg (se_op os_add se_var (se_lst (sa_cons (T.sx_UnknownHole se_var) (sa_cons (T.sx_UnknownBinder se_var) sa_nil)))) (sg_name (vs := [1]) (by decide)))
    (ss_seq (ss_asg (se_op os_add se_var (se_lst (sa_cons (T.sx_StillCalled se_var) (sa_cons (T.sx_NothingToUndo se_var) sa_nil)))) (sg_name (vs := [1]) (by decide)))
    (ss_seq (ss_asg (se_op os_add se_var (se_lst (sa_cons (T.sx_NothingToRedo se_var) sa_nil))) (sg_name (vs := [1]) (by decide)))
    (ss_ret (se_lc (si_rng1 (sa_cons (se_len se_var) sa_nil)) (sg_name (vs := [2]) (by decide)) (st_b (se_ix se_var se_var)) se_var)))))))))))))))))
theorem rdu__law_kinds (us : List UV) (μ : Mem) (R : UK) (X : UX) (h : sp__law_kinds us μ R X) : u__law_kinds (endU R) (startU 3 us) μ := by
  obtain ⟨p, c, fs, r, rfl, hp, hr, q⟩ := h
  unfold u__law_kinds
  refine seq_step fun K hK => ?_
  simp only [isX_eq hp hr, uIf, uRet, uRetN, uDrop, uAsg, uPar, gNameU, gTupU, asgAll, uVar, uC, uNil, uCons, uTup, uLst, uIx, uOp, uUn, uM1, uTst, uNotT, uAnd, uOr, uAndV, uOrV, uNotV, uIfE, uChain, uIsi, uIsN, uNotN, uSl, uPart, uNoPart, uLen, uCall, uNext, uAny, itemsU, asB, okD, uBin, uUn1, rdv_dat, ixU, tyU, lenU, tyD, startU, endU, uYes, allD, uLc, uFz, uFrz, frzU, wipeU, uFor, uRng1, uRng2, opEq, opNe, opNeX, opIn, opNotIn, eqE, eqX, eqB, opLt, opLe, opGt, opGe, opAdd, opSub, opInt, List.replicate, if_true, if_false, Nat.reduceSub, Nat.reduceAdd, Nat.reduceLeDiff, Nat.zero_le, atI_0, atI_1, atI_2, atI_3, atI_4, opIx, opSl, spF, spFL, in_sign, in_tup2, in_tup3, kbs, lss, List.cons_append, List.nil_append]
  rw [hK]
  clear hK
  refine seq_step fun K hK => ?_
  simp only [isX_eq hp hr, uIf, uRet, uRetN, uDrop, uAsg, uPar, gNameU, gTupU, asgAll, uVar, uC, uNil, uCons, uTup, uLst, uIx, uOp, uUn, uM1, uTst, uNotT, uAnd, uOr, uAndV, uOrV, uNotV, uIfE, uChain, uIsi, uIsN, uNotN, uSl, uPart, uNoPart, uLen, uCall, uNext, uAny, itemsU, asB, okD, uBin, uUn1, rdv_dat, ixU, tyU, lenU, tyD, startU, endU, uYes, allD, uLc, uFz, uFrz, frzU, wipeU, uFor, uRng1, uRng2, opEq, opNe, opNeX, opIn, opNotIn, eqE, eqX, eqB, opLt, opLe, opGt, opGe, opAdd, opSub, opInt, List.replicate, if_true, if_false, Nat.reduceSub, Nat.reduceAdd, Nat.reduceLeDiff, Nat.zero_le, atI_0, atI_1, atI_2, atI_3, atI_4, opIx, opSl, spF, spFL, in_sign, in_tup2, in_tup3, kbs, lss, List.cons_append, List.nil_append]
  rw [hK]
  clear hK
  refine seq_step fun K hK => ?_
  simp only [isX_eq hp hr, uIf, uRet, uRetN, uDrop, uAsg, uPar, gNameU, gTupU, asgAll, uVar, uC, uNil, uCons, uTup, uLst, uIx, uOp, uUn, uM1, uTst, uNotT, uAnd, uOr, uAndV, uOrV, uNotV, uIfE, uChain, uIsi, uIsN, uNotN, uSl, uPart, uNoPart, uLen, uCall, uNext, uAny, itemsU, asB, okD, uBin, uUn1, rdv_dat, ixU, tyU, lenU, tyD, startU, endU, uYes, allD, uLc, uFz, uFrz, frzU, wipeU, uFor, uRng1, uRng2, opEq, opNe, opNeX, opIn, opNotIn, eqE, eqX, eqB, opLt, opLe, opGt, opGe, opAdd, opSub, opInt, List.replicate, if_true, if_false, Nat.reduceSub, Nat.reduceAdd, Nat.reduceLeDiff, Nat.zero_le, atI_0, atI_1, atI_2, atI_3, atI_4, opIx, opSl, spF, spFL, in_sign, in_tup2, in_tup3, kbs, lss, List.cons_append, List.nil_append]
  rw [hK]
  clear hK
  refine seq_step fun K hK => ?_
  simp only [isX_eq hp hr, uIf, uRet, uRetN, uDrop, uAsg, uPar, gNameU, gTupU, asgAll, uVar, uC, uNil, uCons, uTup, uLst, uIx, uOp, uUn, uM1, uTst, uNotT, uAnd, uOr, uAndV, uOrV, uNotV, uIfE, uChain, uIsi, uIsN, uNotN, uSl, uPart, uNoPart, uLen, uCall, uNext, uAny, itemsU, asB, okD, uBin, uUn1, rdv_dat, ixU, tyU, lenU, tyD, startU, endU, uYes, allD, uLc, uFz, uFrz, frzU, wipeU, uFor, uRng1, uRng2, opEq, opNe, opNeX, opIn, opNotIn, eqE, eqX, eqB, opLt, opLe, opGt, opGe, opAdd, opSub, opInt, List.replicate, if_true, if_false, Nat.reduceSub, Nat.reduceAdd, Nat.reduceLeDiff, Nat.zero_le, atI_0, atI_1, atI_2, atI_3, atI_4, opIx, opSl, spF, spFL, in_sign, in_tup2, in_tup3, kbs, lss, List.cons_append, List.nil_append]
  rw [hK]
  clear hK
  refine seq_step fun K hK => ?_
  simp only [isX_eq hp hr, uIf, uRet, uRetN, uDrop, uAsg, uPar, gNameU, gTupU, asgAll, uVar, uC, uNil, uCons, uTup, uLst, uIx, uOp, uUn, uM1, uTst, uNotT, uAnd, uOr, uAndV, uOrV, uNotV, uIfE, uChain, uIsi, uIsN, uNotN, uSl, uPart, uNoPart, uLen, uCall, uNext, uAny, itemsU, asB, okD, uBin, uUn1, rdv_dat, ixU, tyU, lenU, tyD, startU, endU, uYes, allD, uLc, uFz, uFrz, frzU, wipeU, uFor, uRng1, uRng2, opEq, opNe, opNeX, opIn, opNotIn, eqE, eqX, eqB, opLt, opLe, opGt, opGe, opAdd, opSub, opInt, List.replicate, if_true, if_false, Nat.reduceSub, Nat.reduceAdd, Nat.reduceLeDiff, Nat.zero_le, atI_0, atI_1, atI_2, atI_3, atI_4, opIx, opSl, spF, spFL, in_sign, in_tup2, in_tup3, kbs, lss, List.cons_append, List.nil_append]
  rw [hK]
  clear hK
  refine seq_step fun K hK => ?_
  simp only [isX_eq hp hr, uIf, uRet, uRetN, uDrop, uAsg, uPar, gNameU, gTupU, asgAll, uVar, uC, uNil, uCons, uTup, uLst, uIx, uOp, uUn, uM1, uTst, uNotT, uAnd, uOr, uAndV, uOrV, uNotV, uIfE, uChain, uIsi, uIsN, uNotN, uSl, uPart, uNoPart, uLen, uCall, uNext, uAny, itemsU, asB, okD, uBin, uUn1, rdv_dat, ixU, tyU, lenU, tyD, startU, endU, uYes, allD, uLc, uFz, uFrz, frzU, wipeU, uFor, uRng1, uRng2, opEq, opNe, opNeX, opIn, opNotIn, eqE, eqX, eqB, opLt, opLe, opGt, opGe, opAdd, opSub, opInt, List.replicate, if_true, if_false, Nat.reduceSub, Nat.reduceAdd, Nat.reduceLeDiff, Nat.zero_le, atI_0, atI_1, atI_2, atI_3, atI_4, opIx, opSl, spF, spFL, in_sign, in_tup2, in_tup3, kbs, lss, List.cons_append, List.nil_append]
  rw [hK]
  clear hK
  refine seq_step fun K hK => ?_
  simp only [isX_eq hp hr, uIf, uRet, uRetN, uDrop, uAsg, uPar, gNameU, gTupU, asgAll, uVar, uC, uNil, uCons, uTup, uLst, uIx, uOp, uUn, uM1, uTst, uNotT, uAnd, uOr, uAndV, uOrV, uNotV, uIfE, uChain, uIsi, uIsN, uNotN, uSl, uPart, uNoPart, uLen, uCall, uNext, uAny, itemsU, asB, okD, uBin, uUn1, rdv_dat, ixU, tyU, lenU, tyD, startU, endU, uYes, allD, uLc, uFz, uFrz, frzU, wipeU, uFor, uRng1, uRng2, opEq, opNe, opNeX, opIn, opNotIn, eqE, eqX, eqB, opLt, opLe, opGt, opGe, opAdd, opSub, opInt, List.replicate, if_true, if_false, Nat.reduceSub, Nat.reduceAdd, Nat.reduceLeDiff, Nat.zero_le, atI_0, atI_1, atI_2, atI_3, atI_4, opIx, opSl, spF, spFL, in_sign, in_tup2, in_tup3, kbs, lss, List.cons_append, List.nil_append]
  rw [hK]
  clear hK
  refine seq_step fun K hK => ?_
  simp only [isX_eq hp hr, uIf, uRet, uRetN, uDrop, uAsg, uPar, gNameU, gTupU, asgAll, uVar, uC, uNil, uCons, uTup, uLst, uIx, uOp, uUn, uM1, uTst, uNotT, uAnd, uOr, uAndV, uOrV, uNotV, uIfE, uChain, uIsi, uIsN, uNotN, uSl, uPart, uNoPart, uLen, uCall, uNext, uAny, itemsU, asB, okD, uBin, uUn1, rdv_dat, ixU, tyU, lenU, tyD, startU, endU, uYes, allD, uLc, uFz, uFrz, frzU, wipeU, uFor, uRng1, uRng2, opEq, opNe, opNeX, opIn, opNotIn, eqE, eqX, eqB, opLt, opLe, opGt, opGe, opAdd, opSub, opInt, List.replicate, if_true, if_false, Nat.reduceSub, Nat.reduceAdd, Nat.reduceLeDiff, Nat.zero_le, atI_0, atI_1, atI_2, atI_3, atI_4, opIx, opSl, spF, spFL, in_sign, in_tup2, in_tup3, kbs, lss, List.cons_append, List.nil_append]
  rw [hK]
  clear hK
  refine seq_step fun K hK => ?_
  simp only [isX_eq hp hr, uIf, uRet, uRetN, uDrop, uAsg, uPar, gNameU, gTupU, asgAll, uVar, uC, uNil, uCons, uTup, uLst, uIx, uOp, uUn, uM1, uTst, uNotT, uAnd, uOr, uAndV, uOrV, uNotV, uIfE, uChain, uIsi, uIsN, uNotN, uSl, uPart, uNoPart, uLen, uCall, uNext, uAny, itemsU, asB, okD, uBin, uUn1, rdv_dat, ixU, tyU, lenU, tyD, startU, endU, uYes, allD, uLc, uFz, uFrz, frzU, wipeU, uFor, uRng1, uRng2, opEq, opNe, opNeX, opIn, opNotIn, eqE, eqX, eqB, opLt, opLe, opGt, opGe, opAdd, opSub, opInt, List.replicate, if_true, if_false, Nat.reduceSub, Nat.reduceAdd, Nat.reduceLeDiff, Nat.zero_le, atI_0, atI_1, atI_2, atI_3, atI_4, opIx, opSl, spF, spFL, in_sign, in_tup2, in_tup3, kbs, lss, List.cons_append, List.nil_append]
  rw [hK]
  clear hK
  refine seq_step fun K hK => ?_
  simp only [isX_eq hp hr, uIf, uRet, uRetN, uDrop, uAsg, uPar, gNameU, gTupU, asgAll, uVar, uC, uNil, uCons, uTup, uLst, uIx, uOp, uUn, uM1, uTst, uNotT, uAnd, uOr, uAndV, uOrV, uNotV, uIfE, uChain, uIsi, uIsN, uNotN, uSl, uPart, uNoPart, uLen, uCall, uNext, uAny, itemsU, asB, okD, uBin, uUn1, rdv_dat, ixU, tyU, lenU, tyD, startU, endU, uYes, allD, uLc, uFz, uFrz, frzU, wipeU, uFor, uRng1, uRng2, opEq, opNe, opNeX, opIn, opNotIn, eqE, eqX, eqB, opLt, opLe, opGt, opGe, opAdd, opSub, opInt, List.replicate, if_true, if_false, Nat.reduceSub, Nat.reduceAdd, Nat.reduceLeDiff, Nat.zero_le, atI_0, atI_1, atI_2, atI_3, atI_4, opIx, opSl, spF, spFL, in_sign, in_tup2, in_tup3, kbs, lss, List.cons_append, List.nil_append]
  rw [hK]
  clear hK
  refine seq_step fun K hK => ?_
  simp only [isX_eq hp hr, uIf, uRet, uRetN, uDrop, uAsg, uPar, gNameU, gTupU, asgAll, uVar, uC, uNil, uCons, uTup, uLst, uIx, uOp, uUn, uM1, uTst, uNotT, uAnd, uOr, uAndV, uOrV, uNotV, uIfE, uChain, uIsi, uIsN, uNotN, uSl, uPart, uNoPart, uLen, uCall, uNext, uAny, itemsU, asB, okD, uBin, uUn1, rdv_dat, ixU, tyU, lenU, tyD, startU, endU, uYes, allD, uLc, uFz, uFrz, frzU, wipeU, uFor, uRng1, uRng2, opEq, opNe, opNeX, opIn, opNotIn, eqE, eqX, eqB, opLt, opLe, opGt, opGe, opAdd, opSub, opInt, List.replicate, if_true, if_false, Nat.reduceSub, Nat.reduceAdd, Nat.reduceLeDiff, Nat.zero_le, atI_0, atI_1, atI_2, atI_3, atI_4, opIx, opSl, spF, spFL, in_sign, in_tup2, in_tup3, kbs, lss, List.cons_append, List.nil_append]
  rw [hK]
  clear hK
  refine seq_step fun K hK => ?_
  simp only [isX_eq hp hr, uIf, uRet, uRetN, uDrop, uAsg, uPar, gNameU, gTupU, asgAll, uVar, uC, uNil, uCons, uTup, uLst, uIx, uOp, uUn, uM1, uTst, uNotT, uAnd, uOr, uAndV, uOrV, uNotV, uIfE, uChain, uIsi, uIsN, uNotN, uSl, uPart, uNoPart, uLen, uCall, uNext, uAny, itemsU, asB, okD, uBin, uUn1, rdv_dat, ixU, tyU, lenU, tyD, startU, endU, uYes, allD, uLc, uFz, uFrz, frzU, wipeU, uFor, uRng1, uRng2, opEq, opNe, opNeX, opIn, opNotIn, eqE, eqX, eqB, opLt, opLe, opGt, opGe, opAdd, opSub, opInt, List.replicate, if_true, if_false, Nat.reduceSub, Nat.reduceAdd, Nat.reduceLeDiff, Nat.zero_le, atI_0, atI_1, atI_2, atI_3, atI_4, opIx, opSl, spF, spFL, in_sign, in_tup2, in_tup3, kbs, lss, List.cons_append, List.nil_append]
  rw [hK]
  clear hK
  refine seq_step fun K hK => ?_
  simp only [isX_eq hp hr, uIf, uRet, uRetN, uDrop, uAsg, uPar, gNameU, gTupU, asgAll, uVar, uC, uNil, uCons, uTup, uLst, uIx, uOp, uUn, uM1, uTst, uNotT, uAnd, uOr, uAndV, uOrV, uNotV, uIfE, uChain, uIsi, uIsN, uNotN, uSl, uPart, uNoPart, uLen, uCall, uNext, uAny, itemsU, asB, okD, uBin, uUn1, rdv_dat, ixU, tyU, lenU, tyD, startU, endU, uYes, allD, uLc, uFz, uFrz, frzU, wipeU, uFor, uRng1, uRng2, opEq, opNe, opNeX, opIn, opNotIn, eqE, eqX, eqB, opLt, opLe, opGt, opGe, opAdd, opSub, opInt, List.replicate, if_true, if_false, Nat.reduceSub, Nat.reduceAdd, Nat.reduceLeDiff, Nat.zero_le, atI_0, atI_1, atI_2, atI_3, atI_4, opIx, opSl, spF, spFL, in_sign, in_tup2, in_tup3, kbs, lss, List.cons_append, List.nil_append]
  rw [hK]
  clear hK
  refine seq_step fun K hK => ?_
  simp only [isX_eq hp hr, uIf, uRet, uRetN, uDrop, uAsg, uPar, gNameU, gTupU, asgAll, uVar, uC, uNil, uCons, uTup, uLst, uIx, uOp, uUn, uM1, uTst, uNotT, uAnd, uOr, uAndV, uOrV, uNotV, uIfE, uChain, uIsi, uIsN, uNotN, uSl, uPart, uNoPart, uLen, uCall, uNext, uAny, itemsU, asB, okD, uBin, uUn1, rdv_dat, ixU, tyU, lenU, tyD, startU, endU, uYes, allD, uLc, uFz, uFrz, frzU, wipeU, uFor, uRng1, uRng2, opEq, opNe, opNeX, opIn, opNotIn, eqE, eqX, eqB, opLt, opLe, opGt, opGe, opAdd, opSub, opInt, List.replicate, if_true, if_false, Nat.reduceSub, Nat.reduceAdd, Nat.reduceLeDiff, Nat.zero_le, atI_0, atI_1, atI_2, atI_3, atI_4, opIx, opSl, spF, spFL, in_sign, in_tup2, in_tup3, kbs, lss, List.cons_append, List.nil_append]
  rw [hK]
  clear hK
  refine seq_step fun K hK => ?_
  simp only [isX_eq hp hr, uIf, uRet, uRetN, uDrop, uAsg, uPar, gNameU, gTupU, asgAll, uVar, uC, uNil, uCons, uTup, uLst, uIx, uOp, uUn, uM1, uTst, uNotT, uAnd, uOr, uAndV, uOrV, uNotV, uIfE, uChain, uIsi, uIsN, uNotN, uSl, uPart, uNoPart, uLen, uCall, uNext, uAny, itemsU, asB, okD, uBin, uUn1, rdv_dat, ixU, tyU, lenU, tyD, startU, endU, uYes, allD, uLc, uFz, uFrz, frzU, wipeU, uFor, uRng1, uRng2, opEq, opNe, opNeX, opIn, opNotIn, eqE, eqX, eqB, opLt, opLe, opGt, opGe, opAdd, opSub, opInt, List.replicate, if_true, if_false, Nat.reduceSub, Nat.reduceAdd, Nat.reduceLeDiff, Nat.zero_le, atI_0, atI_1, atI_2, atI_3, atI_4, opIx, opSl, spF, spFL, in_sign, in_tup2, in_tup3, kbs, lss, List.cons_append, List.nil_append]
  rw [hK]
  clear hK
  simp only [uIf, uRet, uRetN, uDrop, uAsg, uPar, gNameU, gTupU, asgAll, uVar, uC, uNil, uCons, uTup, uLst, uIx, uOp, uUn, uM1, uTst, uNotT, uAnd, uOr, uAndV, uOrV, uNotV, uIfE, uChain, uIsi, uIsN, uNotN, uSl, uPart, uNoPart, uLen, uCall, uNext, uAny, itemsU, asB, okD, uBin, uUn1, rdv_dat, ixU, tyU, lenU, tyD, startU, endU, uYes, allD, uLc, uFz, uFrz, frzU, wipeU, uFor, uRng1, uRng2, opEq, opNe, opNeX, opIn, opNotIn, eqE, eqX, eqB, opLt, opLe, opGt, opGe, opAdd, opSub, opInt, List.replicate, if_true, if_false, Nat.reduceSub, Nat.reduceAdd, Nat.reduceLeDiff, Nat.zero_le, atI_0, atI_1, atI_2, atI_3, atI_4, opIx, opSl, spF, spFL, in_sign, in_tup2, in_tup3, kbs, lss]
  have eL : ([.bool (isB c r "InvalidName"), .bool (isB c r "InvalidTerm"), .bool (isB c r "InvalidBody"), .bool (isB c r "InvalidProgram"), .bool (isB c r "InvalidParameters"), .bool (isB c r "InvalidTemplate"), .bool (isB c r "InvalidCall"), .bool (isB c r "InvalidBook"), .bool (isB c r "InvalidChoice"), .bool (isB c r "InvalidFillings"), .bool (isB c r "InvalidSite"), .bool (isB c r "InvalidTables"), .bool (isB c r "InvalidMeaning"), .bool (isB c r "InvalidText"), .bool (isB c r "InvalidLine"), .bool (isB c r "InvalidLines"), .bool (isB c r "InvalidMode"), .bool (isB c r "InvalidLetter"), .bool (isB c r "UnlikeParameters"), .bool (isB c r "Duplicate"), .bool (isB c r "Reserved"), .bool (isB c r "TooLarge"), .bool (isB c r "InvalidRow"), .bool (isB c r "UnknownTemplate"), .bool (isB c r "UnknownHole"), .bool (isB c r "UnknownBinder"), .bool (isB c r "StillCalled"), .bool (isB c r "NothingToUndo"), .bool (isB c r "NothingToRedo")] : List PyData) = (List.range 29).map fun k => PyData.bool (isB c r (xn k)) := rfl
  refine ⟨by decide, ?_⟩
  have el : (List.range (29 : Int).toNat).map (fun (k : Nat) => UV.dat (.int k)) = ((List.range 29).map fun k : Nat => PyData.int k).map UV.dat := by rw [List.map_map]; rfl
  refine ⟨by rw [List.length_map, List.length_range]; decide, ?_⟩
  rw [eL]
  show lcL (fun _ => True) _ _ _ _ _ _ ((List.range (29 : Int).toNat).map (fun (k : Nat) => UV.dat (.int k))) [] μ
  rw [el]
  refine lc_data (fun d => match d with | .int k => isB c r (xn k.toNat) | _ => false) (fun d => d) _ (fun x hx K1 K2 h1 h2 => ?_) ?_
  · obtain ⟨k, hk, rfl⟩ := List.mem_map.mp hx
    have hk := List.mem_range.mp hk
    have e1 : atI ((List.range 29).map fun k => PyData.bool (isB c r (xn k))) (k : Int) = some (.bool (isB c r (xn k))) := atI_nat (by rw [List.getElem?_map, List.getElem?_range hk]; rfl)
    simp only [uIf, uRet, uRetN, uDrop, uAsg, uPar, gNameU, gTupU, asgAll, uVar, uC, uNil, uCons, uTup, uLst, uIx, uOp, uUn, uM1, uTst, uNotT, uAnd, uOr, uAndV, uOrV, uNotV, uIfE, uChain, uIsi, uIsN, uNotN, uSl, uPart, uNoPart, uLen, uCall, uNext, uAny, itemsU, asB, okD, uBin, uUn1, rdv_dat, ixU, tyU, lenU, tyD, startU, endU, uYes, allD, uLc, uFz, uFrz, frzU, wipeU, uFor, uRng1, uRng2, opEq, opNe, opNeX, opIn, opNotIn, eqE, eqX, eqB, opLt, opLe, opGt, opGe, opAdd, opSub, opInt, List.replicate, if_true, if_false, Nat.reduceSub, Nat.reduceAdd, Nat.reduceLeDiff, Nat.zero_le, atI_0, atI_1, atI_2, atI_3, atI_4, opIx, opSl, spF, spFL, in_sign, in_tup2, in_tup3, kbs, lss, e1]
    cases eb : isB c r (xn k) with
    | true => exact h1 eb
    | false => exact h2 eb
  · have ef : ((List.range 29).map fun k : Nat => PyData.int k).filter (fun d => match d with | .int k => isB c r (xn k.toNat) | _ => false) = (kindsN c r).map fun k => PyData.int (k : Nat) := by
      rw [List.filter_map]
      rfl
    rw [ef, List.map_id', allD_map]
    exact fin_of Wk.refl q
theorem ok__law_kinds {P : Program} {w : World} {K : PySem.W.Frag} {mg : Str → Option Value} {base : Heap} {a : Ad} (T : Txt K mg a) : FnOk P w K mg base CX0 3 a.f__law_kinds a.d__law_kinds ["_law_error"] (lift K sp__law_kinds) := by
  refine T.F__law_kinds.ok sc__law_kinds (fun vs H Q E h => len_of ln__law_kinds h) (fun cdv A outer s H vs Q E hr h => ⟨t__law_kinds K a, ?_, CN.rd_of rfl (S__law_kinds T) rdu__law_kinds h⟩)
  exact (pss_cons (ps_set (i := 1) sc__law_kinds.nd rfl (Or.inr rfl) (pe_lstG (pa_cons (pe_callB call_isiU (by rfl) T.b_isinstance (by decide +kernel) (pa_cons (pv 0) (pa_cons (pe_glob (by rfl) T.g_InvalidName rfl) pa_nil))) (pa_cons (pe_callB call_isiU (by rfl) T.b_isinstance (by decide +kernel) (pa_cons (pv 0) (pa_cons (pe_glob (by rfl) T.g_InvalidTerm rfl) pa_nil))) pa_nil))))
      (pss_cons (ps_set (i := 1) sc__law_kinds.nd rfl (Or.inr rfl) (pe_op op_addW (pv 1) (pe_lstG (pa_cons (pe_callB call_isiU (by rfl) T.b_isinstance (by decide +kernel) (pa_cons (pv 0) (pa_cons (pe_glob (by rfl) T.g_InvalidBody rfl) pa_nil))) (pa_cons (pe_callB call_isiU (by rfl) T.b_isinstance (by decide +kernel) (pa_cons (pv 0) (pa_cons (pe_glob (by rfl) T.g_InvalidProgram rfl) pa_nil))) pa_nil)))))
      (pss_cons (ps_set (i := 1) sc__law_kinds.nd rfl (Or.inr rfl) (pe_op op_addW (pv 1) (pe_lstG (pa_cons (pe_callB call_isiU (by rfl) T.b_isinstance (by decide +kernel) (pa_cons (pv 0) (pa_cons (pe_glob (by rfl) T.g_InvalidParameters rfl) pa_nil))) (pa_cons (pe_callB call_isiU (by rfl) T.b_isinstance (by decide +kernel) (pa_cons (pv 0) (pa_cons (pe_glob (by rfl) T.g_InvalidTemplate rfl) pa_nil))) pa_nil)))))
      (pss_cons (ps_set (i := 1) sc__law_kinds.nd rfl (Or.inr rfl) (pe_op op_addW (pv 1) (pe_lstG (pa_cons (pe_callB call_isiU (by rfl) T.b_isinstance (by decide +kernel) (pa_cons (pv 0) (pa_cons (pe_glob (by rfl) T.g_InvalidCall rfl) pa_nil))) (pa_cons (pe_callB call_isiU (by rfl) T.b_isinstance (by decide +kernel) (pa_cons (pv 0) (pa_cons (pe_glob (by rfl) T.g_InvalidBook rfl) pa_nil))) pa_nil)))))
      (pss_cons (ps_set (i := 1) sc__law_kinds.nd rfl (Or.inr rfl) (pe_op op_addW (pv 1) (pe_lstG (pa_cons (pe_callB call_isiU (by rfl) T.b_isinstance (by decide +kernel) (pa_cons (pv 0) (pa_cons (pe_glob (by rfl) T.g_InvalidChoice rfl) pa_nil))) (pa_cons (pe_callB call_isiU (by rfl) T.b_isinstance (by decide +kernel) (pa_cons (pv 0) (pa_cons (pe_glob (by rfl) T.g_InvalidFillings rfl) pa_nil))) pa_nil)))))
      (pss_cons (ps_set (i := 1) sc__law_kinds.nd rfl (Or.inr rfl) (pe_op op_addW (pv 1) (pe_lstG (pa_cons (pe_callB call_isiU (by rfl) T.b_isinstance (by decide +kernel) (pa_cons (pv 0) (pa_cons (pe_glob (by rfl) T.g_InvalidSite rfl) pa_nil))) (pa_cons (pe_callB call_isiU (by rfl) T.b_isinstance (by decide +kernel) (pa_cons (pv 0) (pa_cons (pe_glob (by rfl) T.g_InvalidTables rfl) pa_nil))) pa_nil)))))
      (pss_cons (ps_set (i := 1) sc__law_kinds.nd rfl (Or.inr rfl) (pe_op op_addW (pv 1) (pe_lstG (pa_cons (pe_callB call_isiU (by rfl) T.b_isinstance (by decide +kernel) (pa_cons (pv 0) (pa_cons (pe_glob (by rfl) T.g_InvalidMeaning rfl) pa_nil))) (pa_cons (pe_callB call_isiU (by rfl) T.b_isinstance (by decide +kernel) (pa_cons (pv 0) (pa_cons (pe_glob (by rfl) T.g_InvalidText rfl) pa_nil))) pa_nil)))))
      (pss_cons (ps_set (i := 1) sc__law_kinds.nd rfl (Or.inr rfl) (pe_op op_addW (pv 1) (pe_lstG (pa_cons (pe_callB call_isiU (by rfl) T.b_isinstance (by decide +kernel) (pa_cons (pv 0) (pa_cons (pe_glob (by rfl) T.g_InvalidLine rfl) pa_nil))) (pa_cons (pe_callB call_isiU (by rfl) T.b_isinstance (by decide +kernel) (pa_cons (pv 0) (pa_cons (pe_glob (by rfl) T.g_InvalidLines rfl) pa_nil))) pa_nil)))))
      (pss_cons (ps_set (i := 1) sc__law_kinds.nd rfl (Or.inr rfl) (pe_op op_addW (pv 1) (pe_lstG (pa_cons (pe_callB call_isiU (by rfl) T.b_isinstance (by decide +kernel) (pa_cons (pv 0) (pa_cons (pe_glob (by rfl) T.g_InvalidMode rfl) pa_nil))) (pa_cons (pe_callB call_isiU (by rfl) T.b_isinstance (by decide +kernel) (pa_cons (pv 0) (pa_cons (pe_glob (by rfl) T.g_InvalidLetter rfl) pa_nil))) pa_nil)))))
      (pss_cons (ps_set (i := 1) sc__law_kinds.nd rfl (Or.inr rfl) (pe_op op_addW (pv 1) (pe_lstG (pa_cons (pe_callB call_isiU (by rfl) T.b_isinstance (by decide +kernel) (pa_cons (pv 0) (pa_cons (pe_glob (by rfl) T.g_UnlikeParameters rfl) pa_nil))) (pa_cons (pe_callB call_isiU (by rfl) T.b_isinstance (by decide +kernel) (pa_cons (pv 0) (pa_cons (pe_glob (by rfl) T.g_Duplicate rfl) pa_nil))) pa_nil)))))
      (pss_cons (ps_set (i := 1) sc__law_kinds.nd rfl (Or.inr rfl) (pe_op op_addW (pv 1) (pe_lstG (pa_cons (pe_callB call_isiU (by rfl) T.b_isinstance (by decide +kernel) (pa_cons (pv 0) (pa_cons (pe_glob (by rfl) T.g_Reserved rfl) pa_nil))) (pa_cons (pe_callB call_isiU (by rfl) T.b_isinstance (by decide +kernel) (pa_cons (pv 0) (pa_cons (pe_glob (by rfl) T.g_TooLarge rfl) pa_nil))) pa_nil)))))
      (pss_cons (ps_set (i := 1) sc__law_kinds.nd rfl (Or.inr rfl) (pe_op op_addW (pv 1) (pe_lstG (pa_cons (pe_callB call_isiU (by rfl) T.b_isinstance (by decide +kernel) (pa_cons (pv 0) (pa_cons (pe_glob (by rfl) T.g_InvalidRow rfl) pa_nil))) (pa_cons (pe_callB call_isiU (by rfl) T.b_isinstance (by decide +kernel) (pa_cons (pv 0) (pa_cons (pe_glob (by rfl) T.g_UnknownTemplate rfl) pa_nil))) pa_nil)))))
      (pss_cons (ps_set (i := 1) sc__law_kinds.nd rfl (Or.inr rfl) (pe_op op_addW (pv 1) (pe_lstG (pa_cons (pe_callB call_isiU (by rfl) T.b_isinstance (by decide +kernel) (pa_cons (pv 0) (pa_cons (pe_glob (by rfl) T.g_UnknownHole rfl) pa_nil))) (pa_cons (pe_callB call_isiU (by rfl) T.b_isinstance (by decide +kernel) (pa_cons (pv 0) (pa_cons (pe_glob (by rfl) T.g_UnknownBinder rfl) pa_nil))) pa_nil)))))
      (pss_cons (ps_set (i := 1) sc__law_kinds.nd rfl (Or.inr rfl) (pe_op op_addW (pv 1) (pe_lstG (pa_cons (pe_callB call_isiU (by rfl) T.b_isinstance (by decide +kernel) (pa_cons (pv 0) (pa_cons (pe_glob (by rfl) T.g_StillCalled rfl) pa_nil))) (pa_cons (pe_callB call_isiU (by rfl) T.b_isinstance (by decide +kernel) (pa_cons (pv 0) (pa_cons (pe_glob (by rfl) T.g_NothingToUndo rfl) pa_nil))) pa_nil)))))
      (pss_cons (ps_set (i := 1) sc__law_kinds.nd rfl (Or.inr rfl) (pe_op op_addW (pv 1) (pe_lstG (pa_cons (pe_callB call_isiU (by rfl) T.b_isinstance (by decide +kernel) (pa_cons (pv 0) (pa_cons (pe_glob (by rfl) T.g_NothingToRedo rfl) pa_nil))) pa_nil))))
      (pss_one (ps_ret (pe_lc (own := [("_law_k", 2)]) (g := (gName 2)) (tt := (tB (tOp (rIx K) (tVar 1) (tVar 2)))) rfl sc__law_kinds.nd (pi_range1 (by rfl) T.b_range (pa_cons (pe_callB call_lenU (by rfl) T.b_len (by decide +kernel) (pa_cons (pv 1) pa_nil)) pa_nil)) (blkOk_by (N := N__law_kinds) (sc := defScope s__law_kinds) (by decide +kernel)) (fun _ _ _ _ _ => (pg_name (i := 2) sc__law_kinds.nd rfl (Or.inl rfl))) (fun _ _ _ _ _ => (pts_one (pt_val (pe_ix ix_seq (pv 1) (pv 2) (fun _ _ => rfl))))) (fun _ _ _ _ _ => (pv 2))))))))))))))))))))
def sp__law_bases : USp := fun us μ R _ => ∃ p c fs r, us = [.ref p] ∧ μ p = some (.exn c fs) ∧ rowOf c = some r ∧ R (.dat (boolsD (basesB c r))) μ
theorem ln__law_bases (us : List UV) (μ : Mem) (R : UK) (X : UX) (h : sp__law_bases us μ R X) : us.length = 1 := by
  obtain ⟨_, _, _, _, rfl, _⟩ := h
  rfl
def t__law_bases (K : PySem.W.Frag) (a : Ad) : TS :=
  (tSeq (tAsg (tLstG (tCons (tCB (rIsiU K) (tCons (tVar 0) (tCons (tC (.ref a.c_CaughtError)) tNil))) (tCons (tCB (rIsiU K) (tCons (tVar 0) (tCons (tC (.ref a.c_AbsentError)) tNil))) (tCons (tCB (rIsiU K) (tCons (tVar 0) (tCons (tC (.ref a.c_StateError)) tNil))) tNil)))) (gName 1))
  (tRet (tOp (rAddW K) (tVar 1) (tLstG (tCons (tCB (rIsiU K) (tCons (tVar 0) (tCons (tC (.ty "ValueError")) tNil))) (tCons (tCB (rIsiU K) (tCons (tVar 0) (tCons (tC (.ty "KeyError")) tNil))) (tCons (tCB (rIsiU K) (tCons (tVar 0) (tCons (tC (.ty "LookupError")) tNil))) tNil)))))))
def u__law_bases : US :=
  (uSeq (uAsg (uLst (uCons (uIsX xt "CaughtError" (uVar 0)) (uCons (uIsX xt "AbsentError" (uVar 0)) (uCons (uIsX xt "StateError" (uVar 0)) uNil)))) (gNameU 1))
  (uRet (uOp opAdd (uVar 1) (uLst (uCons (uIsB xt "ValueError" (uVar 0)) (uCons (uIsB xt "KeyError" (uVar 0)) (uCons (uIsB xt "LookupError" (uVar 0)) uNil)))))))
theorem S__law_bases {K : PySem.W.Frag} {mg : Str → Option Value} {a : Ad} (T : Txt K mg a) : SS K L0 (t__law_bases K a) (u__law_bases) :=
  (ss_seq (ss_asg (se_lst (sa_cons (T.sx_CaughtError se_var) (sa_cons (T.sx_AbsentError se_var) (sa_cons (T.sx_StateError se_var) sa_nil)))) (sg_name (vs := [1]) (by decide)))
    (ss_ret (se_op os_add se_var (se_lst (sa_cons (se_isB T.xcs (by decide +kernel) se_var) (sa_cons (se_isB T.xcs (by decide +kernel) se_var) (sa_cons (se_isB T.xcs (by decide +kernel) se_var) sa_nil)))))))
theorem rdu__law_bases (us : List UV) (μ : Mem) (R : UK) (X : UX) (h : sp__law_bases us μ R X) : u__law_bases (endU R) (startU 2 us) μ := by
  obtain ⟨p, c, fs, r, rfl, hp, hr, q⟩ := h
  unfold u__law_bases
  refine seq_step fun K hK => ?_
  simp only [isX_eq hp hr, isBu_eq hp hr, uIf, uRet, uRetN, uDrop, uAsg, uPar, gNameU, gTupU, asgAll, uVar, uC, uNil, uCons, uTup, uLst, uIx, uOp, uUn, uM1, uTst, uNotT, uAnd, uOr, uAndV, uOrV, uNotV, uIfE, uChain, uIsi, uIsN, uNotN, uSl, uPart, uNoPart, uLen, uCall, uNext, uAny, itemsU, asB, okD, uBin, uUn1, rdv_dat, ixU, tyU, lenU, tyD, startU, endU, uYes, allD, uLc, uFz, uFrz, frzU, wipeU, uFor, uRng1, uRng2, opEq, opNe, opNeX, opIn, opNotIn, eqE, eqX, eqB, opLt, opLe, opGt, opGe, opAdd, opSub, opInt, List.replicate, if_true, if_false, Nat.reduceSub, Nat.reduceAdd, Nat.reduceLeDiff, Nat.zero_le, atI_0, atI_1, atI_2, atI_3, atI_4, opIx, opSl, spF, spFL, in_sign, in_tup2, in_tup3, kbs, lss, List.cons_append, List.nil_append]
  rw [hK]
  clear hK
  simp only [isX_eq hp hr, isBu_eq hp hr, uIf, uRet, uRetN, uDrop, uAsg, uPar, gNameU, gTupU, asgAll, uVar, uC, uNil, uCons, uTup, uLst, uIx, uOp, uUn, uM1, uTst, uNotT, uAnd, uOr, uAndV, uOrV, uNotV, uIfE, uChain, uIsi, uIsN, uNotN, uSl, uPart, uNoPart, uLen, uCall, uNext, uAny, itemsU, asB, okD, uBin, uUn1, rdv_dat, ixU, tyU, lenU, tyD, startU, endU, uYes, allD, uLc, uFz, uFrz, frzU, wipeU, uFor, uRng1, uRng2, opEq, opNe, opNeX, opIn, opNotIn, eqE, eqX, eqB, opLt, opLe, opGt, opGe, opAdd, opSub, opInt, List.replicate, if_true, if_false, Nat.reduceSub, Nat.reduceAdd, Nat.reduceLeDiff, Nat.zero_le, atI_0, atI_1, atI_2, atI_3, atI_4, opIx, opSl, spF, spFL, in_sign, in_tup2, in_tup3, kbs, lss, List.cons_append, List.nil_append]
  exact fin_of Wk.refl q
theorem ok__law_bases {P : Program} {w : World} {K : PySem.W.Frag} {mg : Str → Option Value} {base : Heap} {a : Ad} (T : Txt K mg a) : FnOk P w K mg base CX0 3 a.f__law_bases a.d__law_bases ["_law_error"] (lift K sp__law_bases) := by
  refine T.F__law_bases.ok sc__law_bases (fun vs H Q E h => len_of ln__law_bases h) (fun cdv A outer s H vs Q E hr h => ⟨t__law_bases K a, ?_, CN.rd_of rfl (S__law_bases T) rdu__law_bases h⟩)
  exact (pss_cons (ps_set (i := 1) sc__law_bases.nd rfl (Or.inl rfl) (pe_lstG (pa_cons (pe_callB call_isiU (by rfl) T.b_isinstance (by decide +kernel) (pa_cons (pv 0) (pa_cons (pe_glob (by rfl) T.g_CaughtError rfl) pa_nil))) (pa_cons (pe_callB call_isiU (by rfl) T.b_isinstance (by decide +kernel) (pa_cons (pv 0) (pa_cons (pe_glob (by rfl) T.g_AbsentError rfl) pa_nil))) (pa_cons (pe_callB call_isiU (by rfl) T.b_isinstance (by decide +kernel) (pa_cons (pv 0) (pa_cons (pe_glob (by rfl) T.g_StateError rfl) pa_nil))) pa_nil)))))
      (pss_one (ps_ret (pe_op op_addW (pv 1) (pe_lstG (pa_cons (pe_callB call_isiU (by rfl) T.b_isinstance (by decide +kernel) (pa_cons (pv 0) (pa_cons (pe_bltn (by rfl) T.b_ValueError (by decide +kernel) rfl) pa_nil))) (pa_cons (pe_callB call_isiU (by rfl) T.b_isinstance (by decide +kernel) (pa_cons (pv 0) (pa_cons (pe_bltn (by rfl) T.b_KeyError (by decide +kernel) rfl) pa_nil))) (pa_cons (pe_callB call_isiU (by rfl) T.b_isinstance (by decide +kernel) (pa_cons (pv 0) (pa_cons (pe_bltn (by rfl) T.b_LookupError (by decide +kernel) rfl) pa_nil))) pa_nil))))))))
def sp__law_due : USp := fun us μ R _ => ∃ k : Int, us = [.dat (.int k)] ∧ R (.dat (boolsD (dueB k))) μ
theorem ln__law_due (us : List UV) (μ : Mem) (R : UK) (X : UX) (h : sp__law_due us μ R X) : us.length = 1 := by
  obtain ⟨_, rfl, _⟩ := h
  rfl
def t__law_due (K : PySem.W.Frag) (a : Ad) : TS :=
  (tSeq (tIfS (tTest (tOp rLtU (tVar 0) (tC (.int 23)))) (tRet (tLstG (tCons (tC (.bl true)) (tCons (tC (.bl false)) (tCons (tC (.bl false)) (tCons (tC (.bl true)) (tCons (tC (.bl false)) (tCons (tC (.bl false)) tNil)))))))) tNext)
  (tSeq (tIfS (tTest (tOp rLtU (tVar 0) (tC (.int 26)))) (tRet (tLstG (tCons (tC (.bl false)) (tCons (tC (.bl true)) (tCons (tC (.bl false)) (tCons (tC (.bl false)) (tCons (tC (.bl true)) (tCons (tC (.bl true)) tNil)))))))) tNext)
  (tRet (tLstG (tCons (tC (.bl false)) (tCons (tC (.bl false)) (tCons (tC (.bl true)) (tCons (tC (.bl false)) (tCons (tC (.bl false)) (tCons (tC (.bl true)) tNil))))))))))
def u__law_due : US :=
  (uSeq (uIf (uTst (uOp opLt (uVar 0) (uC (.int 23)))) (uRet (uLst (uCons (uC (.bool true)) (uCons (uC (.bool false)) (uCons (uC (.bool false)) (uCons (uC (.bool true)) (uCons (uC (.bool false)) (uCons (uC (.bool false)) uNil)))))))) uNext)
  (uSeq (uIf (uTst (uOp opLt (uVar 0) (uC (.int 26)))) (uRet (uLst (uCons (uC (.bool false)) (uCons (uC (.bool true)) (uCons (uC (.bool false)) (uCons (uC (.bool false)) (uCons (uC (.bool true)) (uCons (uC (.bool true)) uNil)))))))) uNext)
  (uRet (uLst (uCons (uC (.bool false)) (uCons (uC (.bool false)) (uCons (uC (.bool true)) (uCons (uC (.bool false)) (uCons (uC (.bool false)) (uCons (uC (.bool true)) uNil))))))))))
theorem S__law_due {K : PySem.W.Frag} {mg : Str → Option Value} {a : Ad} (T : Txt K mg a) : SS K L0 (t__law_due K a) (u__law_due) :=
  (ss_seq (ss_if (st_test (se_op os_lt se_var se_int)) (ss_ret (se_lst (sa_cons se_bl (sa_cons se_bl (sa_cons se_bl (sa_cons se_bl (sa_cons se_bl (sa_cons se_bl sa_nil)))))))) ss_next)
    (ss_seq (ss_if (st_test (se_op os_lt se_var se_int)) (ss_ret (se_lst (sa_cons se_bl (sa_cons se_bl (sa_cons se_bl (sa_cons se_bl (sa_cons se_bl (sa_cons se_bl sa_nil)))))))) ss_next)
    (ss_ret (se_lst (sa_cons se_bl (sa_cons se_bl (sa_cons se_bl (sa_cons se_bl (sa_cons se_bl (sa_cons se_bl sa_nil))))))))))
theorem rdu__law_due (us : List UV) (μ : Mem) (R : UK) (X : UX) (h : sp__law_due us μ R X) : u__law_due (endU R) (startU 1 us) μ := by
  obtain ⟨k, rfl, q⟩ := h
  unfold u__law_due
  refine seq_step fun K hK => ?_
  unfold dueB boolsD at q
  by_cases h1 : k < 23
  · rw [if_pos h1] at q
    simp only [uIf, uRet, uRetN, uDrop, uAsg, uPar, gNameU, gTupU, asgAll, uVar, uC, uNil, uCons, uTup, uLst, uIx, uOp, uUn, uM1, uTst, uNotT, uAnd, uOr, uAndV, uOrV, uNotV, uIfE, uChain, uIsi, uIsN, uNotN, uSl, uPart, uNoPart, uLen, uCall, uNext, uAny, itemsU, asB, okD, uBin, uUn1, rdv_dat, ixU, tyU, lenU, tyD, startU, endU, uYes, allD, uLc, uFz, uFrz, frzU, wipeU, uFor, uRng1, uRng2, opEq, opNe, opNeX, opIn, opNotIn, eqE, eqX, eqB, opLt, opLe, opGt, opGe, opAdd, opSub, opInt, List.replicate, if_true, if_false, Nat.reduceSub, Nat.reduceAdd, Nat.reduceLeDiff, Nat.zero_le, atI_0, atI_1, atI_2, atI_3, atI_4, opIx, opSl, spF, spFL, in_sign, in_tup2, in_tup3, kbs, lss, decide_eq_true h1]
    exact fin_of Wk.refl q
  · rw [if_neg h1] at q
    simp only [uIf, uRet, uRetN, uDrop, uAsg, uPar, gNameU, gTupU, asgAll, uVar, uC, uNil, uCons, uTup, uLst, uIx, uOp, uUn, uM1, uTst, uNotT, uAnd, uOr, uAndV, uOrV, uNotV, uIfE, uChain, uIsi, uIsN, uNotN, uSl, uPart, uNoPart, uLen, uCall, uNext, uAny, itemsU, asB, okD, uBin, uUn1, rdv_dat, ixU, tyU, lenU, tyD, startU, endU, uYes, allD, uLc, uFz, uFrz, frzU, wipeU, uFor, uRng1, uRng2, opEq, opNe, opNeX, opIn, opNotIn, eqE, eqX, eqB, opLt, opLe, opGt, opGe, opAdd, opSub, opInt, List.replicate, if_true, if_false, Nat.reduceSub, Nat.reduceAdd, Nat.reduceLeDiff, Nat.zero_le, atI_0, atI_1, atI_2, atI_3, atI_4, opIx, opSl, spF, spFL, in_sign, in_tup2, in_tup3, kbs, lss, decide_eq_false h1]
    rw [hK]
    clear hK
    refine seq_step fun K hK => ?_
    by_cases h2 : k < 26
    · rw [if_pos h2] at q
      simp only [uIf, uRet, uRetN, uDrop, uAsg, uPar, gNameU, gTupU, asgAll, uVar, uC, uNil, uCons, uTup, uLst, uIx, uOp, uUn, uM1, uTst, uNotT, uAnd, uOr, uAndV, uOrV, uNotV, uIfE, uChain, uIsi, uIsN, uNotN, uSl, uPart, uNoPart, uLen, uCall, uNext, uAny, itemsU, asB, okD, uBin, uUn1, rdv_dat, ixU, tyU, lenU, tyD, startU, endU, uYes, allD, uLc, uFz, uFrz, frzU, wipeU, uFor, uRng1, uRng2, opEq, opNe, opNeX, opIn, opNotIn, eqE, eqX, eqB, opLt, opLe, opGt, opGe, opAdd, opSub, opInt, List.replicate, if_true, if_false, Nat.reduceSub, Nat.reduceAdd, Nat.reduceLeDiff, Nat.zero_le, atI_0, atI_1, atI_2, atI_3, atI_4, opIx, opSl, spF, spFL, in_sign, in_tup2, in_tup3, kbs, lss, decide_eq_true h2]
      exact fin_of Wk.refl q
    · rw [if_neg h2] at q
      simp only [uIf, uRet, uRetN, uDrop, uAsg, uPar, gNameU, gTupU, asgAll, uVar, uC, uNil, uCons, uTup, uLst, uIx, uOp, uUn, uM1, uTst, uNotT, uAnd, uOr, uAndV, uOrV, uNotV, uIfE, uChain, uIsi, uIsN, uNotN, uSl, uPart, uNoPart, uLen, uCall, uNext, uAny, itemsU, asB, okD, uBin, uUn1, rdv_dat, ixU, tyU, lenU, tyD, startU, endU, uYes, allD, uLc, uFz, uFrz, frzU, wipeU, uFor, uRng1, uRng2, opEq, opNe, opNeX, opIn, opNotIn, eqE, eqX, eqB, opLt, opLe, opGt, opGe, opAdd, opSub, opInt, List.replicate, if_true, if_false, Nat.reduceSub, Nat.reduceAdd, Nat.reduceLeDiff, Nat.zero_le, atI_0, atI_1, atI_2, atI_3, atI_4, opIx, opSl, spF, spFL, in_sign, in_tup2, in_tup3, kbs, lss, decide_eq_false h2]
      rw [hK]
      clear hK
      simp only [uIf, uRet, uRetN, uDrop, uAsg, uPar, gNameU, gTupU, asgAll, uVar, uC, uNil, uCons, uTup, uLst, uIx, uOp, uUn, uM1, uTst, uNotT, uAnd, uOr, uAndV, uOrV, uNotV, uIfE, uChain, uIsi, uIsN, uNotN, uSl, uPart, uNoPart, uLen, uCall, uNext, uAny, itemsU, asB, okD, uBin, uUn1, rdv_dat, ixU, tyU, lenU, tyD, startU, endU, uYes, allD, uLc, uFz, uFrz, frzU, wipeU, uFor, uRng1, uRng2, opEq, opNe, opNeX, opIn, opNotIn, eqE, eqX, eqB, opLt, opLe, opGt, opGe, opAdd, opSub, opInt, List.replicate, if_true, if_false, Nat.reduceSub, Nat.reduceAdd, Nat.reduceLeDiff, Nat.zero_le, atI_0, atI_1, atI_2, atI_3, atI_4, opIx, opSl, spF, spFL, in_sign, in_tup2, in_tup3, kbs, lss]
      exact fin_of Wk.refl q
theorem ok__law_due {P : Program} {w : World} {K : PySem.W.Frag} {mg : Str → Option Value} {base : Heap} {a : Ad} (T : Txt K mg a) : FnOk P w K mg base CX0 3 a.f__law_due a.d__law_due ["_law_k"] (lift K sp__law_due) := by
  refine T.F__law_due.ok sc__law_due (fun vs H Q E h => len_of ln__law_due h) (fun cdv A outer s H vs Q E hr h => ⟨t__law_due K a, ?_, CN.rd_of rfl (S__law_due T) rdu__law_due h⟩)
  exact (pss_cons (ps_if (pt_cmpR op_ltU (pv 0) pe_int (nomark _)) (pss_one (ps_ret (pe_lstG (pa_cons pe_bl (pa_cons pe_bl (pa_cons pe_bl (pa_cons pe_bl (pa_cons pe_bl (pa_cons pe_bl pa_nil))))))))) pss_nil)
      (pss_cons (ps_if (pt_cmpR op_ltU (pv 0) pe_int (nomark _)) (pss_one (ps_ret (pe_lstG (pa_cons pe_bl (pa_cons pe_bl (pa_cons pe_bl (pa_cons pe_bl (pa_cons pe_bl (pa_cons pe_bl pa_nil))))))))) pss_nil)
      (pss_one (ps_ret (pe_lstG (pa_cons pe_bl (pa_cons pe_bl (pa_cons pe_bl (pa_cons pe_bl (pa_cons pe_bl (pa_cons pe_bl pa_nil)))))))))))
def fl (k : Nat) : Str := ((cfs.map Prod.snd)[k]?).getD ""
def sp__law_field : USp := fun us μ R _ => ∃ p c x, ∃ k : Nat, us = [.ref p, .dat (.int k)] ∧ k < 27 ∧ μ p = some (.exn c [(fl k, x)]) ∧ R x μ
theorem ln__law_field (us : List UV) (μ : Mem) (R : UK) (X : UX) (h : sp__law_field us μ R X) : us.length = 2 := by
  obtain ⟨_, _, _, _, rfl, _⟩ := h
  rfl
def t__law_field (K : PySem.W.Frag) (a : Ad) : TS :=
  (tSeq (tIfS (tTest (tOp rLtU (tVar 1) (tC (.int 19)))) (tRet (tFldX K "value" (tVar 0))) tNext)
  (tSeq (tIfS (tTest (tOp (rEqW K) (tVar 1) (tC (.int 21)))) (tRet (tFldX K "count" (tVar 0))) tNext)
  (tSeq (tIfS (tTest (tOp (rEqW K) (tVar 1) (tC (.int 22)))) (tRet (tFldX K "index" (tVar 0))) tNext)
  (tRet (tIf (tTest (tOp (rEqW K) (tVar 1) (tC (.int 25)))) (tFldX K "number" (tVar 0)) (tFldX K "name" (tVar 0)))))))
def u__law_field : US :=
  (uSeq (uIf (uTst (uOp opLt (uVar 1) (uC (.int 19)))) (uRet (uFldX "value" (uVar 0))) uNext)
  (uSeq (uIf (uTst (uOp opEq (uVar 1) (uC (.int 21)))) (uRet (uFldX "count" (uVar 0))) uNext)
  (uSeq (uIf (uTst (uOp opEq (uVar 1) (uC (.int 22)))) (uRet (uFldX "index" (uVar 0))) uNext)
  (uRet (uIfE (uTst (uOp opEq (uVar 1) (uC (.int 25)))) (uFldX "number" (uVar 0)) (uFldX "name" (uVar 0)))))))
theorem S__law_field {K : PySem.W.Frag} {mg : Str → Option Value} {a : Ad} (T : Txt K mg a) : SS K L0 (t__law_field K a) (u__law_field) :=
  (ss_seq (ss_if (st_test (se_op os_lt se_var se_int)) (ss_ret (se_fldX se_var)) ss_next)
    (ss_seq (ss_if (st_test (se_op os_eq se_var se_int)) (ss_ret (se_fldX se_var)) ss_next)
    (ss_seq (ss_if (st_test (se_op os_eq se_var se_int)) (ss_ret (se_fldX se_var)) ss_next)
    (ss_ret (se_ife (st_test (se_op os_eq se_var se_int)) (se_fldX se_var) (se_fldX se_var))))))
theorem fld_eq {p : Addr} {c f : Str} {x : UV} {μ : Mem} {ρ : Rho} {R : UK} (hp : μ p = some (.exn c [(f, x)])) (q : R x μ) : uFldX f (uVar 0) (some (.ref p) :: ρ) μ R :=
  ⟨p, c, _, x, rfl, hp, by rw [List.lookup_cons]; simp, q⟩
theorem fls : ∀ k < 27, fl k = if k < 19 then "value" else if k = 21 then "count" else if k = 22 then "index" else if k = 25 then "number" else "name" := by decide +kernel
theorem rdu__law_field (us : List UV) (μ : Mem) (R : UK) (X : UX) (h : sp__law_field us μ R X) : u__law_field (endU R) (startU 2 us) μ := by
  obtain ⟨p, c, x, k, rfl, hk, hp, q⟩ := h
  rw [fls k hk] at hp
  have q : CN.Fin R x μ := fin_of Wk.refl q
  unfold u__law_field
  refine seq_step fun K hK => ?_
  by_cases h1 : k < 19
  · rw [if_pos h1] at hp
    have e1 : decide ((k : Int) < 19) = true := decide_eq_true (by omega)
    simp only [uIf, uRet, uRetN, uDrop, uAsg, uPar, gNameU, gTupU, asgAll, uVar, uC, uNil, uCons, uTup, uLst, uIx, uOp, uUn, uM1, uTst, uNotT, uAnd, uOr, uAndV, uOrV, uNotV, uIfE, uChain, uIsi, uIsN, uNotN, uSl, uPart, uNoPart, uLen, uCall, uNext, uAny, itemsU, asB, okD, uBin, uUn1, rdv_dat, ixU, tyU, lenU, tyD, startU, endU, uYes, allD, uLc, uFz, uFrz, frzU, wipeU, uFor, uRng1, uRng2, opEq, opNe, opNeX, opIn, opNotIn, eqE, eqX, eqB, opLt, opLe, opGt, opGe, opAdd, opSub, opInt, List.replicate, if_true, if_false, Nat.reduceSub, Nat.reduceAdd, Nat.reduceLeDiff, Nat.zero_le, atI_0, atI_1, atI_2, atI_3, atI_4, opIx, opSl, spF, spFL, in_sign, in_tup2, in_tup3, kbs, lss, e1]
    exact fld_eq hp q
  rw [if_neg h1] at hp
  have e1 : decide ((k : Int) < 19) = false := decide_eq_false (by omega)
  simp only [uIf, uRet, uRetN, uDrop, uAsg, uPar, gNameU, gTupU, asgAll, uVar, uC, uNil, uCons, uTup, uLst, uIx, uOp, uUn, uM1, uTst, uNotT, uAnd, uOr, uAndV, uOrV, uNotV, uIfE, uChain, uIsi, uIsN, uNotN, uSl, uPart, uNoPart, uLen, uCall, uNext, uAny, itemsU, asB, okD, uBin, uUn1, rdv_dat, ixU, tyU, lenU, tyD, startU, endU, uYes, allD, uLc, uFz, uFrz, frzU, wipeU, uFor, uRng1, uRng2, opEq, opNe, opNeX, opIn, opNotIn, eqE, eqX, eqB, opLt, opLe, opGt, opGe, opAdd, opSub, opInt, List.replicate, if_true, if_false, Nat.reduceSub, Nat.reduceAdd, Nat.reduceLeDiff, Nat.zero_le, atI_0, atI_1, atI_2, atI_3, atI_4, opIx, opSl, spF, spFL, in_sign, in_tup2, in_tup3, kbs, lss, e1]
  rw [hK]
  clear hK
  refine seq_step fun K hK => ?_
  by_cases h2 : k = 21
  · rw [if_pos h2] at hp
    have e2 : decide ((k : Int) = 21) = true := decide_eq_true (by omega)
    simp only [uIf, uRet, uRetN, uDrop, uAsg, uPar, gNameU, gTupU, asgAll, uVar, uC, uNil, uCons, uTup, uLst, uIx, uOp, uUn, uM1, uTst, uNotT, uAnd, uOr, uAndV, uOrV, uNotV, uIfE, uChain, uIsi, uIsN, uNotN, uSl, uPart, uNoPart, uLen, uCall, uNext, uAny, itemsU, asB, okD, uBin, uUn1, rdv_dat, ixU, tyU, lenU, tyD, startU, endU, uYes, allD, uLc, uFz, uFrz, frzU, wipeU, uFor, uRng1, uRng2, opEq, opNe, opNeX, opIn, opNotIn, eqE, eqX, eqB, opLt, opLe, opGt, opGe, opAdd, opSub, opInt, List.replicate, if_true, if_false, Nat.reduceSub, Nat.reduceAdd, Nat.reduceLeDiff, Nat.zero_le, atI_0, atI_1, atI_2, atI_3, atI_4, opIx, opSl, spF, spFL, in_sign, in_tup2, in_tup3, kbs, lss, e2]
    exact fld_eq hp q
  rw [if_neg h2] at hp
  have e2 : decide ((k : Int) = 21) = false := decide_eq_false (by omega)
  simp only [uIf, uRet, uRetN, uDrop, uAsg, uPar, gNameU, gTupU, asgAll, uVar, uC, uNil, uCons, uTup, uLst, uIx, uOp, uUn, uM1, uTst, uNotT, uAnd, uOr, uAndV, uOrV, uNotV, uIfE, uChain, uIsi, uIsN, uNotN, uSl, uPart, uNoPart, uLen, uCall, uNext, uAny, itemsU, asB, okD, uBin, uUn1, rdv_dat, ixU, tyU, lenU, tyD, startU, endU, uYes, allD, uLc, uFz, uFrz, frzU, wipeU, uFor, uRng1, uRng2, opEq, opNe, opNeX, opIn, opNotIn, eqE, eqX, eqB, opLt, opLe, opGt, opGe, opAdd, opSub, opInt, List.replicate, if_true, if_false, Nat.reduceSub, Nat.reduceAdd, Nat.reduceLeDiff, Nat.zero_le, atI_0, atI_1, atI_2, atI_3, atI_4, opIx, opSl, spF, spFL, in_sign, in_tup2, in_tup3, kbs, lss, e2]
  rw [hK]
  clear hK
  refine seq_step fun K hK => ?_
  by_cases h3 : k = 22
  · rw [if_pos h3] at hp
    have e3 : decide ((k : Int) = 22) = true := decide_eq_true (by omega)
    simp only [uIf, uRet, uRetN, uDrop, uAsg, uPar, gNameU, gTupU, asgAll, uVar, uC, uNil, uCons, uTup, uLst, uIx, uOp, uUn, uM1, uTst, uNotT, uAnd, uOr, uAndV, uOrV, uNotV, uIfE, uChain, uIsi, uIsN, uNotN, uSl, uPart, uNoPart, uLen, uCall, uNext, uAny, itemsU, asB, okD, uBin, uUn1, rdv_dat, ixU, tyU, lenU, tyD, startU, endU, uYes, allD, uLc, uFz, uFrz, frzU, wipeU, uFor, uRng1, uRng2, opEq, opNe, opNeX, opIn, opNotIn, eqE, eqX, eqB, opLt, opLe, opGt, opGe, opAdd, opSub, opInt, List.replicate, if_true, if_false, Nat.reduceSub, Nat.reduceAdd, Nat.reduceLeDiff, Nat.zero_le, atI_0, atI_1, atI_2, atI_3, atI_4, opIx, opSl, spF, spFL, in_sign, in_tup2, in_tup3, kbs, lss, e3]
    exact fld_eq hp q
  rw [if_neg h3] at hp
  have e3 : decide ((k : Int) = 22) = false := decide_eq_false (by omega)
  simp only [uIf, uRet, uRetN, uDrop, uAsg, uPar, gNameU, gTupU, asgAll, uVar, uC, uNil, uCons, uTup, uLst, uIx, uOp, uUn, uM1, uTst, uNotT, uAnd, uOr, uAndV, uOrV, uNotV, uIfE, uChain, uIsi, uIsN, uNotN, uSl, uPart, uNoPart, uLen, uCall, uNext, uAny, itemsU, asB, okD, uBin, uUn1, rdv_dat, ixU, tyU, lenU, tyD, startU, endU, uYes, allD, uLc, uFz, uFrz, frzU, wipeU, uFor, uRng1, uRng2, opEq, opNe, opNeX, opIn, opNotIn, eqE, eqX, eqB, opLt, opLe, opGt, opGe, opAdd, opSub, opInt, List.replicate, if_true, if_false, Nat.reduceSub, Nat.reduceAdd, Nat.reduceLeDiff, Nat.zero_le, atI_0, atI_1, atI_2, atI_3, atI_4, opIx, opSl, spF, spFL, in_sign, in_tup2, in_tup3, kbs, lss, e3]
  rw [hK]
  clear hK
  by_cases h4 : k = 25
  · rw [if_pos h4] at hp
    have e4 : decide ((k : Int) = 25) = true := decide_eq_true (by omega)
    simp only [uIf, uRet, uRetN, uDrop, uAsg, uPar, gNameU, gTupU, asgAll, uVar, uC, uNil, uCons, uTup, uLst, uIx, uOp, uUn, uM1, uTst, uNotT, uAnd, uOr, uAndV, uOrV, uNotV, uIfE, uChain, uIsi, uIsN, uNotN, uSl, uPart, uNoPart, uLen, uCall, uNext, uAny, itemsU, asB, okD, uBin, uUn1, rdv_dat, ixU, tyU, lenU, tyD, startU, endU, uYes, allD, uLc, uFz, uFrz, frzU, wipeU, uFor, uRng1, uRng2, opEq, opNe, opNeX, opIn, opNotIn, eqE, eqX, eqB, opLt, opLe, opGt, opGe, opAdd, opSub, opInt, List.replicate, if_true, if_false, Nat.reduceSub, Nat.reduceAdd, Nat.reduceLeDiff, Nat.zero_le, atI_0, atI_1, atI_2, atI_3, atI_4, opIx, opSl, spF, spFL, in_sign, in_tup2, in_tup3, kbs, lss, e4]
    exact fld_eq hp q
  · rw [if_neg h4] at hp
    have e4 : decide ((k : Int) = 25) = false := decide_eq_false (by omega)
    simp only [uIf, uRet, uRetN, uDrop, uAsg, uPar, gNameU, gTupU, asgAll, uVar, uC, uNil, uCons, uTup, uLst, uIx, uOp, uUn, uM1, uTst, uNotT, uAnd, uOr, uAndV, uOrV, uNotV, uIfE, uChain, uIsi, uIsN, uNotN, uSl, uPart, uNoPart, uLen, uCall, uNext, uAny, itemsU, asB, okD, uBin, uUn1, rdv_dat, ixU, tyU, lenU, tyD, startU, endU, uYes, allD, uLc, uFz, uFrz, frzU, wipeU, uFor, uRng1, uRng2, opEq, opNe, opNeX, opIn, opNotIn, eqE, eqX, eqB, opLt, opLe, opGt, opGe, opAdd, opSub, opInt, List.replicate, if_true, if_false, Nat.reduceSub, Nat.reduceAdd, Nat.reduceLeDiff, Nat.zero_le, atI_0, atI_1, atI_2, atI_3, atI_4, opIx, opSl, spF, spFL, in_sign, in_tup2, in_tup3, kbs, lss, e4]
    exact fld_eq hp q
theorem ok__law_field {P : Program} {w : World} {K : PySem.W.Frag} {mg : Str → Option Value} {base : Heap} {a : Ad} (T : Txt K mg a) : FnOk P w K mg base CX0 3 a.f__law_field a.d__law_field ["_law_error", "_law_k"] (lift K sp__law_field) := by
  refine T.F__law_field.ok sc__law_field (fun vs H Q E h => len_of ln__law_field h) (fun cdv A outer s H vs Q E hr h => ⟨t__law_field K a, ?_, CN.rd_of rfl (S__law_field T) rdu__law_field h⟩)
  exact (pss_cons (ps_if (pt_cmpR op_ltU (pv 1) pe_int (nomark _)) (pss_one (ps_ret (pe_fldX (pv 0)))) pss_nil)
      (pss_cons (ps_if (pt_cmpR (op_eqW (room200 hr)) (pv 1) pe_int (nomark _)) (pss_one (ps_ret (pe_fldX (pv 0)))) pss_nil)
      (pss_cons (ps_if (pt_cmpR (op_eqW (room200 hr)) (pv 1) pe_int (nomark _)) (pss_one (ps_ret (pe_fldX (pv 0)))) pss_nil)
      (pss_one (ps_ret (pe_ifExp (pt_cmpR (op_eqW (room200 hr)) (pv 1) pe_int (nomark _)) (pe_fldX (pv 0)) (pe_fldX (pv 0))))))))
end K03

set_option Elab.async false
set_option linter.all false
set_option maxRecDepth 100000
set_option maxHeartbeats 4000000
namespace K03
open PySem PySem.Spec PyProof.Rows L2 CN Evl
def Vk (x : UV) (μ : Mem) : Prop := ∃ (fp : List (Addr × MO)) (d : PyData) (s : Str), (∀ q ∈ fp, μ q.1 = some q.2) ∧ (∀ ν : Mem, (∀ q ∈ fp, ν q.1 = some q.2) → rdE 4 ν x = some d) ∧ opRepr d = some (.str s)
theorem Vk.to {x : UV} {μ ν : Mem} (h : Vk x μ) (o : Old μ ν) : Vk x ν := by
  obtain ⟨fp, d, s, h1, h2, h3⟩ := h
  exact ⟨fp, d, s, fun q hq => o _ _ (h1 q hq), h2, h3⟩
theorem Vk.rd {x : UV} {μ : Mem} (h : Vk x μ) : ∃ d s, (∀ ν, Old μ ν → rdE 4 ν x = some d) ∧ opRepr d = some (.str s) := by
  obtain ⟨fp, d, s, h1, h2, h3⟩ := h
  exact ⟨d, s, fun ν o => h2 ν fun q hq => o _ _ (h1 q hq), h3⟩
def Vc (x : UV) (μ : Mem) : Prop := (∃ d, x = .dat d ∧ kitB (tyD d) "list" = some false ∧ kitB (tyD d) "dict" = some false) ∨
  (∃ p us, x = .ref p ∧ μ p = some (.lst us) ∧ us.length ≤ 5 ∧ ∀ ν, Old μ ν → Vk x (put ν p (.lst (us ++ [.dat (.str "late")])))) ∨
  ∃ p kvs, x = .ref p ∧ μ p = some (.dct kvs) ∧ kvs.length < 5 ∧ ∀ ν, Old μ ν → Vk x (put ν p (.dct (putG kvs (.inr "late") (.dat (.int 1)))))
theorem vk_dat {d : PyData} {μ : Mem} (h : d.showable = true ∧ d.depth ≤ 190 ∧ d.shown.length ≤ sizeLine) : Vk (.dat d) μ := ⟨[], d, d.shown, (fun _ h => nomatch h), fun ν _ => rfl, if_pos h⟩
theorem rd_l {ν : Mem} {p : Addr} {us : List UV} {n : Nat} (h : ν p = some (.lst us)) : rdE (n + 1) ν (.ref p) = (us.mapM (rdE n ν)).map PyData.list := by
  show (match ν p with | some (.lst us) => (us.mapM (rdE n ν)).map PyData.list | some (.tpl us) => _ | some (.dct kvs) => _ | _ => none) = _
  rw [h]
theorem rd_d {ν : Mem} {p : Addr} {kvs : List (Key × UV)} {n : Nat} (h : ν p = some (.dct kvs)) : rdE (n + 1) ν (.ref p) = (kvs.mapM fun q => (rdE n ν q.2).map fun d => (keyD q.1, d)).map PyData.dict := by
  rw [rdE]
  rw [h]
theorem rd_dat {ν : Mem} {n : Nat} {d : PyData} : rdE (n + 1) ν (.dat d) = some d := rfl
theorem vk_of {x : UV} {μ : Mem} (fp : List (Addr × MO)) (d : PyData) (h1 : ∀ q ∈ fp, μ q.1 = some q.2) (h2 : ∀ ν : Mem, (∀ q ∈ fp, ν q.1 = some q.2) → rdE 4 ν x = some d) (h : d.showable = true ∧ d.depth ≤ 190 ∧ d.shown.length ≤ sizeLine) : Vk x μ := ⟨fp, d, d.shown, h1, h2, if_pos h⟩
theorem fp1 {P : Addr × MO → Prop} {a : Addr × MO} (h : P a) : ∀ q ∈ [a], P q := fun q hq => by rw [List.mem_singleton.mp hq]; exact h
theorem fp2 {P : Addr × MO → Prop} {a b : Addr × MO} (h : P a) (k : P b) : ∀ q ∈ [a, b], P q := fun q hq => by
  rcases List.mem_cons.mp hq with rfl | hq
  · exact h
  · exact fp1 k q hq
theorem v_dat {d : PyData} {μ : Mem} (h : d.showable = true ∧ d.depth ≤ 190 ∧ d.shown.length ≤ sizeLine) (hl : kitB (tyD d) "list" = some false) (hd : kitB (tyD d) "dict" = some false) : Vk (.dat d) μ ∧ Vc (.dat d) μ := ⟨vk_dat h, .inl ⟨d, rfl, hl, hd⟩⟩
theorem v_l0 {p : Addr} {μ : Mem} (h : μ p = some (.lst [])) : Vk (.ref p) μ ∧ Vc (.ref p) μ := by
  refine ⟨vk_of [(p, .lst [])] (.list []) (fp1 h) (fun ν hν => rd_l (hν _ (.head _))) (by decide +kernel), .inr (.inl ⟨p, _, rfl, h, by decide, fun ν o => ?_⟩)⟩
  exact vk_of [(p, .lst [.dat (.str "late")])] (.list [.str "late"]) (fp1 put_same) (fun ν hν => rd_l (hν _ (.head _))) (by decide +kernel)
theorem v_l2 {p : Addr} {μ : Mem} (h : μ p = some (.lst [.dat (.str "a")])) : Vk (.ref p) μ ∧ Vc (.ref p) μ := by
  refine ⟨vk_of [(p, .lst [.dat (.str "a")])] (.list [.str "a"]) (fp1 h) (fun ν hν => rd_l (hν _ (.head _))) (by decide +kernel), .inr (.inl ⟨p, _, rfl, h, by decide, fun ν o => ?_⟩)⟩
  exact vk_of [(p, .lst [.dat (.str "a"), .dat (.str "late")])] (.list [.str "a", .str "late"]) (fp1 put_same) (fun ν hν => rd_l (hν _ (.head _))) (by decide +kernel)
theorem rd_q {ν : Mem} {q : Addr} {d : PyData} {n : Nat} (h : ν q = some (.lst [.dat d])) : rdE (n + 2) ν (.ref q) = some (.list [d]) := (rd_l (n := n + 1) h).trans rfl
theorem v_l1 {p q : Addr} {μ : Mem} (h : μ p = some (.lst [.dat (.int 1), .ref q])) (hq : μ q = some (.lst [.dat (.int 2)])) (hne : q ≠ p) : Vk (.ref p) μ ∧ Vc (.ref p) μ := by
  have go : ∀ ν : Mem, ν p = some (.lst [.dat (.int 1), .ref q]) → ν q = some (.lst [.dat (.int 2)]) → rdE 4 ν (.ref p) = some (.list [.int 1, .list [.int 2]]) := fun ν h1 h2 => by
    rw [rd_l h1, List.mapM_cons, List.mapM_cons, List.mapM_nil, rd_dat, rd_q (n := 1) h2]
    rfl
  have go2 : ∀ ν : Mem, ν p = some (.lst [.dat (.int 1), .ref q, .dat (.str "late")]) → ν q = some (.lst [.dat (.int 2)]) → rdE 4 ν (.ref p) = some (.list [.int 1, .list [.int 2], .str "late"]) := fun ν h1 h2 => by
    rw [rd_l h1, List.mapM_cons, List.mapM_cons, List.mapM_cons, List.mapM_nil, rd_dat, rd_q (n := 1) h2, rd_dat]
    rfl
  refine ⟨vk_of [(p, .lst [.dat (.int 1), .ref q]), (q, .lst [.dat (.int 2)])] _ (fp2 h hq) (fun ν hν => go ν (hν _ (.head _)) (hν _ (.tail _ (.head _)))) (by decide +kernel), .inr (.inl ⟨p, _, rfl, h, by show 2 ≤ 5; decide, fun ν o => ?_⟩)⟩
  exact vk_of [(p, .lst [.dat (.int 1), .ref q, .dat (.str "late")]), (q, .lst [.dat (.int 2)])] _ (fp2 put_same (by rw [put_ne hne]; exact o _ _ hq)) (fun ν hν => go2 ν (hν _ (.head _)) (hν _ (.tail _ (.head _)))) (by decide +kernel)
theorem v_d0 {p : Addr} {μ : Mem} (h : μ p = some (.dct [])) : Vk (.ref p) μ ∧ Vc (.ref p) μ := by
  refine ⟨vk_of [(p, .dct [])] (.dict []) (fp1 h) (fun ν hν => rd_d (hν _ (.head _))) (by decide +kernel), .inr (.inr ⟨p, _, rfl, h, by decide, fun ν o => ?_⟩)⟩
  exact vk_of [(p, .dct [(.inr "late", .dat (.int 1))])] (.dict [(.str "late", .int 1)]) (fp1 put_same) (fun ν hν => rd_d (hν _ (.head _))) (by decide +kernel)
theorem v_d1 {p q : Addr} {μ : Mem} (h : μ p = some (.dct [(.inr "a", .ref q)])) (hq : μ q = some (.lst [.dat (.int 1)])) (hne : q ≠ p) : Vk (.ref p) μ ∧ Vc (.ref p) μ := by
  have go : ∀ ν : Mem, ν p = some (.dct [(.inr "a", .ref q)]) → ν q = some (.lst [.dat (.int 1)]) → rdE 4 ν (.ref p) = some (.dict [(.str "a", .list [.int 1])]) := fun ν h1 h2 => by
    rw [rd_d h1, List.mapM_cons, List.mapM_nil]
    show (((rdE 3 ν (.ref q)).map _ >>= _) : Option _).map _ = _
    rw [rd_q (n := 1) h2]
    rfl
  have go2 : ∀ ν : Mem, ν p = some (.dct [(.inr "a", .ref q), (.inr "late", .dat (.int 1))]) → ν q = some (.lst [.dat (.int 1)]) → rdE 4 ν (.ref p) = some (.dict [(.str "a", .list [.int 1]), (.str "late", .int 1)]) := fun ν h1 h2 => by
    rw [rd_d h1, List.mapM_cons, List.mapM_cons, List.mapM_nil]
    show (((rdE 3 ν (.ref q)).map _ >>= _) : Option _).map _ = _
    rw [rd_q (n := 1) h2]
    rfl
  refine ⟨vk_of [(p, .dct [(.inr "a", .ref q)]), (q, .lst [.dat (.int 1)])] _ (fp2 h hq) (fun ν hν => go ν (hν _ (.head _)) (hν _ (.tail _ (.head _)))) (by decide +kernel), .inr (.inr ⟨p, _, rfl, h, by show 1 < 5; decide, fun ν o => ?_⟩)⟩
  exact vk_of [(p, .dct [(.inr "a", .ref q), (.inr "late", .dat (.int 1))]), (q, .lst [.dat (.int 1)])] _ (fp2 put_same (by rw [put_ne hne]; exact o _ _ hq)) (fun ν hν => go2 ν (hν _ (.head _)) (hν _ (.tail _ (.head _)))) (by decide +kernel)
def sp__law_value : USp := fun us μ R _ => ∃ b c, us = [.ref b] ∧ μ b = some (.box c) ∧ 0 ≤ c ∧ c ≤ 1000000 ∧ ∀ x μ', Vk x μ' → Vc x μ' → R x μ'
theorem ln__law_value (us : List UV) (μ : Mem) (R : UK) (X : UX) (h : sp__law_value us μ R X) : us.length = 1 := by
  obtain ⟨_, _, rfl, _⟩ := h
  rfl
theorem ne_of_at {μ : Mem} {p q : Addr} {m : MO} (h : μ p = some m) (k : μ q = none) : q ≠ p := fun e => by rw [e, h] at k; cases k
def t__law_value (K : PySem.W.Frag) (a : Ad) : TS :=
  (tSeq (tAsg (tLstG (tCons (tC .non) (tCons (tC (.bl true)) (tCons (tC (.bl false)) (tCons (tC (.int 0)) (tCons (tUn rNegI (tC (.int 1))) (tCons (tOp rPowI (tC (.int 10)) (tC (.int 29))) (tCons (tC (.str "")) (tCons (tC (.str "a")) (tCons (tC (.str "let")) (tCons (tLstG tNil) (tCons (tLstG (tCons (tC (.int 1)) (tCons (tLstG (tCons (tC (.int 2)) tNil)) tNil))) (tCons tDNewK (tCons (tDisp [(tC (.str "a"), (tLstG (tCons (tC (.int 1)) tNil)))]) (tCons (tTupG tNil) (tCons (tTupG (tCons (tC (.str "name")) (tCons (tC (.str "a")) tNil))) (tCons (tLstG (tCons (tC (.str "a")) tNil)) tNil))))))))))))))))) (gName 1))
  (tRet (tOp (rIx K) (tVar 1) (tCall (lift K sp__law_take) [] E0 (tCons (tVar 0) (tCons (tC (.int 16)) tNil))))))
def u__law_value : US :=
  (uSeq (uAsg (uLstM (uCons (uC .none) (uCons (uC (.bool true)) (uCons (uC (.bool false)) (uCons (uC (.int 0)) (uCons (uUn opNeg (uC (.int 1))) (uCons (uOp opPow (uC (.int 10)) (uC (.int 29))) (uCons (uC (.str "")) (uCons (uC (.str "a")) (uCons (uC (.str "let")) (uCons (uLstM uNil) (uCons (uLstM (uCons (uC (.int 1)) (uCons (uLstM (uCons (uC (.int 2)) uNil)) uNil))) (uCons uDNewM (uCons (uDOneV "a" (uLstM (uCons (uC (.int 1)) uNil))) (uCons (uTup uNil) (uCons (uTup (uCons (uC (.str "name")) (uCons (uC (.str "a")) uNil))) (uCons (uLstM (uCons (uC (.str "a")) uNil)) uNil))))))))))))))))) (gNameU 1))
  (uRet (uIx (uVar 1) (uCall sp__law_take UX0 (uCons (uVar 0) (uCons (uC (.int 16)) uNil))))))
theorem S__law_value {K : PySem.W.Frag} {mg : Str → Option Value} {a : Ad} (T : Txt K mg a) : SS K L0 (t__law_value K a) (u__law_value) :=
  (ss_seq (ss_asg (se_lstM (sa_cons se_non (sa_cons se_bl (sa_cons se_bl (sa_cons se_int (sa_cons (se_un us_neg se_int) (sa_cons (se_op os_pow se_int se_int) (sa_cons se_str (sa_cons se_str (sa_cons se_str (sa_cons (se_lstM sa_nil) (sa_cons (se_lstM (sa_cons se_int (sa_cons (se_lstM (sa_cons se_int sa_nil)) sa_nil))) (sa_cons se_dnewM (sa_cons (se_doneV (se_lstM (sa_cons se_int sa_nil))) (sa_cons (se_tup sa_nil) (sa_cons (se_tup (sa_cons se_str (sa_cons se_str sa_nil))) (sa_cons (se_lstM (sa_cons se_str sa_nil)) sa_nil))))))))))))))))) (sg_name (vs := [1]) (by decide)))
    (ss_ret (se_ix se_var (se_call (sa_cons se_var (sa_cons se_int sa_nil))))))
theorem rdu__law_value (us : List UV) (μ : Mem) (R : UK) (X : UX) (h : sp__law_value us μ R X) : u__law_value (endU R) (startU 2 us) μ := by
  obtain ⟨b, c, rfl, hb, hc0, hc, q⟩ := h
  unfold u__law_value
  refine seq_step fun K hK => ?_
  have ePow : opPow (.int 10) (.int 29) = some (.int 100000000000000000000000000000) := rfl
  simp only [uIf, uRet, uRetN, uDrop, uAsg, uPar, gNameU, gTupU, asgAll, uVar, uC, uNil, uCons, uTup, uLst, uIx, uOp, uUn, uM1, uTst, uNotT, uAnd, uOr, uAndV, uOrV, uNotV, uIfE, uChain, uIsi, uIsN, uNotN, uSl, uPart, uNoPart, uLen, uCall, uNext, uAny, itemsU, asB, okD, uBin, uUn1, rdv_dat, ixU, tyU, lenU, tyD, startU, endU, uYes, allD, uLc, uFz, uFrz, frzU, wipeU, uFor, uRng1, uRng2, opEq, opNe, opNeX, opIn, opNotIn, eqE, eqX, eqB, opLt, opLe, opGt, opGe, opAdd, opSub, opInt, List.replicate, if_true, if_false, Nat.reduceSub, Nat.reduceAdd, Nat.reduceLeDiff, Nat.zero_le, atI_0, atI_1, atI_2, atI_3, atI_4, opIx, opSl, spF, spFL, in_sign, in_tup2, in_tup3, kbs, lss, uLstM, uDNewM, uDOneV, uVals, opNeg, ePow]
  intro p1 n1
  have a1 := put_same (μ := μ) (a := p1) (m := .lst [])
  have o1 := Old.put (m := .lst []) n1
  generalize put μ p1 (.lst []) = μ1 at a1 o1 ⊢
  intro q1 m1
  have b1 := put_same (μ := μ1) (a := q1) (m := .lst [.dat (.int 2)])
  have o2 := Old.put (m := .lst [.dat (.int 2)]) m1
  generalize put μ1 q1 (.lst [.dat (.int 2)]) = μ2 at b1 o2 ⊢
  intro p2 n2
  have a2 := put_same (μ := μ2) (a := p2) (m := .lst [.dat (.int 1), .ref q1])
  have o3 := Old.put (m := .lst [.dat (.int 1), .ref q1]) n2
  have h12 := (ne_of_at b1 n2).symm
  generalize put μ2 p2 (.lst [.dat (.int 1), .ref q1]) = μ3 at a2 o3 ⊢
  intro p3 n3
  have a3 := put_same (μ := μ3) (a := p3) (m := .dct [])
  have o4 := Old.put (m := .dct []) n3
  generalize put μ3 p3 (.dct []) = μ4 at a3 o4 ⊢
  intro p4 n4 q2 m2
  have h42 := ne_of_at put_same m2
  refine ⟨.ref q2, rfl, by rw [put_ne h42.symm]; exact put_same, ?_⟩
  have b2 : put (put (put μ4 p4 (.dct [])) q2 (.lst [.dat (.int 1)])) p4 (.dct [(.inr "a", .ref q2)]) q2 = some (.lst [.dat (.int 1)]) := by rw [put_ne h42]; exact put_same
  have a4 : put (put (put μ4 p4 (.dct [])) q2 (.lst [.dat (.int 1)])) p4 (.dct [(.inr "a", .ref q2)]) p4 = some (.dct [(.inr "a", .ref q2)]) := put_same
  have o5 : Old μ4 (put (put (put μ4 p4 (.dct [])) q2 (.lst [.dat (.int 1)])) p4 (.dct [(.inr "a", .ref q2)])) := fun a m e => by
    rw [put_ne (ne_of_at e n4).symm]
    exact (Old.put n4).trans (Old.put m2) _ _ e
  generalize put (put (put μ4 p4 (.dct [])) q2 (.lst [.dat (.int 1)])) p4 (.dct [(.inr "a", .ref q2)]) = μ5 at a4 b2 o5 ⊢
  intro p5 n5
  have a5 := put_same (μ := μ5) (a := p5) (m := .lst [.dat (.str "a")])
  have o6 := Old.put (m := .lst [.dat (.str "a")]) n5
  generalize put μ5 p5 (.lst [.dat (.str "a")]) = μ6 at a5 o6 ⊢
  intro l nl
  rw [hK]
  clear hK
  have oA := ((((o1.trans o2).trans o3).trans o4).trans o5).trans o6
  generalize hus : [UV.dat PyData.none, UV.dat (.bool true), UV.dat (.bool false), UV.dat (.int 0), UV.dat (.int (-1)), UV.dat (.int 100000000000000000000000000000), UV.dat (.str ""), UV.dat (.str "a"), UV.dat (.str "let"), UV.ref p1, UV.ref p2, UV.ref p3, UV.ref p4, UV.dat (.tuple []), UV.dat (.tuple [.str "name", .str "a"]), UV.ref p5] = us
  have hl := put_same (μ := μ6) (a := l) (m := .lst us)
  have o7 := Old.put (m := .lst us) nl
  generalize put μ6 l (.lst us) = μ7 at hl o7 ⊢
  have hlen : us.length = 16 := by rw [← hus]; rfl
  simp only [uIf, uRet, uRetN, uDrop, uAsg, uPar, gNameU, gTupU, asgAll, uVar, uC, uNil, uCons, uTup, uLst, uIx, uOp, uUn, uM1, uTst, uNotT, uAnd, uOr, uAndV, uOrV, uNotV, uIfE, uChain, uIsi, uIsN, uNotN, uSl, uPart, uNoPart, uLen, uCall, uNext, uAny, itemsU, asB, okD, uBin, uUn1, rdv_dat, ixU, tyU, lenU, tyD, startU, endU, uYes, allD, uLc, uFz, uFrz, frzU, wipeU, uFor, uRng1, uRng2, opEq, opNe, opNeX, opIn, opNotIn, eqE, eqX, eqB, opLt, opLe, opGt, opGe, opAdd, opSub, opInt, List.replicate, if_true, if_false, Nat.reduceSub, Nat.reduceAdd, Nat.reduceLeDiff, Nat.zero_le, atI_0, atI_1, atI_2, atI_3, atI_4, opIx, opSl, spF, spFL, in_sign, in_tup2, in_tup3, kbs, lss, sp__law_take]
  refine take_intro (o7 _ _ (oA _ _ hb)) (by omega) (by decide) (by decide) fun d hd0 hd1 => ?_
  have hlb : l ≠ b := fun e => by rw [e, oA _ _ hb] at nl; cases nl
  have keep : ∀ a m, a ≠ b → μ7 a = some m → put μ7 b (.box (c + 1)) a = some m := fun a m h e => by rw [put_ne h]; exact e
  have nb : ∀ {a : Addr} {ν : Mem}, Old μ ν → ν a = none → a ≠ b := fun o e z => by rw [z, o _ _ hb] at e; cases e
  have A1 := keep p1 _ (nb Old.refl n1) ((((((o2.trans o3).trans o4).trans o5).trans o6).trans o7) _ _ a1)
  have B1 := keep q1 _ (nb o1 m1) (((((o3.trans o4).trans o5).trans o6).trans o7) _ _ b1)
  have A2 := keep p2 _ (nb (o1.trans o2) n2) ((((o4.trans o5).trans o6).trans o7) _ _ a2)
  have A3 := keep p3 _ (nb ((o1.trans o2).trans o3) n3) (((o5.trans o6).trans o7) _ _ a3)
  have o4' := ((o1.trans o2).trans o3).trans o4
  have q2b : q2 ≠ b := fun z => by
    rw [z] at m2
    rw [put_ne (fun e => by rw [← e, o4' _ _ hb] at n4; cases n4), o4' _ _ hb] at m2
    cases m2
  have A4 := keep p4 _ (nb o4' n4) ((o6.trans o7) _ _ a4)
  have B2 := keep q2 _ q2b ((o6.trans o7) _ _ b2)
  have A5 := keep p5 _ (nb (o4'.trans o5) n5) (o7 _ _ a5)
  have L := keep l _ hlb hl
  have pick : ∀ x, atI us d = some x → Vk x (put μ7 b (.box (c + 1))) ∧ Vc x (put μ7 b (.box (c + 1))) → (match atI us d with | some u => CN.Fin R u (put μ7 b (.box (c + 1))) | none => False) := fun x e v => by
    rw [e]
    exact fin_of Wk.refl (q _ _ v.1 v.2)
  simp only [L]
  have hd : d = 0 ∨ d = 1 ∨ d = 2 ∨ d = 3 ∨ d = 4 ∨ d = 5 ∨ d = 6 ∨ d = 7 ∨ d = 8 ∨ d = 9 ∨ d = 10 ∨ d = 11 ∨ d = 12 ∨ d = 13 ∨ d = 14 ∨ d = 15 := by omega
  rcases hd with rfl | rfl | rfl | rfl | rfl | rfl | rfl | rfl | rfl | rfl | rfl | rfl | rfl | rfl | rfl | rfl
  · exact pick _ (by rw [← hus]; rfl) (v_dat (by decide +kernel) rfl rfl)
  · exact pick _ (by rw [← hus]; rfl) (v_dat (by decide +kernel) rfl rfl)
  · exact pick _ (by rw [← hus]; rfl) (v_dat (by decide +kernel) rfl rfl)
  · exact pick _ (by rw [← hus]; rfl) (v_dat (by decide +kernel) rfl rfl)
  · exact pick _ (by rw [← hus]; rfl) (v_dat (by decide +kernel) rfl rfl)
  · exact pick _ (by rw [← hus]; rfl) (v_dat (by decide +kernel) rfl rfl)
  · exact pick _ (by rw [← hus]; rfl) (v_dat (by decide +kernel) rfl rfl)
  · exact pick _ (by rw [← hus]; rfl) (v_dat (by decide +kernel) rfl rfl)
  · exact pick _ (by rw [← hus]; rfl) (v_dat (by decide +kernel) rfl rfl)
  · exact pick _ (by rw [← hus]; rfl) (v_l0 A1)
  · exact pick _ (by rw [← hus]; rfl) (v_l1 A2 B1 h12)
  · exact pick _ (by rw [← hus]; rfl) (v_d0 A3)
  · exact pick _ (by rw [← hus]; rfl) (v_d1 A4 B2 h42)
  · exact pick _ (by rw [← hus]; rfl) (v_dat (by decide +kernel) rfl rfl)
  · exact pick _ (by rw [← hus]; rfl) (v_dat (by decide +kernel) rfl rfl)
  · exact pick _ (by rw [← hus]; rfl) (v_l2 A5)
theorem ok__law_value {P : Program} {w : World} {K : PySem.W.Frag} {mg : Str → Option Value} {base : Heap} {a : Ad} (T : Txt K mg a) : FnOk P w K mg base CX0 3 a.f__law_value a.d__law_value ["_law_box_here"] (lift K sp__law_value) := by
  have G__law_take := ok__law_take (P := P) (w := w) (base := base) T
  refine T.F__law_value.ok sc__law_value (fun vs H Q E h => len_of ln__law_value h) (fun cdv A outer s H vs Q E hr h => ⟨t__law_value K a, ?_, CN.rd_of rfl (S__law_value T) rdu__law_value h⟩)
  exact (pss_cons (ps_set (i := 1) sc__law_value.nd rfl (Or.inl rfl) (pe_lstG (pa_cons pe_non (pa_cons pe_bl (pa_cons pe_bl (pa_cons pe_int (pa_cons (pe_un un_negI pe_int) (pa_cons (pe_op op_powI pe_int pe_int) (pa_cons pe_str (pa_cons pe_str (pa_cons pe_str (pa_cons (pe_lstG pa_nil) (pa_cons (pe_lstG (pa_cons pe_int (pa_cons (pe_lstG (pa_cons pe_int pa_nil)) pa_nil))) (pa_cons pe_dnewK (pa_cons (pe_disp (pps_cons pe_str (pe_lstG (pa_cons pe_int pa_nil)) pps_nil) rfl rfl (by decide) (by decide)) (pa_cons (pe_tupG pa_nil) (pa_cons (pe_tupG (pa_cons pe_str (pa_cons pe_str pa_nil))) (pa_cons (pe_lstG (pa_cons pe_str pa_nil)) pa_nil))))))))))))))))))
      (pss_one (ps_ret (pe_ix ix_seq (pv 1) (pe_call G__law_take (hr.mono (by first | decide | omega)) (by rfl) T.g__law_take T.F__law_take.kp T.bi__law_take .nil pass0 (pa_cons (pv 0) (pa_cons pe_int pa_nil))) (fun _ _ => rfl)))))
end K03

set_option Elab.async false
set_option linter.all false
set_option maxRecDepth 100000
set_option maxHeartbeats 4000000
namespace K03
open PySem PySem.Spec PyProof.Rows L2 CN Evl
theorem forP_inv {chk : Mem → Prop} {is : List Nat} {b : US} {U : UEnds} (I : Nat → Rho → Mem → Prop) : ∀ (xs : List (List UV)) (ρ : Rho) (μ : Mem) (k : Nat), I k ρ μ → (∀ j ρ μ, I j ρ μ → chk μ) →
    (∀ (j : Nat) (us : List UV) (ρ : Rho) (μ : Mem) (U' : UEnds), xs[j]? = some us → I (k + j) ρ μ → (∀ ρ μ, I (k + j + 1) ρ μ → U'.nx ρ μ) → (∀ ρ μ, I (k + j + 1) ρ μ → U'.ct ρ μ) → (∀ ρ μ, U.nx ρ μ → U'.bk ρ μ) → (∀ x μ, U.rt x μ → U'.rt x μ) → ∃ ρ', asgAllU is us ρ = some ρ' ∧ b U' ρ' μ) →
    (∀ ρ μ, I (k + xs.length) ρ μ → U.nx ρ μ) → forP chk is b xs U ρ μ
  | [], ρ, μ, k, hi, hc, _, q => ⟨hc k ρ μ hi, q ρ μ hi⟩
  | x :: xs, ρ, μ, k, hi, hc, hs, q => by
    have next : ∀ ρ' μ', I (k + 1) ρ' μ' → forP chk is b xs U ρ' μ' := fun ρ' μ' h => by
      refine forP_inv I xs ρ' μ' (k + 1) h hc (fun j y ρ μ U' hy hj h1 h2 h3 h4 => ?_) (fun ρ μ hq => q ρ μ ?_)
      · refine hs (j + 1) y ρ μ U' hy (by rw [show k + (j + 1) = k + 1 + j by omega]; exact hj) (fun ρ μ h => h1 ρ μ ?_) (fun ρ μ h => h2 ρ μ ?_) h3 h4
        · rw [show k + 1 + j + 1 = k + (j + 1) + 1 by omega]
          exact h
        · rw [show k + 1 + j + 1 = k + (j + 1) + 1 by omega]
          exact h
      · rw [List.length_cons, show k + (xs.length + 1) = k + 1 + xs.length by omega]
        exact hq
    exact ⟨hc k ρ μ hi, hs 0 x ρ μ { U with nx := forP chk is b xs U, ct := forP chk is b xs U, bk := U.nx } rfl hi next next (fun _ _ h => h) fun _ _ h => h⟩
theorem lcP_none {chk : Mem → Prop} {is : List Nat} {t : UT} {e : UE} {vs : List Nat} {ρ : Rho} {R : List UV → Mem → Prop} {μ : Mem} (hc : chk μ) (hR : R [] μ) : ∀ items : List (List UV),
    (∀ us ∈ items, ∃ ρ2, asgAllU is us (wipeU ρ vs) = some ρ2 ∧ ∀ F : Bool → Mem → Prop, F false μ → t ρ2 μ F) → lcP chk is t e vs ρ R items [] μ
  | [], _ => ⟨hc, hR⟩
  | us :: items, h => by
    obtain ⟨ρ2, h1, h2⟩ := h us List.mem_cons_self
    refine ⟨hc, ρ2, h1, h2 _ ?_⟩
    rw [if_neg Bool.false_ne_true]
    exact lcP_none hc hR items fun us hu => h us (List.mem_cons_of_mem _ hu)
def isBF : Option PyData → Bool
  | some (.bool false) => true
  | _ => false
theorem isBF_of {o : Option PyData} (h : isBF o = true) : o = some (.bool false) := by
  unfold isBF at h
  split at h
  · rfl
  · cases h
def chk1 (c : Str) (ks : List Nat) (bs : List Bool) : Bool := match rowOf c with
  | some r => isBF (opNeX (intsD (kindsN c r)) (intsD ks)) && isBF (opNeX (boolsD (basesB c r)) (boolsD bs))
  | none => false
theorem chk1_of {c : Str} {ks : List Nat} {bs : List Bool} (h : chk1 c ks bs = true) : ∃ r, rowOf c = some r ∧ opNeX (intsD (kindsN c r)) (intsD ks) = some (.bool false) ∧ opNeX (boolsD (basesB c r)) (boolsD bs) = some (.bool false) := by
  unfold chk1 at h
  split at h
  · rename_i r e
    rw [Bool.and_eq_true] at h
    exact ⟨r, e, isBF_of h.1, isBF_of h.2⟩
  · cases h
theorem all_chk : ∀ j < 29, chk1 (xn j) [j] (dueB j) = true := by decide +kernel
theorem base_chk : chk1 "CaughtError" [] (dueB 0) = true ∧ chk1 "AbsentError" [] (dueB 23) = true ∧ chk1 "StateError" [] (dueB 26) = true := by decide +kernel
theorem ne_same (x : Str) : opNeX (.str x) (.str x) = some (.bool false) := by simp only [opNeX, eqX, eqB, Option.map_some, decide_true, Bool.not_true]
theorem ne_nil : opNeX (.list []) (.list []) = some (.bool false) := isBF_of (by decide +kernel)
theorem cfs_len : cfs.length = 27 := by decide +kernel
theorem cf_at {j : Nat} {q : Str × Str} (h : cfs[j]? = some q) : j < 27 ∧ q.1 = xn j ∧ q.2 = fl j := by
  have hj : j < 27 := by
    have := (List.getElem?_eq_some_iff.mp h).1
    rw [cfs_len] at this
    exact this
  refine ⟨hj, ?_, ?_⟩
  · unfold xn XN
    rw [List.getElem?_append_left (by rw [List.length_map, cfs_len]; exact hj), List.getElem?_map, h]
    rfl
  · unfold fl
    rw [List.getElem?_map, h]
    rfl
theorem paired_gi {α β : Type} {F : α → β → Prop} : ∀ {xs : List α} {ys : List β}, Paired F xs ys → ∀ {j : Nat} {y : β}, ys[j]? = some y → ∃ x, xs[j]? = some x ∧ F x y
  | _, _, .nil, _, _, h => by cases h
  | _, _, .cons (a := a) f t, 0, _, h => by
    cases h
    exact ⟨a, rfl, f⟩
  | _, _, .cons f t, j + 1, _, h => paired_gi t h
theorem walk_at {x : UV} {ν : Mem} {ps : List Addr} (h : Paired (fun (q : Str × Str) p => ν p = some (.exn q.1 [(q.2, x)])) cfs ps) {j : Nat} {us : List UV} (hu : ((ps.map UV.ref).mapIdx fun i u => [UV.dat (.int (i : Nat)), u])[j]? = some us) :
    ∃ p, us = [.dat (.int (j : Nat)), .ref p] ∧ j < 27 ∧ ν p = some (.exn (xn j) [(fl j, x)]) := by
  rw [List.getElem?_mapIdx, List.getElem?_map] at hu
  obtain ⟨u, h1, rfl⟩ := Option.map_eq_some_iff.mp hu
  obtain ⟨p, h2, rfl⟩ := Option.map_eq_some_iff.mp h1
  obtain ⟨q, h3, h4⟩ := paired_gi h h2
  obtain ⟨h5, h6, h7⟩ := cf_at h3
  refine ⟨p, rfl, h5, ?_⟩
  rw [h4, h6, h7]
def t_lawB (K : PySem.W.Frag) (a : Ad) : TS :=
  (tSeq (tAsg (tCall (lift K sp__law_value) [] E0 (tCons (tVar 2) tNil)) (gName 3))
  (tSeq (tFor (iEnum K (tCons (tCall (lift K sp__law_made) [] E0 (tCons (tVar 3) tNil)) tNil)) (gTup K 2 (gCons (gName 4) (gCons (gName 5) gNil))) (tSeq (tIfS (tOr (tTest (tOp (rNeW K) (tCall (lift K sp__law_kinds) [] E0 (tCons (tVar 5) tNil)) (tLstG (tCons (tVar 4) tNil)))) (tTest (tOp (rNeW K) (tCall (lift K sp__law_bases) [] E0 (tCons (tVar 5) tNil)) (tCall (lift K sp__law_due) [] E0 (tCons (tVar 4) tNil))))) (tRet (tC (.bl false))) tNext)
  (tIfS (tTest (tOp (rNeW K) (tCB (rReprA K) (tCons (tCall (lift K sp__law_field) [] E0 (tCons (tVar 5) (tCons (tVar 4) tNil))) tNil)) (tCB (rReprA K) (tCons (tVar 3) tNil)))) (tRet (tC (.bl false))) tNext)))
  (tSeq (tAsg (tCall (lift K sp__law_made) [] E0 (tCons (tVar 3) tNil)) (gName 6))
  (tSeq (tIfS (tB (tCB (rIsiU K) (tCons (tVar 3) (tCons (tC (.ty "list")) tNil)))) (tDrop (tBM K "list" rAppend (tVar 3) (tCons (tC (.str "late")) tNil))) tNext)
  (tSeq (tIfS (tB (tCB (rIsiU K) (tCons (tVar 3) (tCons (tC (.ty "dict")) tNil)))) (sDPut (tVar 3) (tC (.str "late")) (tC (.int 1))) tNext)
  (tIfS (tTest (tOp (rNeW K) (tLc (iEnum K (tCons (tVar 6) tNil)) (gTup K 2 (gCons (gName 4) (gCons (gName 5) gNil))) (tTest (tOp (rNeW K) (tCB (rReprA K) (tCons (tCall (lift K sp__law_field) [] E0 (tCons (tVar 5) (tCons (tVar 4) tNil))) tNil)) (tCB (rReprA K) (tCons (tVar 3) tNil)))) (tVar 4) [4, 5]) (tLstG tNil))) (tRet (tC (.bl false))) tNext))))))
def u_lawB : US :=
  (uSeq (uAsg (uCall sp__law_value UX0 (uCons (uVar 2) uNil)) (gNameU 3))
  (uSeq (uForP (uEnumP (uCall sp__law_made UX0 (uCons (uVar 3) uNil))) [4, 5] (uSeq (uIf (uOr (uTst (uOp opNeX (uCall sp__law_kinds UX0 (uCons (uVar 5) uNil)) (uLst (uCons (uVar 4) uNil)))) (uTst (uOp opNeX (uCall sp__law_bases UX0 (uCons (uVar 5) uNil)) (uCall sp__law_due UX0 (uCons (uVar 4) uNil))))) (uRet (uC (.bool false))) uNext)
  (uIf (uTst (uOp opNeX (uReprE (uCall sp__law_field UX0 (uCons (uVar 5) (uCons (uVar 4) uNil)))) (uReprE (uVar 3)))) (uRet (uC (.bool false))) uNext)))
  (uSeq (uAsg (uCall sp__law_made UX0 (uCons (uVar 3) uNil)) (gNameU 6))
  (uSeq (uIf (uTst (uIsi "list" (uVar 3))) (uDrop (uAppend (uVar 3) (uCons (uC (.str "late")) uNil))) uNext)
  (uSeq (uIf (uTst (uIsi "dict" (uVar 3))) (uDPut (uVar 3) (uC (.str "late")) (uC (.int 1))) uNext)
  (uIf (uTst (uOp opNeX (uLcP (uEnumP (uVar 6)) [4, 5] (uTst (uOp opNeX (uReprE (uCall sp__law_field UX0 (uCons (uVar 5) (uCons (uVar 4) uNil)))) (uReprE (uVar 3)))) (uVar 4) [4, 5]) (uLst uNil))) (uRet (uC (.bool false))) uNext))))))
theorem S_lawB {K : PySem.W.Frag} {mg : Str → Option Value} {a : Ad} (T : Txt K mg a) : SS K L0 (t_lawB K a) u_lawB :=
  (ss_seq (ss_asg (se_call (sa_cons se_var sa_nil)) (sg_name (vs := [3]) (by decide)))
    (ss_seq (ss_forP (sip_enum (se_call (sa_cons se_var sa_nil))) rfl (.cons (.cons .nil)) (ss_seq (ss_if (st_or (st_test (se_op os_neX (se_call (sa_cons se_var sa_nil)) (se_lst (sa_cons se_var sa_nil)))) (st_test (se_op os_neX (se_call (sa_cons se_var sa_nil)) (se_call (sa_cons se_var sa_nil))))) (ss_ret se_bl) ss_next)
    (ss_if (st_test (se_op os_neX (se_reprE (se_call (sa_cons se_var (sa_cons se_var sa_nil)))) (se_reprE se_var))) (ss_ret se_bl) ss_next)))
    (ss_seq (ss_asg (se_call (sa_cons se_var sa_nil)) (sg_name (vs := [6]) (by decide)))
    (ss_seq (ss_if (st_b (se_isi se_var)) (ss_drop (se_append se_var (sa_cons se_str sa_nil))) ss_next)
    (ss_seq (ss_if (st_b (se_isi se_var)) (ss_dput se_var se_str se_int) ss_next)
    (ss_if (st_test (se_op os_neX (se_lcP (sip_enum se_var) rfl (.cons (.cons .nil)) (fun _ h => h) (st_test (se_op os_neX (se_reprE (se_call (sa_cons se_var (sa_cons se_var sa_nil)))) (se_reprE se_var))) se_var) (se_lst sa_nil))) (ss_ret se_bl) ss_next))))))
def t_lawC (K : PySem.W.Frag) (a : Ad) : TS :=
  (tSeq (tFor (iAny K (tLstG (tCons (tTupG (tCons (tC (.int 27)) (tCons (tMkN a.c_NothingToUndo) tNil))) (tCons (tTupG (tCons (tC (.int 28)) (tCons (tMkN a.c_NothingToRedo) tNil))) tNil)))) (gTup K 2 (gCons (gName 4) (gCons (gName 5) gNil))) (tIfS (tOr (tTest (tOp (rNeW K) (tCall (lift K sp__law_kinds) [] E0 (tCons (tVar 5) tNil)) (tLstG (tCons (tVar 4) tNil)))) (tTest (tOp (rNeW K) (tCall (lift K sp__law_bases) [] E0 (tCons (tVar 5) tNil)) (tCall (lift K sp__law_due) [] E0 (tCons (tVar 4) tNil))))) (tRet (tC (.bl false))) tNext))
  (tSeq (tFor (iEnum K (tCons (tLstG (tCons (tMk0 a.c_CaughtError (tCons (tC (.str "a")) tNil)) (tCons (tMk0 a.c_AbsentError (tCons (tC (.str "a")) tNil)) (tCons (tMk0 a.c_StateError (tCons (tC (.str "a")) tNil)) tNil)))) tNil)) (gTup K 2 (gCons (gName 4) (gCons (gName 5) gNil))) (tIfS (tOr (tTest (tOp (rNeW K) (tCall (lift K sp__law_kinds) [] E0 (tCons (tVar 5) tNil)) (tLstG tNil))) (tTest (tOp (rNeW K) (tCall (lift K sp__law_bases) [] E0 (tCons (tVar 5) tNil)) (tCall (lift K sp__law_due) [] E0 (tCons (tOp (rIx K) (tLstG (tCons (tC (.int 0)) (tCons (tC (.int 23)) (tCons (tC (.int 26)) tNil)))) (tVar 4)) tNil))))) (tRet (tC (.bl false))) tNext))
  (tRet (tC (.bl true)))))
def u_lawC : US :=
  (uSeq (uFor (uAny (uLstM (uCons (uTup (uCons (uC (.int 27)) (uCons (uMkN "NothingToUndo") uNil))) (uCons (uTup (uCons (uC (.int 28)) (uCons (uMkN "NothingToRedo") uNil))) uNil)))) (gTupU [4, 5]) (uIf (uOr (uTst (uOp opNeX (uCall sp__law_kinds UX0 (uCons (uVar 5) uNil)) (uLst (uCons (uVar 4) uNil)))) (uTst (uOp opNeX (uCall sp__law_bases UX0 (uCons (uVar 5) uNil)) (uCall sp__law_due UX0 (uCons (uVar 4) uNil))))) (uRet (uC (.bool false))) uNext))
  (uSeq (uForP (uEnumP (uLstM (uCons (uMk0 "CaughtError" (uCons (uC (.str "a")) uNil)) (uCons (uMk0 "AbsentError" (uCons (uC (.str "a")) uNil)) (uCons (uMk0 "StateError" (uCons (uC (.str "a")) uNil)) uNil))))) [4, 5] (uIf (uOr (uTst (uOp opNeX (uCall sp__law_kinds UX0 (uCons (uVar 5) uNil)) (uLst uNil))) (uTst (uOp opNeX (uCall sp__law_bases UX0 (uCons (uVar 5) uNil)) (uCall sp__law_due UX0 (uCons (uIx (uLst (uCons (uC (.int 0)) (uCons (uC (.int 23)) (uCons (uC (.int 26)) uNil)))) (uVar 4)) uNil))))) (uRet (uC (.bool false))) uNext))
  (uRet (uC (.bool true)))))
theorem S_lawC {K : PySem.W.Frag} {mg : Str → Option Value} {a : Ad} (T : Txt K mg a) : SS K L0 (t_lawC K a) u_lawC :=
  (ss_seq (ss_for (si_any (se_lstM (sa_cons (se_tup (sa_cons se_int (sa_cons (se_mkN T.xv_NothingToUndo.isx) sa_nil))) (sa_cons (se_tup (sa_cons se_int (sa_cons (se_mkN T.xv_NothingToRedo.isx) sa_nil))) sa_nil)))) (sg_tup (is := [4, 5]) (ws := [4, 5]) rfl (.cons (.cons .nil)) (by decide)) (ss_if (st_or (st_test (se_op os_neX (se_call (sa_cons se_var sa_nil)) (se_lst (sa_cons se_var sa_nil)))) (st_test (se_op os_neX (se_call (sa_cons se_var sa_nil)) (se_call (sa_cons se_var sa_nil))))) (ss_ret se_bl) ss_next))
    (ss_seq (ss_forP (sip_enum (se_lstM (sa_cons (se_mk0 T.xv_CaughtError.isx (sa_cons se_str sa_nil)) (sa_cons (se_mk0 T.xv_AbsentError.isx (sa_cons se_str sa_nil)) (sa_cons (se_mk0 T.xv_StateError.isx (sa_cons se_str sa_nil)) sa_nil))))) rfl (.cons (.cons .nil)) (ss_if (st_or (st_test (se_op os_neX (se_call (sa_cons se_var sa_nil)) (se_lst sa_nil))) (st_test (se_op os_neX (se_call (sa_cons se_var sa_nil)) (se_call (sa_cons (se_ix (se_lst (sa_cons se_int (sa_cons se_int (sa_cons se_int sa_nil)))) se_var) sa_nil))))) (ss_ret se_bl) ss_next))
    (ss_ret se_bl)))
def t_law (K : PySem.W.Frag) (a : Ad) : TS :=
  (tSeq (tFor (iRng1 (tCons (tCB rMaxI (tCons (tC (.int 1)) (tCons (tCB rMinI (tCons (tC (.int 12)) (tCons (tCB (rLenU K) (tCons (tVar 0) tNil)) tNil))) tNil))) tNil)) (gName 1) (tSeq (tAsg (tCall (spt__law_box K) [] E0 (tCons (tCall (spt__law_cell K) [] E0 (tCons (tVar 0) (tCons (tVar 1) tNil))) tNil)) (gName 2))
  (t_lawB K a)))
  (t_lawC K a))
theorem lawB_ok {U : UEnds} {p0 b : Addr} (hn : ∀ (ρ : Rho) (μ' : Mem), ρ.length = 7 → ρ[0]? = some (some (.ref p0)) → U.nx ρ μ') (hc : ∀ (ρ : Rho) (μ' : Mem), ρ.length = 7 → ρ[0]? = some (some (.ref p0)) → U.ct ρ μ') :
    u_lawB U ([some (.ref p0), none, some (.ref b)] ++ List.replicate (7 - 3) none) (put (fun _ => none) b (.box 0)) := by
  show u_lawB U [some (.ref p0), none, some (.ref b), none, none, none, none] _
  unfold u_lawB
  refine seq_step fun K hK => ?_
  simp only [uIf, uRet, uRetN, uDrop, uAsg, uPar, gNameU, gTupU, asgAll, uVar, uC, uNil, uCons, uTup, uLst, uIx, uOp, uUn, uM1, uTst, uNotT, uAnd, uOr, uAndV, uOrV, uNotV, uIfE, uChain, uIsi, uIsN, uNotN, uSl, uPart, uNoPart, uLen, uCall, uNext, uAny, itemsU, asB, okD, uBin, uUn1, rdv_dat, ixU, tyU, lenU, tyD, startU, endU, uYes, allD, uLc, uFz, uFrz, frzU, wipeU, uFor, uRng1, uRng2, opEq, opNe, opNeX, opIn, opNotIn, eqE, eqX, eqB, opLt, opLe, opGt, opGe, opAdd, opSub, opInt, List.replicate, if_true, if_false, Nat.reduceSub, Nat.reduceAdd, Nat.reduceLeDiff, Nat.zero_le, atI_0, atI_1, atI_2, atI_3, atI_4, opIx, opSl, spF, spFL, in_sign, in_tup2, in_tup3, kbs, lss]
  refine ⟨b, 0, rfl, put_same, by decide, by decide, fun x μ1 hv hc => ?_⟩
  try simp only [uIf, uRet, uRetN, uDrop, uAsg, uPar, gNameU, gTupU, asgAll, uVar, uC, uNil, uCons, uTup, uLst, uIx, uOp, uUn, uM1, uTst, uNotT, uAnd, uOr, uAndV, uOrV, uNotV, uIfE, uChain, uIsi, uIsN, uNotN, uSl, uPart, uNoPart, uLen, uCall, uNext, uAny, itemsU, asB, okD, uBin, uUn1, rdv_dat, ixU, tyU, lenU, tyD, startU, endU, uYes, allD, uLc, uFz, uFrz, frzU, wipeU, uFor, uRng1, uRng2, opEq, opNe, opNeX, opIn, opNotIn, eqE, eqX, eqB, opLt, opLe, opGt, opGe, opAdd, opSub, opInt, List.replicate, if_true, if_false, Nat.reduceSub, Nat.reduceAdd, Nat.reduceLeDiff, Nat.zero_le, atI_0, atI_1, atI_2, atI_3, atI_4, opIx, opSl, spF, spFL, in_sign, in_tup2, in_tup3, kbs, lss]
  rw [hK]
  clear hK
  refine seq_step fun K hK => ?_
  simp only [uForP, uEnumP, uIf, uRet, uRetN, uDrop, uAsg, uPar, gNameU, gTupU, asgAll, uVar, uC, uNil, uCons, uTup, uLst, uIx, uOp, uUn, uM1, uTst, uNotT, uAnd, uOr, uAndV, uOrV, uNotV, uIfE, uChain, uIsi, uIsN, uNotN, uSl, uPart, uNoPart, uLen, uCall, uNext, uAny, itemsU, asB, okD, uBin, uUn1, rdv_dat, ixU, tyU, lenU, tyD, startU, endU, uYes, allD, uLc, uFz, uFrz, frzU, wipeU, uFor, uRng1, uRng2, opEq, opNe, opNeX, opIn, opNotIn, eqE, eqX, eqB, opLt, opLe, opGt, opGe, opAdd, opSub, opInt, List.replicate, if_true, if_false, Nat.reduceSub, Nat.reduceAdd, Nat.reduceLeDiff, Nat.zero_le, atI_0, atI_1, atI_2, atI_3, atI_4, opIx, opSl, spF, spFL, in_sign, in_tup2, in_tup3, kbs, lss]
  refine ⟨x, rfl, fun l ps μ2 o2 nl hl hnw => ?_⟩
  try simp only [uIf, uRet, uRetN, uDrop, uAsg, uPar, gNameU, gTupU, asgAll, uVar, uC, uNil, uCons, uTup, uLst, uIx, uOp, uUn, uM1, uTst, uNotT, uAnd, uOr, uAndV, uOrV, uNotV, uIfE, uChain, uIsi, uIsN, uNotN, uSl, uPart, uNoPart, uLen, uCall, uNext, uAny, itemsU, asB, okD, uBin, uUn1, rdv_dat, ixU, tyU, lenU, tyD, startU, endU, uYes, allD, uLc, uFz, uFrz, frzU, wipeU, uFor, uRng1, uRng2, opEq, opNe, opNeX, opIn, opNotIn, eqE, eqX, eqB, opLt, opLe, opGt, opGe, opAdd, opSub, opInt, List.replicate, if_true, if_false, Nat.reduceSub, Nat.reduceAdd, Nat.reduceLeDiff, Nat.zero_le, atI_0, atI_1, atI_2, atI_3, atI_4, opIx, opSl, spF, spFL, in_sign, in_tup2, in_tup3, kbs, lss]
  have hnw2 : Paired (fun (q : Str × Str) p => μ2 p = some (.exn q.1 [(q.2, x)])) cfs ps := pmap hnw fun q p h => h.2
  have il : itemsL μ2 (.ref l) = some (ps.map UV.ref) := by
    show (match μ2 l with | some (.lst us) => some us | _ => none) = _
    rw [hl]
  obtain ⟨d, s, hrd, hrs⟩ := hv.rd
  have hrd2 := hrd μ2 o2
  refine ⟨_, il, ?_⟩
  refine forP_inv (fun j ρ ν => ν = μ2 ∧ ∃ o4 o5, ρ = [some (.ref p0), none, some (.ref b), some x, o4, o5, none]) _ _ _ 0 ⟨rfl, none, none, rfl⟩ (fun j ρ ν h => by rw [h.1]; exact il) ?_ ?_
  · rintro j us ρ ν U' hx ⟨rfl, o4, o5, rfl⟩ hnx _ _ _
    obtain ⟨p, rfl, hj, hp⟩ := walk_at hnw2 hx
    obtain ⟨r, hr, e1, e2⟩ := chk1_of (all_chk j (by omega))
    refine ⟨_, rfl, ?_⟩
    simp only [lss]
    refine seq_step fun K1 hK1 => ?_
    simp only [uIf, uRet, uRetN, uDrop, uAsg, uPar, gNameU, gTupU, asgAll, uVar, uC, uNil, uCons, uTup, uLst, uIx, uOp, uUn, uM1, uTst, uNotT, uAnd, uOr, uAndV, uOrV, uNotV, uIfE, uChain, uIsi, uIsN, uNotN, uSl, uPart, uNoPart, uLen, uCall, uNext, uAny, itemsU, asB, okD, uBin, uUn1, rdv_dat, ixU, tyU, lenU, tyD, startU, endU, uYes, allD, uLc, uFz, uFrz, frzU, wipeU, uFor, uRng1, uRng2, opIn, opNotIn, opLt, opLe, opGt, opGe, opAdd, opSub, opInt, List.replicate, if_true, if_false, Nat.reduceSub, Nat.reduceAdd, Nat.reduceLeDiff, Nat.zero_le, atI_0, atI_1, atI_2, atI_3, atI_4, opIx, opSl, spF, spFL, in_sign, in_tup2, in_tup3, kbs, lss]
    refine ⟨p, _, _, r, rfl, hp, hr, ?_⟩
    have e1 : opNeX (intsD (kindsN (xn j) r)) (.list [.int (j : Nat)]) = some (.bool false) := e1
    simp only [uIf, uRet, uRetN, uDrop, uAsg, uPar, gNameU, gTupU, asgAll, uVar, uC, uNil, uCons, uTup, uLst, uIx, uOp, uUn, uM1, uTst, uNotT, uAnd, uOr, uAndV, uOrV, uNotV, uIfE, uChain, uIsi, uIsN, uNotN, uSl, uPart, uNoPart, uLen, uCall, uNext, uAny, itemsU, asB, okD, uBin, uUn1, rdv_dat, ixU, tyU, lenU, tyD, startU, endU, uYes, allD, uLc, uFz, uFrz, frzU, wipeU, uFor, uRng1, uRng2, opIn, opNotIn, opLt, opLe, opGt, opGe, opAdd, opSub, opInt, List.replicate, if_true, if_false, Nat.reduceSub, Nat.reduceAdd, Nat.reduceLeDiff, Nat.zero_le, atI_0, atI_1, atI_2, atI_3, atI_4, opIx, opSl, spF, spFL, in_sign, in_tup2, in_tup3, kbs, lss, e1]
    refine ⟨p, _, _, r, rfl, hp, hr, ?_⟩
    try simp only [uIf, uRet, uRetN, uDrop, uAsg, uPar, gNameU, gTupU, asgAll, uVar, uC, uNil, uCons, uTup, uLst, uIx, uOp, uUn, uM1, uTst, uNotT, uAnd, uOr, uAndV, uOrV, uNotV, uIfE, uChain, uIsi, uIsN, uNotN, uSl, uPart, uNoPart, uLen, uCall, uNext, uAny, itemsU, asB, okD, uBin, uUn1, rdv_dat, ixU, tyU, lenU, tyD, startU, endU, uYes, allD, uLc, uFz, uFrz, frzU, wipeU, uFor, uRng1, uRng2, opIn, opNotIn, opLt, opLe, opGt, opGe, opAdd, opSub, opInt, List.replicate, if_true, if_false, Nat.reduceSub, Nat.reduceAdd, Nat.reduceLeDiff, Nat.zero_le, atI_0, atI_1, atI_2, atI_3, atI_4, opIx, opSl, spF, spFL, in_sign, in_tup2, in_tup3, kbs, lss]
    refine ⟨_, rfl, ?_⟩
    simp only [uIf, uRet, uRetN, uDrop, uAsg, uPar, gNameU, gTupU, asgAll, uVar, uC, uNil, uCons, uTup, uLst, uIx, uOp, uUn, uM1, uTst, uNotT, uAnd, uOr, uAndV, uOrV, uNotV, uIfE, uChain, uIsi, uIsN, uNotN, uSl, uPart, uNoPart, uLen, uCall, uNext, uAny, itemsU, asB, okD, uBin, uUn1, rdv_dat, ixU, tyU, lenU, tyD, startU, endU, uYes, allD, uLc, uFz, uFrz, frzU, wipeU, uFor, uRng1, uRng2, opIn, opNotIn, opLt, opLe, opGt, opGe, opAdd, opSub, opInt, List.replicate, if_true, if_false, Nat.reduceSub, Nat.reduceAdd, Nat.reduceLeDiff, Nat.zero_le, atI_0, atI_1, atI_2, atI_3, atI_4, opIx, opSl, spF, spFL, in_sign, in_tup2, in_tup3, kbs, lss, e2]
    rw [hK1]
    clear hK1
    simp only [uReprE, uIf, uRet, uRetN, uDrop, uAsg, uPar, gNameU, gTupU, asgAll, uVar, uC, uNil, uCons, uTup, uLst, uIx, uOp, uUn, uM1, uTst, uNotT, uAnd, uOr, uAndV, uOrV, uNotV, uIfE, uChain, uIsi, uIsN, uNotN, uSl, uPart, uNoPart, uLen, uCall, uNext, uAny, itemsU, asB, okD, uBin, uUn1, rdv_dat, ixU, tyU, lenU, tyD, startU, endU, uYes, allD, uLc, uFz, uFrz, frzU, wipeU, uFor, uRng1, uRng2, opIn, opNotIn, opLt, opLe, opGt, opGe, opAdd, opSub, opInt, List.replicate, if_true, if_false, Nat.reduceSub, Nat.reduceAdd, Nat.reduceLeDiff, Nat.zero_le, atI_0, atI_1, atI_2, atI_3, atI_4, opIx, opSl, spF, spFL, in_sign, in_tup2, in_tup3, kbs, lss]
    refine ⟨p, _, x, j, rfl, hj, hp, ?_⟩
    refine ⟨d, hrd2, ?_⟩
    simp only [uIf, uRet, uRetN, uDrop, uAsg, uPar, gNameU, gTupU, asgAll, uVar, uC, uNil, uCons, uTup, uLst, uIx, uOp, uUn, uM1, uTst, uNotT, uAnd, uOr, uAndV, uOrV, uNotV, uIfE, uChain, uIsi, uIsN, uNotN, uSl, uPart, uNoPart, uLen, uCall, uNext, uAny, itemsU, asB, okD, uBin, uUn1, rdv_dat, ixU, tyU, lenU, tyD, startU, endU, uYes, allD, uLc, uFz, uFrz, frzU, wipeU, uFor, uRng1, uRng2, opIn, opNotIn, opLt, opLe, opGt, opGe, opAdd, opSub, opInt, List.replicate, if_true, if_false, Nat.reduceSub, Nat.reduceAdd, Nat.reduceLeDiff, Nat.zero_le, atI_0, atI_1, atI_2, atI_3, atI_4, opIx, opSl, spF, spFL, in_sign, in_tup2, in_tup3, kbs, lss, hrs]
    refine ⟨d, hrd2, ?_⟩
    simp only [uIf, uRet, uRetN, uDrop, uAsg, uPar, gNameU, gTupU, asgAll, uVar, uC, uNil, uCons, uTup, uLst, uIx, uOp, uUn, uM1, uTst, uNotT, uAnd, uOr, uAndV, uOrV, uNotV, uIfE, uChain, uIsi, uIsN, uNotN, uSl, uPart, uNoPart, uLen, uCall, uNext, uAny, itemsU, asB, okD, uBin, uUn1, rdv_dat, ixU, tyU, lenU, tyD, startU, endU, uYes, allD, uLc, uFz, uFrz, frzU, wipeU, uFor, uRng1, uRng2, opIn, opNotIn, opLt, opLe, opGt, opGe, opAdd, opSub, opInt, List.replicate, if_true, if_false, Nat.reduceSub, Nat.reduceAdd, Nat.reduceLeDiff, Nat.zero_le, atI_0, atI_1, atI_2, atI_3, atI_4, opIx, opSl, spF, spFL, in_sign, in_tup2, in_tup3, kbs, lss, hrs, ne_same]
    exact hnx _ _ ⟨rfl, _, _, rfl⟩
  rintro ρ ν ⟨rfl, o4, o5, rfl⟩
  change K _ _
  rw [hK]
  clear hK
  refine seq_step fun K hK => ?_
  simp only [uIf, uRet, uRetN, uDrop, uAsg, uPar, gNameU, gTupU, asgAll, uVar, uC, uNil, uCons, uTup, uLst, uIx, uOp, uUn, uM1, uTst, uNotT, uAnd, uOr, uAndV, uOrV, uNotV, uIfE, uChain, uIsi, uIsN, uNotN, uSl, uPart, uNoPart, uLen, uCall, uNext, uAny, itemsU, asB, okD, uBin, uUn1, rdv_dat, ixU, tyU, lenU, tyD, startU, endU, uYes, allD, uLc, uFz, uFrz, frzU, wipeU, uFor, uRng1, uRng2, opEq, opNe, opNeX, opIn, opNotIn, eqE, eqX, eqB, opLt, opLe, opGt, opGe, opAdd, opSub, opInt, List.replicate, if_true, if_false, Nat.reduceSub, Nat.reduceAdd, Nat.reduceLeDiff, Nat.zero_le, atI_0, atI_1, atI_2, atI_3, atI_4, opIx, opSl, spF, spFL, in_sign, in_tup2, in_tup3, kbs, lss]
  refine ⟨x, rfl, fun l2 ps2 μ3 o3 nl2 hl2 hnw3 => ?_⟩
  try simp only [uIf, uRet, uRetN, uDrop, uAsg, uPar, gNameU, gTupU, asgAll, uVar, uC, uNil, uCons, uTup, uLst, uIx, uOp, uUn, uM1, uTst, uNotT, uAnd, uOr, uAndV, uOrV, uNotV, uIfE, uChain, uIsi, uIsN, uNotN, uSl, uPart, uNoPart, uLen, uCall, uNext, uAny, itemsU, asB, okD, uBin, uUn1, rdv_dat, ixU, tyU, lenU, tyD, startU, endU, uYes, allD, uLc, uFz, uFrz, frzU, wipeU, uFor, uRng1, uRng2, opEq, opNe, opNeX, opIn, opNotIn, eqE, eqX, eqB, opLt, opLe, opGt, opGe, opAdd, opSub, opInt, List.replicate, if_true, if_false, Nat.reduceSub, Nat.reduceAdd, Nat.reduceLeDiff, Nat.zero_le, atI_0, atI_1, atI_2, atI_3, atI_4, opIx, opSl, spF, spFL, in_sign, in_tup2, in_tup3, kbs, lss]
  rw [hK]
  clear hK
  have rest : ∀ ν' : Mem, Vk x ν' → ν' l2 = some (.lst (ps2.map UV.ref)) → Paired (fun (q : Str × Str) p => ν' p = some (.exn q.1 [(q.2, x)])) cfs ps2 →
      uIf (uTst (uOp opNeX (uLcP (uEnumP (uVar 6)) [4, 5] (uTst (uOp opNeX (uReprE (uCall sp__law_field UX0 (uCons (uVar 5) (uCons (uVar 4) uNil)))) (uReprE (uVar 3)))) (uVar 4) [4, 5]) (uLst uNil))) (uRet (uC (.bool false))) uNext U [some (.ref p0), none, some (.ref b), some x, o4, o5, some (.ref l2)] ν' := by
    intro ν' hv' hl' hp'
    obtain ⟨d, s, hrd, hrs⟩ := hv'.rd
    have hrd := hrd ν' Old.refl
    have il : itemsL ν' (.ref l2) = some (ps2.map UV.ref) := by
      show (match ν' l2 with | some (.lst us) => some us | _ => none) = _
      rw [hl']
    simp only [uLcP, uEnumP, uIf, uRet, uRetN, uDrop, uAsg, uPar, gNameU, gTupU, asgAll, uVar, uC, uNil, uCons, uTup, uLst, uIx, uOp, uUn, uM1, uTst, uNotT, uAnd, uOr, uAndV, uOrV, uNotV, uIfE, uChain, uIsi, uIsN, uNotN, uSl, uPart, uNoPart, uLen, uCall, uNext, uAny, itemsU, asB, okD, uBin, uUn1, rdv_dat, ixU, tyU, lenU, tyD, startU, endU, uYes, allD, uLc, uFz, uFrz, frzU, wipeU, uFor, uRng1, uRng2, opIn, opNotIn, opLt, opLe, opGt, opGe, opAdd, opSub, opInt, List.replicate, if_true, if_false, Nat.reduceSub, Nat.reduceAdd, Nat.reduceLeDiff, Nat.zero_le, atI_0, atI_1, atI_2, atI_3, atI_4, opIx, opSl, spF, spFL, in_sign, in_tup2, in_tup3, kbs, lss]
    refine ⟨_, il, ?_, ?_⟩
    · rw [List.length_mapIdx, List.length_map, ← hp'.length, cfs_len]
      decide
    · refine lcP_none il ?_ _ ?_
      · unfold lcEnd
        simp only [uIf, uRet, uRetN, uDrop, uAsg, uPar, gNameU, gTupU, asgAll, uVar, uC, uNil, uCons, uTup, uLst, uIx, uOp, uUn, uM1, uTst, uNotT, uAnd, uOr, uAndV, uOrV, uNotV, uIfE, uChain, uIsi, uIsN, uNotN, uSl, uPart, uNoPart, uLen, uCall, uNext, uAny, itemsU, asB, okD, uBin, uUn1, rdv_dat, ixU, tyU, lenU, tyD, startU, endU, uYes, allD, uLc, uFz, uFrz, frzU, wipeU, uFor, uRng1, uRng2, opIn, opNotIn, opLt, opLe, opGt, opGe, opAdd, opSub, opInt, List.replicate, if_true, if_false, Nat.reduceSub, Nat.reduceAdd, Nat.reduceLeDiff, Nat.zero_le, atI_0, atI_1, atI_2, atI_3, atI_4, opIx, opSl, spF, spFL, in_sign, in_tup2, in_tup3, kbs, lss, ne_nil]
        exact hn _ _ rfl rfl
      · intro us hu
        obtain ⟨j, hj⟩ := List.mem_iff_getElem?.mp hu
        obtain ⟨p, rfl, hj, hp⟩ := walk_at hp' hj
        refine ⟨_, rfl, fun F hF => ?_⟩
        simp only [uReprE, uIf, uRet, uRetN, uDrop, uAsg, uPar, gNameU, gTupU, asgAll, uVar, uC, uNil, uCons, uTup, uLst, uIx, uOp, uUn, uM1, uTst, uNotT, uAnd, uOr, uAndV, uOrV, uNotV, uIfE, uChain, uIsi, uIsN, uNotN, uSl, uPart, uNoPart, uLen, uCall, uNext, uAny, itemsU, asB, okD, uBin, uUn1, rdv_dat, ixU, tyU, lenU, tyD, startU, endU, uYes, allD, uLc, uFz, uFrz, frzU, wipeU, uFor, uRng1, uRng2, opIn, opNotIn, opLt, opLe, opGt, opGe, opAdd, opSub, opInt, List.replicate, if_true, if_false, Nat.reduceSub, Nat.reduceAdd, Nat.reduceLeDiff, Nat.zero_le, atI_0, atI_1, atI_2, atI_3, atI_4, opIx, opSl, spF, spFL, in_sign, in_tup2, in_tup3, kbs, lss]
        refine ⟨p, _, x, j, rfl, hj, hp, ?_⟩
        refine ⟨d, hrd, ?_⟩
        simp only [uIf, uRet, uRetN, uDrop, uAsg, uPar, gNameU, gTupU, asgAll, uVar, uC, uNil, uCons, uTup, uLst, uIx, uOp, uUn, uM1, uTst, uNotT, uAnd, uOr, uAndV, uOrV, uNotV, uIfE, uChain, uIsi, uIsN, uNotN, uSl, uPart, uNoPart, uLen, uCall, uNext, uAny, itemsU, asB, okD, uBin, uUn1, rdv_dat, ixU, tyU, lenU, tyD, startU, endU, uYes, allD, uLc, uFz, uFrz, frzU, wipeU, uFor, uRng1, uRng2, opIn, opNotIn, opLt, opLe, opGt, opGe, opAdd, opSub, opInt, List.replicate, if_true, if_false, Nat.reduceSub, Nat.reduceAdd, Nat.reduceLeDiff, Nat.zero_le, atI_0, atI_1, atI_2, atI_3, atI_4, opIx, opSl, spF, spFL, in_sign, in_tup2, in_tup3, kbs, lss, hrs]
        refine ⟨d, hrd, ?_⟩
        simp only [uIf, uRet, uRetN, uDrop, uAsg, uPar, gNameU, gTupU, asgAll, uVar, uC, uNil, uCons, uTup, uLst, uIx, uOp, uUn, uM1, uTst, uNotT, uAnd, uOr, uAndV, uOrV, uNotV, uIfE, uChain, uIsi, uIsN, uNotN, uSl, uPart, uNoPart, uLen, uCall, uNext, uAny, itemsU, asB, okD, uBin, uUn1, rdv_dat, ixU, tyU, lenU, tyD, startU, endU, uYes, allD, uLc, uFz, uFrz, frzU, wipeU, uFor, uRng1, uRng2, opIn, opNotIn, opLt, opLe, opGt, opGe, opAdd, opSub, opInt, List.replicate, if_true, if_false, Nat.reduceSub, Nat.reduceAdd, Nat.reduceLeDiff, Nat.zero_le, atI_0, atI_1, atI_2, atI_3, atI_4, opIx, opSl, spF, spFL, in_sign, in_tup2, in_tup3, kbs, lss, hrs, ne_same]
        exact hF
  have hnw4 : Paired (fun (q : Str × Str) p => μ3 p = some (.exn q.1 [(q.2, x)])) cfs ps2 := pmap hnw3 fun q p h => h.2
  have o23 := o2.trans o3
  rcases hc with ⟨dx, rfl, k1, k2⟩ | ⟨p, us, rfl, hp, hu, hq⟩ | ⟨p, kvs, rfl, hp, hu, hq⟩
  · simp only [tyD] at k1 k2
    refine seq_step fun K hK => ?_
    simp only [uIf, uRet, uRetN, uDrop, uAsg, uPar, gNameU, gTupU, asgAll, uVar, uC, uNil, uCons, uTup, uLst, uIx, uOp, uUn, uM1, uTst, uNotT, uAnd, uOr, uAndV, uOrV, uNotV, uIfE, uChain, uIsi, uIsN, uNotN, uSl, uPart, uNoPart, uLen, uCall, uNext, uAny, itemsU, asB, okD, uBin, uUn1, rdv_dat, ixU, tyU, lenU, tyD, startU, endU, uYes, allD, uLc, uFz, uFrz, frzU, wipeU, uFor, uRng1, uRng2, opEq, opNe, opNeX, opIn, opNotIn, eqE, eqX, eqB, opLt, opLe, opGt, opGe, opAdd, opSub, opInt, List.replicate, if_true, if_false, Nat.reduceSub, Nat.reduceAdd, Nat.reduceLeDiff, Nat.zero_le, atI_0, atI_1, atI_2, atI_3, atI_4, opIx, opSl, spF, spFL, in_sign, in_tup2, in_tup3, kbs, lss, k1]
    rw [hK]
    clear hK
    refine seq_step fun K hK => ?_
    simp only [uIf, uRet, uRetN, uDrop, uAsg, uPar, gNameU, gTupU, asgAll, uVar, uC, uNil, uCons, uTup, uLst, uIx, uOp, uUn, uM1, uTst, uNotT, uAnd, uOr, uAndV, uOrV, uNotV, uIfE, uChain, uIsi, uIsN, uNotN, uSl, uPart, uNoPart, uLen, uCall, uNext, uAny, itemsU, asB, okD, uBin, uUn1, rdv_dat, ixU, tyU, lenU, tyD, startU, endU, uYes, allD, uLc, uFz, uFrz, frzU, wipeU, uFor, uRng1, uRng2, opEq, opNe, opNeX, opIn, opNotIn, eqE, eqX, eqB, opLt, opLe, opGt, opGe, opAdd, opSub, opInt, List.replicate, if_true, if_false, Nat.reduceSub, Nat.reduceAdd, Nat.reduceLeDiff, Nat.zero_le, atI_0, atI_1, atI_2, atI_3, atI_4, opIx, opSl, spF, spFL, in_sign, in_tup2, in_tup3, kbs, lss, k2]
    rw [hK]
    clear hK
    exact rest _ (hv.to o23) hl2 hnw4
  · have hp3 := o23 _ _ hp
    have nlp : l2 ≠ p := ne_of_at (o2 _ _ hp) nl2
    refine seq_step fun K hK => ?_
    simp only [uIf, uRet, uRetN, uDrop, uAsg, uPar, gNameU, gTupU, asgAll, uVar, uC, uNil, uCons, uTup, uLst, uIx, uOp, uUn, uM1, uTst, uNotT, uAnd, uOr, uAndV, uOrV, uNotV, uIfE, uChain, uIsi, uIsN, uNotN, uSl, uPart, uNoPart, uLen, uCall, uNext, uAny, itemsU, asB, okD, uBin, uUn1, rdv_dat, ixU, tyU, lenU, tyD, startU, endU, uYes, allD, uLc, uFz, uFrz, frzU, wipeU, uFor, uRng1, uRng2, opEq, opNe, opNeX, opIn, opNotIn, eqE, eqX, eqB, opLt, opLe, opGt, opGe, opAdd, opSub, opInt, List.replicate, if_true, if_false, Nat.reduceSub, Nat.reduceAdd, Nat.reduceLeDiff, Nat.zero_le, atI_0, atI_1, atI_2, atI_3, atI_4, opIx, opSl, spF, spFL, in_sign, in_tup2, in_tup3, kbs, lss, hp3, uAppend]
    refine ⟨by omega, ?_⟩
    rw [hK]
    clear hK
    refine seq_step fun K hK => ?_
    simp only [uIf, uRet, uRetN, uDrop, uAsg, uPar, gNameU, gTupU, asgAll, uVar, uC, uNil, uCons, uTup, uLst, uIx, uOp, uUn, uM1, uTst, uNotT, uAnd, uOr, uAndV, uOrV, uNotV, uIfE, uChain, uIsi, uIsN, uNotN, uSl, uPart, uNoPart, uLen, uCall, uNext, uAny, itemsU, asB, okD, uBin, uUn1, rdv_dat, ixU, tyU, lenU, tyD, startU, endU, uYes, allD, uLc, uFz, uFrz, frzU, wipeU, uFor, uRng1, uRng2, opEq, opNe, opNeX, opIn, opNotIn, eqE, eqX, eqB, opLt, opLe, opGt, opGe, opAdd, opSub, opInt, List.replicate, if_true, if_false, Nat.reduceSub, Nat.reduceAdd, Nat.reduceLeDiff, Nat.zero_le, atI_0, atI_1, atI_2, atI_3, atI_4, opIx, opSl, spF, spFL, in_sign, in_tup2, in_tup3, kbs, lss, put_same]
    rw [hK]
    clear hK
    refine rest _ (hq _ o23) (by rw [put_ne nlp]; exact hl2) (pmap hnw4 fun q p' h => ?_)
    rw [put_ne (fun z => by rw [z, hp3] at h; cases h)]
    exact h
  · have hp3 := o23 _ _ hp
    have nlp : l2 ≠ p := ne_of_at (o2 _ _ hp) nl2
    refine seq_step fun K hK => ?_
    simp only [uIf, uRet, uRetN, uDrop, uAsg, uPar, gNameU, gTupU, asgAll, uVar, uC, uNil, uCons, uTup, uLst, uIx, uOp, uUn, uM1, uTst, uNotT, uAnd, uOr, uAndV, uOrV, uNotV, uIfE, uChain, uIsi, uIsN, uNotN, uSl, uPart, uNoPart, uLen, uCall, uNext, uAny, itemsU, asB, okD, uBin, uUn1, rdv_dat, ixU, tyU, lenU, tyD, startU, endU, uYes, allD, uLc, uFz, uFrz, frzU, wipeU, uFor, uRng1, uRng2, opEq, opNe, opNeX, opIn, opNotIn, eqE, eqX, eqB, opLt, opLe, opGt, opGe, opAdd, opSub, opInt, List.replicate, if_true, if_false, Nat.reduceSub, Nat.reduceAdd, Nat.reduceLeDiff, Nat.zero_le, atI_0, atI_1, atI_2, atI_3, atI_4, opIx, opSl, spF, spFL, in_sign, in_tup2, in_tup3, kbs, lss, hp3]
    rw [hK]
    clear hK
    refine seq_step fun K hK => ?_
    simp only [uIf, uRet, uRetN, uDrop, uAsg, uPar, gNameU, gTupU, asgAll, uVar, uC, uNil, uCons, uTup, uLst, uIx, uOp, uUn, uM1, uTst, uNotT, uAnd, uOr, uAndV, uOrV, uNotV, uIfE, uChain, uIsi, uIsN, uNotN, uSl, uPart, uNoPart, uLen, uCall, uNext, uAny, itemsU, asB, okD, uBin, uUn1, rdv_dat, ixU, tyU, lenU, tyD, startU, endU, uYes, allD, uLc, uFz, uFrz, frzU, wipeU, uFor, uRng1, uRng2, opEq, opNe, opNeX, opIn, opNotIn, eqE, eqX, eqB, opLt, opLe, opGt, opGe, opAdd, opSub, opInt, List.replicate, if_true, if_false, Nat.reduceSub, Nat.reduceAdd, Nat.reduceLeDiff, Nat.zero_le, atI_0, atI_1, atI_2, atI_3, atI_4, opIx, opSl, spF, spFL, in_sign, in_tup2, in_tup3, kbs, lss, hp3, uDPut]
    refine ⟨p, kvs, _, _, rfl, hp3, rfl, rfl, by omega, ?_⟩
    rw [hK]
    clear hK
    refine rest _ (hq _ o23) (by rw [put_ne nlp]; exact hl2) (pmap hnw4 fun q p' h => ?_)
    rw [put_ne (fun z => by rw [z, hp3] at h; cases h)]
    exact h
end K03

set_option Elab.async false
set_option linter.all false
set_option maxRecDepth 100000
set_option maxHeartbeats 4000000
namespace K03
open PySem PySem.Spec PyProof.Rows L2 CN Evl
theorem lawC_ok {U : UEnds} (h : ∀ μ', U.rt (.dat (.bool true)) μ') : u_lawC U (List.replicate 7 none) (fun _ => none) := by
  show u_lawC U [none, none, none, none, none, none, none] _
  unfold u_lawC
  refine seq_step fun K hK => ?_
  generalize hμ : (fun _ => none : Mem) = μ
  clear hμ
  simp only [uIf, uRet, uRetN, uDrop, uAsg, uPar, gNameU, gTupU, asgAll, uVar, uC, uNil, uCons, uTup, uLst, uIx, uOp, uUn, uM1, uTst, uNotT, uAnd, uOr, uAndV, uOrV, uNotV, uIfE, uChain, uIsi, uIsN, uNotN, uSl, uPart, uNoPart, uLen, uCall, uNext, uAny, itemsU, asB, okD, uBin, uUn1, rdv_dat, ixU, tyU, lenU, tyD, startU, endU, uYes, allD, uLc, uFz, uFrz, frzU, wipeU, uFor, uRng1, uRng2, opEq, opNe, opNeX, opIn, opNotIn, eqE, eqX, eqB, opLt, opLe, opGt, opGe, opAdd, opSub, opInt, List.replicate, if_true, if_false, Nat.reduceSub, Nat.reduceAdd, Nat.reduceLeDiff, Nat.zero_le, atI_0, atI_1, atI_2, atI_3, atI_4, opIx, opSl, spF, spFL, in_sign, in_tup2, in_tup3, kbs, lss, uLstM, uMkN]
  intro p1 n1 t1 m1
  have a1 : put (put μ p1 (.exn "NothingToUndo" [])) t1 (.tpl [.dat (.int 27), .ref p1]) p1 = some (.exn "NothingToUndo" []) := Old.put m1 _ _ put_same
  have b1 : put (put μ p1 (.exn "NothingToUndo" [])) t1 (.tpl [.dat (.int 27), .ref p1]) t1 = some (.tpl [.dat (.int 27), .ref p1]) := put_same
  generalize put (put μ p1 (.exn "NothingToUndo" [])) t1 (.tpl [.dat (.int 27), .ref p1]) = μ1 at a1 b1 ⊢
  intro p2 n2 t2 m2
  have o2 : Old μ1 (put (put μ1 p2 (.exn "NothingToRedo" [])) t2 (.tpl [.dat (.int 28), .ref p2])) := (Old.put n2).trans (Old.put m2)
  have a2 : put (put μ1 p2 (.exn "NothingToRedo" [])) t2 (.tpl [.dat (.int 28), .ref p2]) p2 = some (.exn "NothingToRedo" []) := Old.put m2 _ _ put_same
  have b2 : put (put μ1 p2 (.exn "NothingToRedo" [])) t2 (.tpl [.dat (.int 28), .ref p2]) t2 = some (.tpl [.dat (.int 28), .ref p2]) := put_same
  generalize put (put μ1 p2 (.exn "NothingToRedo" [])) t2 (.tpl [.dat (.int 28), .ref p2]) = μ2 at o2 a2 b2 ⊢
  intro l nl
  have o3 := Old.put (m := .lst [.ref t1, .ref t2]) nl
  have hl := put_same (μ := μ2) (a := l) (m := .lst [.ref t1, .ref t2])
  have A1 := o3 _ _ (o2 _ _ a1)
  have B1 := o3 _ _ (o2 _ _ b1)
  have A2 := o3 _ _ a2
  have B2 := o3 _ _ b2
  generalize put μ2 l (.lst [.ref t1, .ref t2]) = μ3 at hl A1 B1 A2 B2 ⊢
  simp only [hl]
  have step : ∀ (t p : Addr) (c : Str) (j : Nat) (U' : UEnds) (o4 o5 : Option UV), 27 ≤ j → j < 29 → c = xn j → μ3 p = some (.exn c []) → μ3 t = some (.tpl [.dat (.int (j : Nat)), .ref p]) → (∀ o4 o5, U'.nx [none, none, none, none, o4, o5, none] μ3) →
      gTupU [4, 5] (.ref t) [none, none, none, none, o4, o5, none] μ3 fun ρ' μ' => uIf (uOr (uTst (uOp opNeX (uCall sp__law_kinds UX0 (uCons (uVar 5) uNil)) (uLst (uCons (uVar 4) uNil)))) (uTst (uOp opNeX (uCall sp__law_bases UX0 (uCons (uVar 5) uNil)) (uCall sp__law_due UX0 (uCons (uVar 4) uNil))))) (uRet (uC (.bool false))) uNext U' ρ' μ' := by
    intro t p c j U' o4 o5 h27 h29 hc hp ht hnx
    subst hc
    obtain ⟨r, hr, e1, e2⟩ := chk1_of (all_chk j h29)
    have e1 : opNeX (intsD (kindsN (xn j) r)) (.list [.int (j : Nat)]) = some (.bool false) := e1
    simp only [uIf, uRet, uRetN, uDrop, uAsg, uPar, gNameU, gTupU, asgAll, uVar, uC, uNil, uCons, uTup, uLst, uIx, uOp, uUn, uM1, uTst, uNotT, uAnd, uOr, uAndV, uOrV, uNotV, uIfE, uChain, uIsi, uIsN, uNotN, uSl, uPart, uNoPart, uLen, uCall, uNext, uAny, itemsU, asB, okD, uBin, uUn1, rdv_dat, ixU, tyU, lenU, tyD, startU, endU, uYes, allD, uLc, uFz, uFrz, frzU, wipeU, uFor, uRng1, uRng2, opIn, opNotIn, opLt, opLe, opGt, opGe, opAdd, opSub, opInt, List.replicate, if_true, if_false, Nat.reduceSub, Nat.reduceAdd, Nat.reduceLeDiff, Nat.zero_le, atI_0, atI_1, atI_2, atI_3, atI_4, opIx, opSl, spF, spFL, in_sign, in_tup2, in_tup3, kbs, lss, ht]
    refine ⟨p, _, _, r, rfl, hp, hr, ?_⟩
    simp only [uIf, uRet, uRetN, uDrop, uAsg, uPar, gNameU, gTupU, asgAll, uVar, uC, uNil, uCons, uTup, uLst, uIx, uOp, uUn, uM1, uTst, uNotT, uAnd, uOr, uAndV, uOrV, uNotV, uIfE, uChain, uIsi, uIsN, uNotN, uSl, uPart, uNoPart, uLen, uCall, uNext, uAny, itemsU, asB, okD, uBin, uUn1, rdv_dat, ixU, tyU, lenU, tyD, startU, endU, uYes, allD, uLc, uFz, uFrz, frzU, wipeU, uFor, uRng1, uRng2, opIn, opNotIn, opLt, opLe, opGt, opGe, opAdd, opSub, opInt, List.replicate, if_true, if_false, Nat.reduceSub, Nat.reduceAdd, Nat.reduceLeDiff, Nat.zero_le, atI_0, atI_1, atI_2, atI_3, atI_4, opIx, opSl, spF, spFL, in_sign, in_tup2, in_tup3, kbs, lss, e1]
    refine ⟨p, _, _, r, rfl, hp, hr, ?_⟩
    try simp only [uIf, uRet, uRetN, uDrop, uAsg, uPar, gNameU, gTupU, asgAll, uVar, uC, uNil, uCons, uTup, uLst, uIx, uOp, uUn, uM1, uTst, uNotT, uAnd, uOr, uAndV, uOrV, uNotV, uIfE, uChain, uIsi, uIsN, uNotN, uSl, uPart, uNoPart, uLen, uCall, uNext, uAny, itemsU, asB, okD, uBin, uUn1, rdv_dat, ixU, tyU, lenU, tyD, startU, endU, uYes, allD, uLc, uFz, uFrz, frzU, wipeU, uFor, uRng1, uRng2, opIn, opNotIn, opLt, opLe, opGt, opGe, opAdd, opSub, opInt, List.replicate, if_true, if_false, Nat.reduceSub, Nat.reduceAdd, Nat.reduceLeDiff, Nat.zero_le, atI_0, atI_1, atI_2, atI_3, atI_4, opIx, opSl, spF, spFL, in_sign, in_tup2, in_tup3, kbs, lss]
    refine ⟨_, rfl, ?_⟩
    simp only [uIf, uRet, uRetN, uDrop, uAsg, uPar, gNameU, gTupU, asgAll, uVar, uC, uNil, uCons, uTup, uLst, uIx, uOp, uUn, uM1, uTst, uNotT, uAnd, uOr, uAndV, uOrV, uNotV, uIfE, uChain, uIsi, uIsN, uNotN, uSl, uPart, uNoPart, uLen, uCall, uNext, uAny, itemsU, asB, okD, uBin, uUn1, rdv_dat, ixU, tyU, lenU, tyD, startU, endU, uYes, allD, uLc, uFz, uFrz, frzU, wipeU, uFor, uRng1, uRng2, opIn, opNotIn, opLt, opLe, opGt, opGe, opAdd, opSub, opInt, List.replicate, if_true, if_false, Nat.reduceSub, Nat.reduceAdd, Nat.reduceLeDiff, Nat.zero_le, atI_0, atI_1, atI_2, atI_3, atI_4, opIx, opSl, spF, spFL, in_sign, in_tup2, in_tup3, kbs, lss, e2]
    exact hnx _ _
  refine for_inv (fun j ρ ν => ν = μ3 ∧ ∃ o4 o5, ρ = [none, none, none, none, o4, o5, none]) _ _ _ 0 ⟨rfl, none, none, rfl⟩ (fun j ρ ν h => by rw [h.1]; exact hl) ?_ ?_
  · rintro j x ρ ν U' hx ⟨rfl, o4, o5, rfl⟩ hnx _ _ _
    match j, hx with
    | 0, hx => cases hx; exact step t1 p1 _ 27 U' o4 o5 (by decide) (by decide) (by decide +kernel) A1 B1 (fun o4 o5 => hnx _ _ ⟨rfl, o4, o5, rfl⟩)
    | 1, hx => cases hx; exact step t2 p2 _ 28 U' o4 o5 (by decide) (by decide) (by decide +kernel) A2 B2 (fun o4 o5 => hnx _ _ ⟨rfl, o4, o5, rfl⟩)
    | j + 2, hx => cases hx
  rintro ρ ν ⟨rfl, o4, o5, rfl⟩
  change K _ _
  rw [hK]
  clear hK
  refine seq_step fun K hK => ?_
  clear A1 B1 A2 B2 hl a1 b1 a2 b2 o2 o3 step nl n1 m1 n2 m2
  simp only [uForP, uEnumP, uIf, uRet, uRetN, uDrop, uAsg, uPar, gNameU, gTupU, asgAll, uVar, uC, uNil, uCons, uTup, uLst, uIx, uOp, uUn, uM1, uTst, uNotT, uAnd, uOr, uAndV, uOrV, uNotV, uIfE, uChain, uIsi, uIsN, uNotN, uSl, uPart, uNoPart, uLen, uCall, uNext, uAny, itemsU, asB, okD, uBin, uUn1, rdv_dat, ixU, tyU, lenU, tyD, startU, endU, uYes, allD, uLc, uFz, uFrz, frzU, wipeU, uFor, uRng1, uRng2, opEq, opNe, opNeX, opIn, opNotIn, eqE, eqX, eqB, opLt, opLe, opGt, opGe, opAdd, opSub, opInt, List.replicate, if_true, if_false, Nat.reduceSub, Nat.reduceAdd, Nat.reduceLeDiff, Nat.zero_le, atI_0, atI_1, atI_2, atI_3, atI_4, opIx, opSl, spF, spFL, in_sign, in_tup2, in_tup3, kbs, lss, uLstM, uMk0]
  intro p1 n1 p2 n2 p3 n3 l nl
  have A1 := (((Old.put (m := .exn "AbsentError" []) n2).trans (Old.put (m := .exn "StateError" []) n3)).trans (Old.put (m := .lst [.ref p1, .ref p2, .ref p3]) nl)) _ _ (put_same (a := p1) (m := .exn "CaughtError" []))
  have A2 := ((Old.put (m := .exn "StateError" []) n3).trans (Old.put (m := .lst [.ref p1, .ref p2, .ref p3]) nl)) _ _ (put_same (a := p2) (m := .exn "AbsentError" []))
  have A3 := (Old.put (m := .lst [.ref p1, .ref p2, .ref p3]) nl) _ _ (put_same (a := p3) (m := .exn "StateError" []))
  have hl := put_same (μ := put (put (put ν p1 (.exn "CaughtError" [])) p2 (.exn "AbsentError" [])) p3 (.exn "StateError" [])) (a := l) (m := .lst [.ref p1, .ref p2, .ref p3])
  generalize put (put (put (put ν p1 (.exn "CaughtError" [])) p2 (.exn "AbsentError" [])) p3 (.exn "StateError" [])) l (.lst [.ref p1, .ref p2, .ref p3]) = μ3 at A1 A2 A3 hl ⊢
  have il : itemsL μ3 (.ref l) = some [.ref p1, .ref p2, .ref p3] := by
    show (match μ3 l with | some (.lst us) => some us | _ => none) = _
    rw [hl]
  refine ⟨_, il, ?_⟩
  have step : ∀ (p : Addr) (c : Str) (j : Nat) (k : Int) (U' : UEnds), chk1 c [] (dueB k) = true → atI [PyData.int 0, PyData.int 23, PyData.int 26] (j : Int) = some (.int k) → μ3 p = some (.exn c []) → (∀ o4 o5, U'.nx [none, none, none, none, o4, o5, none] μ3) →
      uIf (uOr (uTst (uOp opNeX (uCall sp__law_kinds UX0 (uCons (uVar 5) uNil)) (uLst uNil))) (uTst (uOp opNeX (uCall sp__law_bases UX0 (uCons (uVar 5) uNil)) (uCall sp__law_due UX0 (uCons (uIx (uLst (uCons (uC (.int 0)) (uCons (uC (.int 23)) (uCons (uC (.int 26)) uNil)))) (uVar 4)) uNil))))) (uRet (uC (.bool false))) uNext U' [none, none, none, none, some (.dat (.int (j : Nat))), some (.ref p), none] μ3 := by
    intro p c j k U' hc hj hp hnx
    obtain ⟨r, hr, e1, e2⟩ := chk1_of hc
    have e1 : opNeX (intsD (kindsN c r)) (.list []) = some (.bool false) := e1
    simp only [uIf, uRet, uRetN, uDrop, uAsg, uPar, gNameU, gTupU, asgAll, uVar, uC, uNil, uCons, uTup, uLst, uIx, uOp, uUn, uM1, uTst, uNotT, uAnd, uOr, uAndV, uOrV, uNotV, uIfE, uChain, uIsi, uIsN, uNotN, uSl, uPart, uNoPart, uLen, uCall, uNext, uAny, itemsU, asB, okD, uBin, uUn1, rdv_dat, ixU, tyU, lenU, tyD, startU, endU, uYes, allD, uLc, uFz, uFrz, frzU, wipeU, uFor, uRng1, uRng2, opIn, opNotIn, opLt, opLe, opGt, opGe, opAdd, opSub, opInt, List.replicate, if_true, if_false, Nat.reduceSub, Nat.reduceAdd, Nat.reduceLeDiff, Nat.zero_le, atI_0, atI_1, atI_2, atI_3, atI_4, opIx, opSl, spF, spFL, in_sign, in_tup2, in_tup3, kbs, lss]
    refine ⟨p, _, _, r, rfl, hp, hr, ?_⟩
    simp only [uIf, uRet, uRetN, uDrop, uAsg, uPar, gNameU, gTupU, asgAll, uVar, uC, uNil, uCons, uTup, uLst, uIx, uOp, uUn, uM1, uTst, uNotT, uAnd, uOr, uAndV, uOrV, uNotV, uIfE, uChain, uIsi, uIsN, uNotN, uSl, uPart, uNoPart, uLen, uCall, uNext, uAny, itemsU, asB, okD, uBin, uUn1, rdv_dat, ixU, tyU, lenU, tyD, startU, endU, uYes, allD, uLc, uFz, uFrz, frzU, wipeU, uFor, uRng1, uRng2, opIn, opNotIn, opLt, opLe, opGt, opGe, opAdd, opSub, opInt, List.replicate, if_true, if_false, Nat.reduceSub, Nat.reduceAdd, Nat.reduceLeDiff, Nat.zero_le, atI_0, atI_1, atI_2, atI_3, atI_4, opIx, opSl, spF, spFL, in_sign, in_tup2, in_tup3, kbs, lss, e1]
    refine ⟨p, _, _, r, rfl, hp, hr, ?_⟩
    simp only [uIf, uRet, uRetN, uDrop, uAsg, uPar, gNameU, gTupU, asgAll, uVar, uC, uNil, uCons, uTup, uLst, uIx, uOp, uUn, uM1, uTst, uNotT, uAnd, uOr, uAndV, uOrV, uNotV, uIfE, uChain, uIsi, uIsN, uNotN, uSl, uPart, uNoPart, uLen, uCall, uNext, uAny, itemsU, asB, okD, uBin, uUn1, rdv_dat, ixU, tyU, lenU, tyD, startU, endU, uYes, allD, uLc, uFz, uFrz, frzU, wipeU, uFor, uRng1, uRng2, opIn, opNotIn, opLt, opLe, opGt, opGe, opAdd, opSub, opInt, List.replicate, if_true, if_false, Nat.reduceSub, Nat.reduceAdd, Nat.reduceLeDiff, Nat.zero_le, atI_0, atI_1, atI_2, atI_3, atI_4, opIx, opSl, spF, spFL, in_sign, in_tup2, in_tup3, kbs, lss, hj]
    refine ⟨_, rfl, ?_⟩
    simp only [uIf, uRet, uRetN, uDrop, uAsg, uPar, gNameU, gTupU, asgAll, uVar, uC, uNil, uCons, uTup, uLst, uIx, uOp, uUn, uM1, uTst, uNotT, uAnd, uOr, uAndV, uOrV, uNotV, uIfE, uChain, uIsi, uIsN, uNotN, uSl, uPart, uNoPart, uLen, uCall, uNext, uAny, itemsU, asB, okD, uBin, uUn1, rdv_dat, ixU, tyU, lenU, tyD, startU, endU, uYes, allD, uLc, uFz, uFrz, frzU, wipeU, uFor, uRng1, uRng2, opIn, opNotIn, opLt, opLe, opGt, opGe, opAdd, opSub, opInt, List.replicate, if_true, if_false, Nat.reduceSub, Nat.reduceAdd, Nat.reduceLeDiff, Nat.zero_le, atI_0, atI_1, atI_2, atI_3, atI_4, opIx, opSl, spF, spFL, in_sign, in_tup2, in_tup3, kbs, lss, e2]
    exact hnx _ _
  refine forP_inv (fun j ρ ν => ν = μ3 ∧ ∃ o4 o5, ρ = [none, none, none, none, o4, o5, none]) _ _ _ 0 ⟨rfl, _, _, rfl⟩ (fun j ρ ν h => by rw [h.1]; exact il) ?_ ?_
  · rintro j us ρ ν U' hx ⟨rfl, o4, o5, rfl⟩ hnx _ _ _
    match j, hx with
    | 0, hx => cases hx; exact ⟨_, rfl, step p1 _ 0 0 U' base_chk.1 rfl A1 (fun o4 o5 => hnx _ _ ⟨rfl, o4, o5, rfl⟩)⟩
    | 1, hx => cases hx; exact ⟨_, rfl, step p2 _ 1 23 U' base_chk.2.1 rfl A2 (fun o4 o5 => hnx _ _ ⟨rfl, o4, o5, rfl⟩)⟩
    | 2, hx => cases hx; exact ⟨_, rfl, step p3 _ 2 26 U' base_chk.2.2 rfl A3 (fun o4 o5 => hnx _ _ ⟨rfl, o4, o5, rfl⟩)⟩
    | j + 3, hx => cases hx
  rintro ρ ν ⟨rfl, o4, o5, rfl⟩
  change K _ _
  rw [hK]
  exact h _
def sp_law (K : PySem.W.Frag) : Sp := fun vs H Q _ => ∃ (a : Addr) (ns : List Int), vs = [.ref a] ∧ SqL K H a (ns.map V.int) ∧ ns.length ≤ 63 ∧ ∀ H', Q (.bl true) H'
theorem sp_law_of {K : PySem.W.Frag} {H : Hp} {a : Addr} {ns : List Int} (hl : ns.length ≤ 63) (hO : Only H) (hS : SqL K H a (ns.map V.int)) : sp_law K [.ref a] H (fun v _ => v = .bl true) fun _ _ _ => False := ⟨a, ns, rfl, hS, hl, fun _ => rfl⟩
def lawU (p0 : Addr) : UEnds := { nx := fun ρ _ => ρ.length = 7 ∧ ρ[0]? = some (some (.ref p0)), rt := fun _ _ => False, bk := fun _ _ => False, ct := fun ρ _ => ρ.length = 7 ∧ ρ[0]? = some (some (.ref p0)) }
theorem lawB_lift {K : PySem.W.Frag} {mg : Str → Option Value} {a : Ad} (T : Txt K mg a) {H : Hp} {b p0 : Addr} {D : Ends} {σ : L2.St} (B : BoxAt H b 0) (hl : σ.length = 7) (h0 : σ[0]? = some (some (.ref p0))) (h2 : σ[2]? = some (some (.ref b)))
    (h : ∀ σ' H', σ'.length = 7 → σ'[0]? = some (some (.ref p0)) → (∀ a o, a ≠ b → H a = some o → H' a = some o) → D.nx σ' H') (hc : D.ct = D.nx) : t_lawB K a D σ H := by
  refine S_lawB T (fun a => H a ≠ none ∧ a ≠ b) D (lawU p0) σ H ([some (.ref p0), none, some (.ref b)] ++ List.replicate (7 - 3) none) (put (fun _ => none) b (.box 0)) ⟨fun a m e => ?_, fun a n => n.1, trivial⟩ ⟨?_, ?_⟩ (lawB_ok (U := lawU p0) (fun r μ' hr h => ⟨hr, h⟩) (fun r μ' hr h => ⟨hr, h⟩)) ⟨?_, fun _ _ _ _ _ _ _ z => z.elim, fun _ _ _ _ _ _ _ z => z.elim, ?_⟩
  · by_cases hab : a = b
    · subst hab
      rw [put_same] at e
      cases e
      exact ⟨fun n => n.2 rfl, [], B, .nil⟩
    · rw [put_ne hab] at e
      cases e
  · rw [hl]
    rfl
  · intro i x hx
    match i, hx with
    | 0, hx => cases hx; exact ⟨_, h0, rfl⟩
    | 1, hx => cases hx
    | 2, hx => cases hx; exact ⟨_, h2, rfl⟩
    | i + 3, hx =>
      have : (List.replicate (7 - 3) (none : Option UV))[i]? = some (some x) := hx
      rw [List.getElem?_replicate] at this
      split at this <;> cases this
  · rintro σ' H' ρ μ' g hr sr ⟨h1, h3⟩
    obtain ⟨v, e1, e2⟩ := sr.2 0 _ h3
    have ev : v = .ref p0 := e2
    subst ev
    refine h σ' H' (by rw [sr.1]; exact h1) e1 fun a o n e => ?_
    rw [g.fx a ⟨(by rw [e]; intro z; cases z), n⟩]
    exact e
  · rintro σ' H' ρ μ' g hr sr ⟨h1, h3⟩
    rw [hc]
    obtain ⟨v, e1, e2⟩ := sr.2 0 _ h3
    have ev : v = .ref p0 := e2
    subst ev
    refine h σ' H' (by rw [sr.1]; exact h1) e1 fun a o n e => ?_
    rw [g.fx a ⟨(by rw [e]; intro z; cases z), n⟩]
    exact e
def lawUC : UEnds := { nx := fun _ _ => False, rt := fun x _ => x = .dat (.bool true), bk := fun _ _ => False, ct := fun _ _ => False }
theorem lawC_lift {K : PySem.W.Frag} {mg : Str → Option Value} {a : Ad} (T : Txt K mg a) {H : Hp} {D : Ends} {σ : L2.St} (hl : σ.length = 7) (h : ∀ H', D.rt (.bl true) H') : t_lawC K a D σ H := by
  refine S_lawC T (fun a => H a ≠ none) D lawUC σ H (List.replicate 7 none) (fun _ => none) ⟨(fun a m e => by cases e), (fun a n => n), trivial⟩ ⟨?_, ?_⟩ (lawC_ok (U := lawUC) (fun _ => rfl)) ⟨fun _ _ _ _ _ _ _ z => z.elim, ?_, fun _ _ _ _ _ _ _ z => z.elim, fun _ _ _ _ _ _ _ z => z.elim⟩
  · rw [hl]
    rfl
  · intro i x hx
    rw [List.getElem?_replicate] at hx
    split at hx <;> cases hx
  · rintro v H' x μ' g hr hv rfl
    rw [Da.blI hv]
    exact h H'
theorem rd_law {K : PySem.W.Frag} {mg : Str → Option Value} {a : Ad} (T : Txt K mg a) {vs : List V} {H : Hp} {Q : VK} {E : XK} (h : sp_law K vs H Q E) :
    t_law K a { nx := fun _ H' => Q .non H', rt := Q } (L2.start N_law vs) H := by
  obtain ⟨p0, ns, rfl, hS, hlen, q⟩ := h
  refine ⟨_, rfl, .inl ⟨_, .inl hS, ?_⟩⟩
  obtain ⟨n, hn⟩ : ∃ n : Int, n = (if (if ((List.map V.int ns).length : Int) < 12 then ((List.map V.int ns).length : Int) else 12) > 1 then (if ((List.map V.int ns).length : Int) < 12 then ((List.map V.int ns).length : Int) else 12) else 1) := ⟨_, rfl⟩
  have hn1 : 1 ≤ n ∧ n ≤ 12 := by
    rw [hn]
    split <;> split at * <;> omega
  refine ⟨n, by rw [hn], by omega, by omega, ?_⟩
  refine for_range (lo := 0) (n := n.toNat) (fun i σ H' => σ.length = 7 ∧ σ[0]? = some (some (.ref p0)) ∧ Ex H H') ⟨rfl, rfl, Ex.refl H⟩ ?_ (fun σ H' h => lawC_lift T h.1 fun H' => q H')
  rintro i σ H1 hi ⟨hl, h0, e1⟩
  have s0 : (σ.set 1 (some (.int (0 + (i : Nat)))))[0]? = some (some (.ref p0)) := by rw [List.getElem?_set_ne (by decide)]; exact h0
  have s1 : (σ.set 1 (some (.int (0 + (i : Nat)))))[1]? = some (some (.int (0 + (i : Nat)))) := by rw [List.getElem?_set_self (by omega)]
  refine ⟨_, s0, _, s1, p0, ns, i, by simp, ex_l e1 hS, by omega, fun c => ⟨c, rfl, fun b H2 n2 e2 B2 => ?_⟩⟩
  have nb : H b = none := (fresh_back e1 n2)
  refine lawB_lift T B2 (by rw [List.length_set, List.length_set]; exact hl) (by rw [List.getElem?_set_ne (by decide)]; exact s0) (by rw [List.getElem?_set_self (by rw [List.length_set]; omega)]) (fun σ' H' h1 h2 h3 => ?_) rfl
  exact ⟨h1, h2, fun x o hx => h3 x o (ne_of_none hx nb) ((e1.trans e2) x o hx)⟩
theorem ok_law {P : Program} {w : World} {K : PySem.W.Frag} {mg : Str → Option Value} {base : Heap} {a : Ad} (T : Txt K mg a) (hsy : SysIn base) : FnG P w K mg base CX0 10 a.f_law a.d_law ["_law_script"] (sp_law K) := by
  have G_NothingToRedo___init__ := ok_NothingToRedo___init__ (P := P) (w := w) (base := base) T
  have G_NothingToUndo___init__ := ok_NothingToUndo___init__ (P := P) (w := w) (base := base) T
  have G__law_bases := ok__law_bases (P := P) (w := w) (base := base) T
  have G__law_box := ok__law_box (P := P) (w := w) (base := base) T
  have G__law_cell := ok__law_cell (P := P) (w := w) (base := base) T
  have G__law_due := ok__law_due (P := P) (w := w) (base := base) T
  have G__law_field := ok__law_field (P := P) (w := w) (base := base) T
  have G__law_kinds := ok__law_kinds (P := P) (w := w) (base := base) T
  have G__law_made := ok__law_made (P := P) (w := w) (base := base) T
  have G__law_value := ok__law_value (P := P) (w := w) (base := base) T
  refine CN.Fun.okG T.F_law sc_law (fun vs H Q E h => ?_) (fun cdv A outer s H vs Q E hr hgd h => ⟨t_law K a, ?_, rd_law T h⟩)
  · obtain ⟨_, _, rfl, _⟩ := h
    rfl
  exact (pss_cons (ps_for PassesOwn.never rfl (pi_range1 (by rfl) T.b_range (pa_cons (pe_callB (call_maxI rfl) (by rfl) T.b_max (by decide +kernel) (pa_cons pe_int (pa_cons (pe_callB (call_minI rfl) (by rfl) T.b_min (by decide +kernel) (pa_cons pe_int (pa_cons (pe_callB call_lenU (by rfl) T.b_len (by decide +kernel) (pa_cons (pv 0) pa_nil)) pa_nil))) pa_nil))) pa_nil)) (pg_name (i := 1) sc_law.nd rfl (Or.inl rfl)) (pss_cons (ps_set (i := 2) sc_law.nd rfl (Or.inl rfl) (pe_call G__law_box (hr.mono (by first | decide | omega)) (by rfl) T.g__law_box T.F__law_box.kp T.bi__law_box .nil pass0 (pa_cons (pe_call G__law_cell (hr.mono (by first | decide | omega)) (by rfl) T.g__law_cell T.F__law_cell.kp T.bi__law_cell .nil pass0 (pa_cons (pv 0) (pa_cons (pv 1) pa_nil))) pa_nil)))
      (pss_cons (ps_set (i := 3) sc_law.nd rfl (Or.inr rfl) (pe_call G__law_value (hr.mono (by first | decide | omega)) (by rfl) T.g__law_value T.F__law_value.kp T.bi__law_value .nil pass0 (pa_cons (pv 2) pa_nil)))
      (pss_cons (ps_for PassesOwn.never rfl (pi_enum (by rfl) T.b_enumerate (pa_cons (pe_call G__law_made (hr.mono (by first | decide | omega)) (by rfl) T.g__law_made T.F__law_made.kp T.bi__law_made .nil pass0 (pa_cons (pv 3) pa_nil)) pa_nil)) (pg_tup rfl (pgs_cons (pg_name (i := 4) sc_law.nd rfl (Or.inl rfl)) (pgs_cons (pg_name (i := 5) sc_law.nd rfl (Or.inl rfl)) pgs_nil))) (pss_cons (ps_if (PW.pt (pw_or (pt_cmpR (op_neW (room200 hr)) (pe_call G__law_kinds (hr.mono (by first | decide | omega)) (by rfl) T.g__law_kinds T.F__law_kinds.kp T.bi__law_kinds .nil pass0 (pa_cons (pv 5) pa_nil)) (pe_lstG (pa_cons (pv 4) pa_nil)) (nomark _)) (pw_or1 (pt_cmpR (op_neW (room200 hr)) (pe_call G__law_bases (hr.mono (by first | decide | omega)) (by rfl) T.g__law_bases T.F__law_bases.kp T.bi__law_bases .nil pass0 (pa_cons (pv 5) pa_nil)) (pe_call G__law_due (hr.mono (by first | decide | omega)) (by rfl) T.g__law_due T.F__law_due.kp T.bi__law_due .nil pass0 (pa_cons (pv 4) pa_nil)) (nomark _))))) (pss_one (ps_ret pe_bl)) pss_nil)
      (pss_one (ps_if (pt_cmpR (op_neW (room200 hr)) (pe_callB (call_reprA hsy hgd (room200 hr)) (by rfl) T.b_repr (by decide +kernel) (pa_cons (pe_call G__law_field (hr.mono (by first | decide | omega)) (by rfl) T.g__law_field T.F__law_field.kp T.bi__law_field .nil pass0 (pa_cons (pv 5) (pa_cons (pv 4) pa_nil))) pa_nil)) (pe_callB (call_reprA hsy hgd (room200 hr)) (by rfl) T.b_repr (by decide +kernel) (pa_cons (pv 3) pa_nil)) (nomark _)) (pss_one (ps_ret pe_bl)) pss_nil))))
      (pss_cons (ps_set (i := 6) sc_law.nd rfl (Or.inl rfl) (pe_call G__law_made (hr.mono (by first | decide | omega)) (by rfl) T.g__law_made T.F__law_made.kp T.bi__law_made .nil pass0 (pa_cons (pv 3) pa_nil)))
      (pss_cons (ps_if (pt_val (pe_callB call_isiU (by rfl) T.b_isinstance (by decide +kernel) (pa_cons (pv 3) (pa_cons (pe_bltn (by rfl) T.b_list (by decide +kernel) rfl) pa_nil)))) (pss_one (ps_expr (pe_bm PySem.F.plainAttrs_list PySem.F.slot_list_append PySem.F.type_list_append mt_append (pv 3) (pa_cons pe_str pa_nil)))) pss_nil)
      (pss_cons (ps_if (pt_val (pe_callB call_isiU (by rfl) T.b_isinstance (by decide +kernel) (pa_cons (pv 3) (pa_cons (pe_bltn (by rfl) T.b_dict (by decide +kernel) rfl) pa_nil)))) (pss_one (ps_dput (lt1 hr.units) (pv 3) pe_str pe_int (by rfl))) pss_nil)
      (pss_one (ps_if (pt_cmpR (op_neW (room200 hr)) (pe_lc (own := [("_law_at", 4), ("_law_error", 5)]) (g := (gTup K 2 (gCons (gName 4) (gCons (gName 5) gNil)))) (tt := (tTest (tOp (rNeW K) (tCB (rReprA K) (tCons (tCall (lift K sp__law_field) [] E0 (tCons (tVar 5) (tCons (tVar 4) tNil))) tNil)) (tCB (rReprA K) (tCons (tVar 3) tNil))))) rfl sc_law.nd (pi_enum (by rfl) T.b_enumerate (pa_cons (pv 6) pa_nil)) (blkOk_by (N := N_law) (sc := defScope s_law) (by decide +kernel)) (fun _ _ _ _ _ => (pg_tup rfl (pgs_cons (pg_name (i := 4) sc_law.nd rfl (Or.inl rfl)) (pgs_cons (pg_name (i := 5) sc_law.nd rfl (Or.inl rfl)) pgs_nil)))) (fun _ _ _ _ _ => (pts_one (pt_cmpR (op_neW (room200 hr)) (pe_callB (call_reprA hsy hgd (room200 hr)) (by rfl) T.b_repr (by decide +kernel) (pa_cons (pe_call G__law_field (hr.mono (by first | decide | omega)) (by rfl) T.g__law_field T.F__law_field.kp T.bi__law_field .nil pass0 (pa_cons (pv 5) (pa_cons (pv 4) pa_nil))) pa_nil)) (pe_callB (call_reprA hsy hgd (room200 hr)) (by rfl) T.b_repr (by decide +kernel) (pa_cons (pv 3) pa_nil)) (nomark _)))) (fun _ _ _ _ _ => (pv 4))) (pe_lstG pa_nil) (nomark _)) (pss_one (ps_ret pe_bl)) pss_nil)))))))))
      (pss_cons (ps_for PassesOwn.never rfl (pi_any (pe_lstG (pa_cons (pe_tupG (pa_cons pe_int (pa_cons (pe_mkN T.ox_NothingToUndo T.i_NothingToUndo___init__ T.ty_NothingToUndo___init__ G_NothingToUndo___init__ (hr.mono (by first | decide | omega)) T.bi_NothingToUndo___init__ pass0 (by rfl) T.g_NothingToUndo) pa_nil))) (pa_cons (pe_tupG (pa_cons pe_int (pa_cons (pe_mkN T.ox_NothingToRedo T.i_NothingToRedo___init__ T.ty_NothingToRedo___init__ G_NothingToRedo___init__ (hr.mono (by first | decide | omega)) T.bi_NothingToRedo___init__ pass0 (by rfl) T.g_NothingToRedo) pa_nil))) pa_nil)))) (pg_tup rfl (pgs_cons (pg_name (i := 4) sc_law.nd rfl (Or.inl rfl)) (pgs_cons (pg_name (i := 5) sc_law.nd rfl (Or.inl rfl)) pgs_nil))) (pss_one (ps_if (PW.pt (pw_or (pt_cmpR (op_neW (room200 hr)) (pe_call G__law_kinds (hr.mono (by first | decide | omega)) (by rfl) T.g__law_kinds T.F__law_kinds.kp T.bi__law_kinds .nil pass0 (pa_cons (pv 5) pa_nil)) (pe_lstG (pa_cons (pv 4) pa_nil)) (nomark _)) (pw_or1 (pt_cmpR (op_neW (room200 hr)) (pe_call G__law_bases (hr.mono (by first | decide | omega)) (by rfl) T.g__law_bases T.F__law_bases.kp T.bi__law_bases .nil pass0 (pa_cons (pv 5) pa_nil)) (pe_call G__law_due (hr.mono (by first | decide | omega)) (by rfl) T.g__law_due T.F__law_due.kp T.bi__law_due .nil pass0 (pa_cons (pv 4) pa_nil)) (nomark _))))) (pss_one (ps_ret pe_bl)) pss_nil)))
      (pss_cons (ps_for PassesOwn.never rfl (pi_enum (by rfl) T.b_enumerate (pa_cons (pe_lstG (pa_cons (pe_mk0 T.ox_CaughtError T.ini_CaughtError (hr.mono (by first | decide | omega)) (by rfl) T.g_CaughtError (pa_cons pe_str pa_nil)) (pa_cons (pe_mk0 T.ox_AbsentError T.ini_AbsentError (hr.mono (by first | decide | omega)) (by rfl) T.g_AbsentError (pa_cons pe_str pa_nil)) (pa_cons (pe_mk0 T.ox_StateError T.ini_StateError (hr.mono (by first | decide | omega)) (by rfl) T.g_StateError (pa_cons pe_str pa_nil)) pa_nil)))) pa_nil)) (pg_tup rfl (pgs_cons (pg_name (i := 4) sc_law.nd rfl (Or.inl rfl)) (pgs_cons (pg_name (i := 5) sc_law.nd rfl (Or.inl rfl)) pgs_nil))) (pss_one (ps_if (PW.pt (pw_or (pt_cmpR (op_neW (room200 hr)) (pe_call G__law_kinds (hr.mono (by first | decide | omega)) (by rfl) T.g__law_kinds T.F__law_kinds.kp T.bi__law_kinds .nil pass0 (pa_cons (pv 5) pa_nil)) (pe_lstG pa_nil) (nomark _)) (pw_or1 (pt_cmpR (op_neW (room200 hr)) (pe_call G__law_bases (hr.mono (by first | decide | omega)) (by rfl) T.g__law_bases T.F__law_bases.kp T.bi__law_bases .nil pass0 (pa_cons (pv 5) pa_nil)) (pe_call G__law_due (hr.mono (by first | decide | omega)) (by rfl) T.g__law_due T.F__law_due.kp T.bi__law_due .nil pass0 (pa_cons (pe_ix ix_seq (pe_lstG (pa_cons pe_int (pa_cons pe_int (pa_cons pe_int pa_nil)))) (pv 4) (fun _ _ => rfl)) pa_nil)) (nomark _))))) (pss_one (ps_ret pe_bl)) pss_nil)))
      (pss_one (ps_ret pe_bl)))))
end K03

set_option Elab.async false
set_option linter.all false
set_option maxRecDepth 100000
set_option maxHeartbeats 8000000
namespace K03
open PySem PySem.Spec PyProof.Rows L2 CN Evl
theorem txt_mk {K : PySem.W.Frag} {h : Heap} {mg : Str → Option Value} (X : K.In h) (G : h.Ns mainGlobals mg)
    {f1 : Addr} {od1 an1 : Option Addr} {sl1 : Array (Option Value)} {oc1 kV1 dc1 pm1 cd1 ct1 : Value}
    {f2 : Addr} {od2 an2 : Option Addr} {sl2 : Array (Option Value)} {oc2 kV2 dc2 pm2 cd2 ct2 : Value}
    {f3 : Addr} {od3 an3 : Option Addr} {sl3 : Array (Option Value)} {oc3 kV3 dc3 pm3 cd3 ct3 : Value}
    {f4 : Addr} {od4 an4 : Option Addr} {sl4 : Array (Option Value)} {oc4 kV4 dc4 pm4 cd4 ct4 : Value}
    {f5 : Addr} {od5 an5 : Option Addr} {sl5 : Array (Option Value)} {oc5 kV5 dc5 pm5 cd5 ct5 : Value}
    {f6 : Addr} {od6 an6 : Option Addr} {sl6 : Array (Option Value)} {oc6 kV6 dc6 pm6 cd6 ct6 : Value}
    {f7 : Addr} {od7 an7 : Option Addr} {sl7 : Array (Option Value)} {oc7 kV7 dc7 pm7 cd7 ct7 : Value}
    {f8 : Addr} {od8 an8 : Option Addr} {sl8 : Array (Option Value)} {oc8 kV8 dc8 pm8 cd8 ct8 : Value}
    {f9 : Addr} {od9 an9 : Option Addr} {sl9 : Array (Option Value)} {oc9 kV9 dc9 pm9 cd9 ct9 : Value}
    {f10 : Addr} {od10 an10 : Option Addr} {sl10 : Array (Option Value)} {oc10 kV10 dc10 pm10 cd10 ct10 : Value}
    {f11 : Addr} {od11 an11 : Option Addr} {sl11 : Array (Option Value)} {oc11 kV11 dc11 pm11 cd11 ct11 : Value}
    {f12 : Addr} {od12 an12 : Option Addr} {sl12 : Array (Option Value)} {oc12 kV12 dc12 pm12 cd12 ct12 : Value}
    {f13 : Addr} {od13 an13 : Option Addr} {sl13 : Array (Option Value)} {oc13 kV13 dc13 pm13 cd13 ct13 : Value}
    {f14 : Addr} {od14 an14 : Option Addr} {sl14 : Array (Option Value)} {oc14 kV14 dc14 pm14 cd14 ct14 : Value}
    {f15 : Addr} {od15 an15 : Option Addr} {sl15 : Array (Option Value)} {oc15 kV15 dc15 pm15 cd15 ct15 : Value}
    {f16 : Addr} {od16 an16 : Option Addr} {sl16 : Array (Option Value)} {oc16 kV16 dc16 pm16 cd16 ct16 : Value}
    {f17 : Addr} {od17 an17 : Option Addr} {sl17 : Array (Option Value)} {oc17 kV17 dc17 pm17 cd17 ct17 : Value}
    {f18 : Addr} {od18 an18 : Option Addr} {sl18 : Array (Option Value)} {oc18 kV18 dc18 pm18 cd18 ct18 : Value}
    {f19 : Addr} {od19 an19 : Option Addr} {sl19 : Array (Option Value)} {oc19 kV19 dc19 pm19 cd19 ct19 : Value}
    {f20 : Addr} {od20 an20 : Option Addr} {sl20 : Array (Option Value)} {oc20 kV20 dc20 pm20 cd20 ct20 : Value}
    {f21 : Addr} {od21 an21 : Option Addr} {sl21 : Array (Option Value)} {oc21 kV21 dc21 pm21 cd21 ct21 : Value}
    {f22 : Addr} {od22 an22 : Option Addr} {sl22 : Array (Option Value)} {oc22 kV22 dc22 pm22 cd22 ct22 : Value}
    {f23 : Addr} {od23 an23 : Option Addr} {sl23 : Array (Option Value)} {oc23 kV23 dc23 pm23 cd23 ct23 : Value}
    {f24 : Addr} {od24 an24 : Option Addr} {sl24 : Array (Option Value)} {oc24 kV24 dc24 pm24 cd24 ct24 : Value}
    {f25 : Addr} {od25 an25 : Option Addr} {sl25 : Array (Option Value)} {oc25 kV25 dc25 pm25 cd25 ct25 : Value}
    {f26 : Addr} {od26 an26 : Option Addr} {sl26 : Array (Option Value)} {oc26 kV26 dc26 pm26 cd26 ct26 : Value}
    {f27 : Addr} {od27 an27 : Option Addr} {sl27 : Array (Option Value)} {oc27 kV27 dc27 pm27 cd27 ct27 : Value}
    {f28 : Addr} {od28 an28 : Option Addr} {sl28 : Array (Option Value)} {oc28 kV28 dc28 pm28 cd28 ct28 : Value}
    {f29 : Addr} {od29 an29 : Option Addr} {sl29 : Array (Option Value)} {oc29 kV29 dc29 pm29 cd29 ct29 : Value}
    {f30 : Addr} {od30 an30 : Option Addr} {sl30 : Array (Option Value)} {oc30 kV30 dc30 pm30 cd30 ct30 : Value}
    {f31 : Addr} {od31 an31 : Option Addr} {sl31 : Array (Option Value)} {oc31 kV31 dc31 pm31 cd31 ct31 : Value}
    {f32 : Addr} {od32 an32 : Option Addr} {sl32 : Array (Option Value)} {oc32 kV32 dc32 pm32 cd32 ct32 : Value}
    {f33 : Addr} {od33 an33 : Option Addr} {sl33 : Array (Option Value)} {oc33 kV33 dc33 pm33 cd33 ct33 : Value}
    {f34 : Addr} {od34 an34 : Option Addr} {sl34 : Array (Option Value)} {oc34 kV34 dc34 pm34 cd34 ct34 : Value}
    {f35 : Addr} {od35 an35 : Option Addr} {sl35 : Array (Option Value)} {oc35 kV35 dc35 pm35 cd35 ct35 : Value}
    {f36 : Addr} {od36 an36 : Option Addr} {sl36 : Array (Option Value)} {oc36 kV36 dc36 pm36 cd36 ct36 : Value}
    {f37 : Addr} {od37 an37 : Option Addr} {sl37 : Array (Option Value)} {oc37 kV37 dc37 pm37 cd37 ct37 : Value}
    {f38 : Addr} {od38 an38 : Option Addr} {sl38 : Array (Option Value)} {oc38 kV38 dc38 pm38 cd38 ct38 : Value}
    {f39 : Addr} {od39 an39 : Option Addr} {sl39 : Array (Option Value)} {oc39 kV39 dc39 pm39 cd39 ct39 : Value}
    {z_CaughtError : Addr}
    {nm_z_CaughtError q_z_CaughtError : Str} {N_z_CaughtError : Addr} {bs_z_CaughtError bm_z_CaughtError : List Value} {sn_z_CaughtError : List Str} {sub_z_CaughtError : List Value} {ab_z_CaughtError : Bool} {col_z_CaughtError : Option Bool} {dd_z_CaughtError : Option Addr} {k0_z_CaughtError k1_z_CaughtError k2_z_CaughtError k3_z_CaughtError k5_z_CaughtError : Option Value}
    {z_AbsentError : Addr}
    {nm_z_AbsentError q_z_AbsentError : Str} {N_z_AbsentError : Addr} {bs_z_AbsentError bm_z_AbsentError : List Value} {sn_z_AbsentError : List Str} {sub_z_AbsentError : List Value} {ab_z_AbsentError : Bool} {col_z_AbsentError : Option Bool} {dd_z_AbsentError : Option Addr} {k0_z_AbsentError k1_z_AbsentError k2_z_AbsentError k3_z_AbsentError k5_z_AbsentError : Option Value}
    {z_StateError : Addr}
    {nm_z_StateError q_z_StateError : Str} {N_z_StateError : Addr} {bs_z_StateError bm_z_StateError : List Value} {sn_z_StateError : List Str} {sub_z_StateError : List Value} {ab_z_StateError : Bool} {col_z_StateError : Option Bool} {dd_z_StateError : Option Addr} {k0_z_StateError k1_z_StateError k2_z_StateError k3_z_StateError k5_z_StateError : Option Value}
    {z_InvalidName : Addr}
    {nm_z_InvalidName q_z_InvalidName : Str} {N_z_InvalidName : Addr} {bs_z_InvalidName bm_z_InvalidName : List Value} {sn_z_InvalidName : List Str} {sub_z_InvalidName : List Value} {ab_z_InvalidName : Bool} {col_z_InvalidName : Option Bool} {dd_z_InvalidName : Option Addr} {k0_z_InvalidName k1_z_InvalidName k2_z_InvalidName k3_z_InvalidName k5_z_InvalidName : Option Value}
    {z_InvalidTerm : Addr}
    {nm_z_InvalidTerm q_z_InvalidTerm : Str} {N_z_InvalidTerm : Addr} {bs_z_InvalidTerm bm_z_InvalidTerm : List Value} {sn_z_InvalidTerm : List Str} {sub_z_InvalidTerm : List Value} {ab_z_InvalidTerm : Bool} {col_z_InvalidTerm : Option Bool} {dd_z_InvalidTerm : Option Addr} {k0_z_InvalidTerm k1_z_InvalidTerm k2_z_InvalidTerm k3_z_InvalidTerm k5_z_InvalidTerm : Option Value}
    {z_InvalidBody : Addr}
    {nm_z_InvalidBody q_z_InvalidBody : Str} {N_z_InvalidBody : Addr} {bs_z_InvalidBody bm_z_InvalidBody : List Value} {sn_z_InvalidBody : List Str} {sub_z_InvalidBody : List Value} {ab_z_InvalidBody : Bool} {col_z_InvalidBody : Option Bool} {dd_z_InvalidBody : Option Addr} {k0_z_InvalidBody k1_z_InvalidBody k2_z_InvalidBody k3_z_InvalidBody k5_z_InvalidBody : Option Value}
    {z_InvalidProgram : Addr}
    {nm_z_InvalidProgram q_z_InvalidProgram : Str} {N_z_InvalidProgram : Addr} {bs_z_InvalidProgram bm_z_InvalidProgram : List Value} {sn_z_InvalidProgram : List Str} {sub_z_InvalidProgram : List Value} {ab_z_InvalidProgram : Bool} {col_z_InvalidProgram : Option Bool} {dd_z_InvalidProgram : Option Addr} {k0_z_InvalidProgram k1_z_InvalidProgram k2_z_InvalidProgram k3_z_InvalidProgram k5_z_InvalidProgram : Option Value}
    {z_InvalidParameters : Addr}
    {nm_z_InvalidParameters q_z_InvalidParameters : Str} {N_z_InvalidParameters : Addr} {bs_z_InvalidParameters bm_z_InvalidParameters : List Value} {sn_z_InvalidParameters : List Str} {sub_z_InvalidParameters : List Value} {ab_z_InvalidParameters : Bool} {col_z_InvalidParameters : Option Bool} {dd_z_InvalidParameters : Option Addr} {k0_z_InvalidParameters k1_z_InvalidParameters k2_z_InvalidParameters k3_z_InvalidParameters k5_z_InvalidParameters : Option Value}
    {z_InvalidTemplate : Addr}
    {nm_z_InvalidTemplate q_z_InvalidTemplate : Str} {N_z_InvalidTemplate : Addr} {bs_z_InvalidTemplate bm_z_InvalidTemplate : List Value} {sn_z_InvalidTemplate : List Str} {sub_z_InvalidTemplate : List Value} {ab_z_InvalidTemplate : Bool} {col_z_InvalidTemplate : Option Bool} {dd_z_InvalidTemplate : Option Addr} {k0_z_InvalidTemplate k1_z_InvalidTemplate k2_z_InvalidTemplate k3_z_InvalidTemplate k5_z_InvalidTemplate : Option Value}
    {z_InvalidCall : Addr}
    {nm_z_InvalidCall q_z_InvalidCall : Str} {N_z_InvalidCall : Addr} {bs_z_InvalidCall bm_z_InvalidCall : List Value} {sn_z_InvalidCall : List Str} {sub_z_InvalidCall : List Value} {ab_z_InvalidCall : Bool} {col_z_InvalidCall : Option Bool} {dd_z_InvalidCall : Option Addr} {k0_z_InvalidCall k1_z_InvalidCall k2_z_InvalidCall k3_z_InvalidCall k5_z_InvalidCall : Option Value}
    {z_InvalidBook : Addr}
    {nm_z_InvalidBook q_z_InvalidBook : Str} {N_z_InvalidBook : Addr} {bs_z_InvalidBook bm_z_InvalidBook : List Value} {sn_z_InvalidBook : List Str} {sub_z_InvalidBook : List Value} {ab_z_InvalidBook : Bool} {col_z_InvalidBook : Option Bool} {dd_z_InvalidBook : Option Addr} {k0_z_InvalidBook k1_z_InvalidBook k2_z_InvalidBook k3_z_InvalidBook k5_z_InvalidBook : Option Value}
    {z_InvalidChoice : Addr}
    {nm_z_InvalidChoice q_z_InvalidChoice : Str} {N_z_InvalidChoice : Addr} {bs_z_InvalidChoice bm_z_InvalidChoice : List Value} {sn_z_InvalidChoice : List Str} {sub_z_InvalidChoice : List Value} {ab_z_InvalidChoice : Bool} {col_z_InvalidChoice : Option Bool} {dd_z_InvalidChoice : Option Addr} {k0_z_InvalidChoice k1_z_InvalidChoice k2_z_InvalidChoice k3_z_InvalidChoice k5_z_InvalidChoice : Option Value}
    {z_InvalidFillings : Addr}
    {nm_z_InvalidFillings q_z_InvalidFillings : Str} {N_z_InvalidFillings : Addr} {bs_z_InvalidFillings bm_z_InvalidFillings : List Value} {sn_z_InvalidFillings : List Str} {sub_z_InvalidFillings : List Value} {ab_z_InvalidFillings : Bool} {col_z_InvalidFillings : Option Bool} {dd_z_InvalidFillings : Option Addr} {k0_z_InvalidFillings k1_z_InvalidFillings k2_z_InvalidFillings k3_z_InvalidFillings k5_z_InvalidFillings : Option Value}
    {z_InvalidSite : Addr}
    {nm_z_InvalidSite q_z_InvalidSite : Str} {N_z_InvalidSite : Addr} {bs_z_InvalidSite bm_z_InvalidSite : List Value} {sn_z_InvalidSite : List Str} {sub_z_InvalidSite : List Value} {ab_z_InvalidSite : Bool} {col_z_InvalidSite : Option Bool} {dd_z_InvalidSite : Option Addr} {k0_z_InvalidSite k1_z_InvalidSite k2_z_InvalidSite k3_z_InvalidSite k5_z_InvalidSite : Option Value}
    {z_InvalidTables : Addr}
    {nm_z_InvalidTables q_z_InvalidTables : Str} {N_z_InvalidTables : Addr} {bs_z_InvalidTables bm_z_InvalidTables : List Value} {sn_z_InvalidTables : List Str} {sub_z_InvalidTables : List Value} {ab_z_InvalidTables : Bool} {col_z_InvalidTables : Option Bool} {dd_z_InvalidTables : Option Addr} {k0_z_InvalidTables k1_z_InvalidTables k2_z_InvalidTables k3_z_InvalidTables k5_z_InvalidTables : Option Value}
    {z_InvalidMeaning : Addr}
    {nm_z_InvalidMeaning q_z_InvalidMeaning : Str} {N_z_InvalidMeaning : Addr} {bs_z_InvalidMeaning bm_z_InvalidMeaning : List Value} {sn_z_InvalidMeaning : List Str} {sub_z_InvalidMeaning : List Value} {ab_z_InvalidMeaning : Bool} {col_z_InvalidMeaning : Option Bool} {dd_z_InvalidMeaning : Option Addr} {k0_z_InvalidMeaning k1_z_InvalidMeaning k2_z_InvalidMeaning k3_z_InvalidMeaning k5_z_InvalidMeaning : Option Value}
    {z_InvalidText : Addr}
    {nm_z_InvalidText q_z_InvalidText : Str} {N_z_InvalidText : Addr} {bs_z_InvalidText bm_z_InvalidText : List Value} {sn_z_InvalidText : List Str} {sub_z_InvalidText : List Value} {ab_z_InvalidText : Bool} {col_z_InvalidText : Option Bool} {dd_z_InvalidText : Option Addr} {k0_z_InvalidText k1_z_InvalidText k2_z_InvalidText k3_z_InvalidText k5_z_InvalidText : Option Value}
    {z_InvalidLine : Addr}
    {nm_z_InvalidLine q_z_InvalidLine : Str} {N_z_InvalidLine : Addr} {bs_z_InvalidLine bm_z_InvalidLine : List Value} {sn_z_InvalidLine : List Str} {sub_z_InvalidLine : List Value} {ab_z_InvalidLine : Bool} {col_z_InvalidLine : Option Bool} {dd_z_InvalidLine : Option Addr} {k0_z_InvalidLine k1_z_InvalidLine k2_z_InvalidLine k3_z_InvalidLine k5_z_InvalidLine : Option Value}
    {z_InvalidLines : Addr}
    {nm_z_InvalidLines q_z_InvalidLines : Str} {N_z_InvalidLines : Addr} {bs_z_InvalidLines bm_z_InvalidLines : List Value} {sn_z_InvalidLines : List Str} {sub_z_InvalidLines : List Value} {ab_z_InvalidLines : Bool} {col_z_InvalidLines : Option Bool} {dd_z_InvalidLines : Option Addr} {k0_z_InvalidLines k1_z_InvalidLines k2_z_InvalidLines k3_z_InvalidLines k5_z_InvalidLines : Option Value}
    {z_InvalidMode : Addr}
    {nm_z_InvalidMode q_z_InvalidMode : Str} {N_z_InvalidMode : Addr} {bs_z_InvalidMode bm_z_InvalidMode : List Value} {sn_z_InvalidMode : List Str} {sub_z_InvalidMode : List Value} {ab_z_InvalidMode : Bool} {col_z_InvalidMode : Option Bool} {dd_z_InvalidMode : Option Addr} {k0_z_InvalidMode k1_z_InvalidMode k2_z_InvalidMode k3_z_InvalidMode k5_z_InvalidMode : Option Value}
    {z_InvalidLetter : Addr}
    {nm_z_InvalidLetter q_z_InvalidLetter : Str} {N_z_InvalidLetter : Addr} {bs_z_InvalidLetter bm_z_InvalidLetter : List Value} {sn_z_InvalidLetter : List Str} {sub_z_InvalidLetter : List Value} {ab_z_InvalidLetter : Bool} {col_z_InvalidLetter : Option Bool} {dd_z_InvalidLetter : Option Addr} {k0_z_InvalidLetter k1_z_InvalidLetter k2_z_InvalidLetter k3_z_InvalidLetter k5_z_InvalidLetter : Option Value}
    {z_UnlikeParameters : Addr}
    {nm_z_UnlikeParameters q_z_UnlikeParameters : Str} {N_z_UnlikeParameters : Addr} {bs_z_UnlikeParameters bm_z_UnlikeParameters : List Value} {sn_z_UnlikeParameters : List Str} {sub_z_UnlikeParameters : List Value} {ab_z_UnlikeParameters : Bool} {col_z_UnlikeParameters : Option Bool} {dd_z_UnlikeParameters : Option Addr} {k0_z_UnlikeParameters k1_z_UnlikeParameters k2_z_UnlikeParameters k3_z_UnlikeParameters k5_z_UnlikeParameters : Option Value}
    {z_Duplicate : Addr}
    {nm_z_Duplicate q_z_Duplicate : Str} {N_z_Duplicate : Addr} {bs_z_Duplicate bm_z_Duplicate : List Value} {sn_z_Duplicate : List Str} {sub_z_Duplicate : List Value} {ab_z_Duplicate : Bool} {col_z_Duplicate : Option Bool} {dd_z_Duplicate : Option Addr} {k0_z_Duplicate k1_z_Duplicate k2_z_Duplicate k3_z_Duplicate k5_z_Duplicate : Option Value}
    {z_Reserved : Addr}
    {nm_z_Reserved q_z_Reserved : Str} {N_z_Reserved : Addr} {bs_z_Reserved bm_z_Reserved : List Value} {sn_z_Reserved : List Str} {sub_z_Reserved : List Value} {ab_z_Reserved : Bool} {col_z_Reserved : Option Bool} {dd_z_Reserved : Option Addr} {k0_z_Reserved k1_z_Reserved k2_z_Reserved k3_z_Reserved k5_z_Reserved : Option Value}
    {z_TooLarge : Addr}
    {nm_z_TooLarge q_z_TooLarge : Str} {N_z_TooLarge : Addr} {bs_z_TooLarge bm_z_TooLarge : List Value} {sn_z_TooLarge : List Str} {sub_z_TooLarge : List Value} {ab_z_TooLarge : Bool} {col_z_TooLarge : Option Bool} {dd_z_TooLarge : Option Addr} {k0_z_TooLarge k1_z_TooLarge k2_z_TooLarge k3_z_TooLarge k5_z_TooLarge : Option Value}
    {z_InvalidRow : Addr}
    {nm_z_InvalidRow q_z_InvalidRow : Str} {N_z_InvalidRow : Addr} {bs_z_InvalidRow bm_z_InvalidRow : List Value} {sn_z_InvalidRow : List Str} {sub_z_InvalidRow : List Value} {ab_z_InvalidRow : Bool} {col_z_InvalidRow : Option Bool} {dd_z_InvalidRow : Option Addr} {k0_z_InvalidRow k1_z_InvalidRow k2_z_InvalidRow k3_z_InvalidRow k5_z_InvalidRow : Option Value}
    {z_UnknownTemplate : Addr}
    {nm_z_UnknownTemplate q_z_UnknownTemplate : Str} {N_z_UnknownTemplate : Addr} {bs_z_UnknownTemplate bm_z_UnknownTemplate : List Value} {sn_z_UnknownTemplate : List Str} {sub_z_UnknownTemplate : List Value} {ab_z_UnknownTemplate : Bool} {col_z_UnknownTemplate : Option Bool} {dd_z_UnknownTemplate : Option Addr} {k0_z_UnknownTemplate k1_z_UnknownTemplate k2_z_UnknownTemplate k3_z_UnknownTemplate k5_z_UnknownTemplate : Option Value}
    {z_UnknownHole : Addr}
    {nm_z_UnknownHole q_z_UnknownHole : Str} {N_z_UnknownHole : Addr} {bs_z_UnknownHole bm_z_UnknownHole : List Value} {sn_z_UnknownHole : List Str} {sub_z_UnknownHole : List Value} {ab_z_UnknownHole : Bool} {col_z_UnknownHole : Option Bool} {dd_z_UnknownHole : Option Addr} {k0_z_UnknownHole k1_z_UnknownHole k2_z_UnknownHole k3_z_UnknownHole k5_z_UnknownHole : Option Value}
    {z_UnknownBinder : Addr}
    {nm_z_UnknownBinder q_z_UnknownBinder : Str} {N_z_UnknownBinder : Addr} {bs_z_UnknownBinder bm_z_UnknownBinder : List Value} {sn_z_UnknownBinder : List Str} {sub_z_UnknownBinder : List Value} {ab_z_UnknownBinder : Bool} {col_z_UnknownBinder : Option Bool} {dd_z_UnknownBinder : Option Addr} {k0_z_UnknownBinder k1_z_UnknownBinder k2_z_UnknownBinder k3_z_UnknownBinder k5_z_UnknownBinder : Option Value}
    {z_StillCalled : Addr}
    {nm_z_StillCalled q_z_StillCalled : Str} {N_z_StillCalled : Addr} {bs_z_StillCalled bm_z_StillCalled : List Value} {sn_z_StillCalled : List Str} {sub_z_StillCalled : List Value} {ab_z_StillCalled : Bool} {col_z_StillCalled : Option Bool} {dd_z_StillCalled : Option Addr} {k0_z_StillCalled k1_z_StillCalled k2_z_StillCalled k3_z_StillCalled k5_z_StillCalled : Option Value}
    {z_NothingToUndo : Addr}
    {nm_z_NothingToUndo q_z_NothingToUndo : Str} {N_z_NothingToUndo : Addr} {bs_z_NothingToUndo bm_z_NothingToUndo : List Value} {sn_z_NothingToUndo : List Str} {sub_z_NothingToUndo : List Value} {ab_z_NothingToUndo : Bool} {col_z_NothingToUndo : Option Bool} {dd_z_NothingToUndo : Option Addr} {k0_z_NothingToUndo k1_z_NothingToUndo k2_z_NothingToUndo k3_z_NothingToUndo k5_z_NothingToUndo : Option Value}
    {z_NothingToRedo : Addr}
    {nm_z_NothingToRedo q_z_NothingToRedo : Str} {N_z_NothingToRedo : Addr} {bs_z_NothingToRedo bm_z_NothingToRedo : List Value} {sn_z_NothingToRedo : List Str} {sub_z_NothingToRedo : List Value} {ab_z_NothingToRedo : Bool} {col_z_NothingToRedo : Option Bool} {dd_z_NothingToRedo : Option Addr} {k0_z_NothingToRedo k1_z_NothingToRedo k2_z_NothingToRedo k3_z_NothingToRedo k5_z_NothingToRedo : Option Value}
    (h_NothingToRedo : PySem.W.nsIn K mainGlobals "NothingToRedo" = some (some (.ref z_NothingToRedo)))
    (h_NothingToUndo : PySem.W.nsIn K mainGlobals "NothingToUndo" = some (some (.ref z_NothingToUndo)))
    (h_StillCalled : PySem.W.nsIn K mainGlobals "StillCalled" = some (some (.ref z_StillCalled)))
    (h_UnknownBinder : PySem.W.nsIn K mainGlobals "UnknownBinder" = some (some (.ref z_UnknownBinder)))
    (h_UnknownHole : PySem.W.nsIn K mainGlobals "UnknownHole" = some (some (.ref z_UnknownHole)))
    (h_UnknownTemplate : PySem.W.nsIn K mainGlobals "UnknownTemplate" = some (some (.ref z_UnknownTemplate)))
    (h_InvalidRow : PySem.W.nsIn K mainGlobals "InvalidRow" = some (some (.ref z_InvalidRow)))
    (h_TooLarge : PySem.W.nsIn K mainGlobals "TooLarge" = some (some (.ref z_TooLarge)))
    (h_Reserved : PySem.W.nsIn K mainGlobals "Reserved" = some (some (.ref z_Reserved)))
    (h_Duplicate : PySem.W.nsIn K mainGlobals "Duplicate" = some (some (.ref z_Duplicate)))
    (h_UnlikeParameters : PySem.W.nsIn K mainGlobals "UnlikeParameters" = some (some (.ref z_UnlikeParameters)))
    (h_InvalidLetter : PySem.W.nsIn K mainGlobals "InvalidLetter" = some (some (.ref z_InvalidLetter)))
    (h_InvalidMode : PySem.W.nsIn K mainGlobals "InvalidMode" = some (some (.ref z_InvalidMode)))
    (h_InvalidLines : PySem.W.nsIn K mainGlobals "InvalidLines" = some (some (.ref z_InvalidLines)))
    (h_InvalidLine : PySem.W.nsIn K mainGlobals "InvalidLine" = some (some (.ref z_InvalidLine)))
    (h_InvalidText : PySem.W.nsIn K mainGlobals "InvalidText" = some (some (.ref z_InvalidText)))
    (h_InvalidMeaning : PySem.W.nsIn K mainGlobals "InvalidMeaning" = some (some (.ref z_InvalidMeaning)))
    (h_InvalidTables : PySem.W.nsIn K mainGlobals "InvalidTables" = some (some (.ref z_InvalidTables)))
    (h_InvalidSite : PySem.W.nsIn K mainGlobals "InvalidSite" = some (some (.ref z_InvalidSite)))
    (h_InvalidFillings : PySem.W.nsIn K mainGlobals "InvalidFillings" = some (some (.ref z_InvalidFillings)))
    (h_InvalidChoice : PySem.W.nsIn K mainGlobals "InvalidChoice" = some (some (.ref z_InvalidChoice)))
    (h_InvalidBook : PySem.W.nsIn K mainGlobals "InvalidBook" = some (some (.ref z_InvalidBook)))
    (h_InvalidCall : PySem.W.nsIn K mainGlobals "InvalidCall" = some (some (.ref z_InvalidCall)))
    (h_InvalidTemplate : PySem.W.nsIn K mainGlobals "InvalidTemplate" = some (some (.ref z_InvalidTemplate)))
    (h_InvalidParameters : PySem.W.nsIn K mainGlobals "InvalidParameters" = some (some (.ref z_InvalidParameters)))
    (h_InvalidProgram : PySem.W.nsIn K mainGlobals "InvalidProgram" = some (some (.ref z_InvalidProgram)))
    (h_InvalidBody : PySem.W.nsIn K mainGlobals "InvalidBody" = some (some (.ref z_InvalidBody)))
    (h_InvalidTerm : PySem.W.nsIn K mainGlobals "InvalidTerm" = some (some (.ref z_InvalidTerm)))
    (h_InvalidName : PySem.W.nsIn K mainGlobals "InvalidName" = some (some (.ref z_InvalidName)))
    (h_StateError : PySem.W.nsIn K mainGlobals "StateError" = some (some (.ref z_StateError)))
    (h_AbsentError : PySem.W.nsIn K mainGlobals "AbsentError" = some (some (.ref z_AbsentError)))
    (h_CaughtError : PySem.W.nsIn K mainGlobals "CaughtError" = some (some (.ref z_CaughtError)))
    (a1 : PySem.W.findIn K (.ref z_InvalidName) "__init__" = some (some (.ref f1)))
    (ty1 : PySem.W.typeIn K (.ref f1) = some (.type "function"))
    (l1 : K.lookup f1 = some ⟨oc1, od1, .func (PySem.W.fnOf "__init__" "InvalidName.__init__" (defArgs s_InvalidName___init__) (defBody s_InvalidName___init__) (defScope s_InvalidName___init__) .none kV1 dc1 pm1 an1 cd1 ct1), sl1⟩)
    (c1 : PySem.W.codeIn K cd1 "InvalidName.__init__" = true)
    (k1 : PySem.W.keepIn K (.ref f1) = true)
    (a2 : PySem.W.findIn K (.ref z_InvalidTerm) "__init__" = some (some (.ref f2)))
    (ty2 : PySem.W.typeIn K (.ref f2) = some (.type "function"))
    (l2 : K.lookup f2 = some ⟨oc2, od2, .func (PySem.W.fnOf "__init__" "InvalidTerm.__init__" (defArgs s_InvalidTerm___init__) (defBody s_InvalidTerm___init__) (defScope s_InvalidTerm___init__) .none kV2 dc2 pm2 an2 cd2 ct2), sl2⟩)
    (c2 : PySem.W.codeIn K cd2 "InvalidTerm.__init__" = true)
    (k2 : PySem.W.keepIn K (.ref f2) = true)
    (a3 : PySem.W.findIn K (.ref z_InvalidBody) "__init__" = some (some (.ref f3)))
    (ty3 : PySem.W.typeIn K (.ref f3) = some (.type "function"))
    (l3 : K.lookup f3 = some ⟨oc3, od3, .func (PySem.W.fnOf "__init__" "InvalidBody.__init__" (defArgs s_InvalidBody___init__) (defBody s_InvalidBody___init__) (defScope s_InvalidBody___init__) .none kV3 dc3 pm3 an3 cd3 ct3), sl3⟩)
    (c3 : PySem.W.codeIn K cd3 "InvalidBody.__init__" = true)
    (k3 : PySem.W.keepIn K (.ref f3) = true)
    (a4 : PySem.W.findIn K (.ref z_InvalidProgram) "__init__" = some (some (.ref f4)))
    (ty4 : PySem.W.typeIn K (.ref f4) = some (.type "function"))
    (l4 : K.lookup f4 = some ⟨oc4, od4, .func (PySem.W.fnOf "__init__" "InvalidProgram.__init__" (defArgs s_InvalidProgram___init__) (defBody s_InvalidProgram___init__) (defScope s_InvalidProgram___init__) .none kV4 dc4 pm4 an4 cd4 ct4), sl4⟩)
    (c4 : PySem.W.codeIn K cd4 "InvalidProgram.__init__" = true)
    (k4 : PySem.W.keepIn K (.ref f4) = true)
    (a5 : PySem.W.findIn K (.ref z_InvalidParameters) "__init__" = some (some (.ref f5)))
    (ty5 : PySem.W.typeIn K (.ref f5) = some (.type "function"))
    (l5 : K.lookup f5 = some ⟨oc5, od5, .func (PySem.W.fnOf "__init__" "InvalidParameters.__init__" (defArgs s_InvalidParameters___init__) (defBody s_InvalidParameters___init__) (defScope s_InvalidParameters___init__) .none kV5 dc5 pm5 an5 cd5 ct5), sl5⟩)
    (c5 : PySem.W.codeIn K cd5 "InvalidParameters.__init__" = true)
    (k5 : PySem.W.keepIn K (.ref f5) = true)
    (a6 : PySem.W.findIn K (.ref z_InvalidTemplate) "__init__" = some (some (.ref f6)))
    (ty6 : PySem.W.typeIn K (.ref f6) = some (.type "function"))
    (l6 : K.lookup f6 = some ⟨oc6, od6, .func (PySem.W.fnOf "__init__" "InvalidTemplate.__init__" (defArgs s_InvalidTemplate___init__) (defBody s_InvalidTemplate___init__) (defScope s_InvalidTemplate___init__) .none kV6 dc6 pm6 an6 cd6 ct6), sl6⟩)
    (c6 : PySem.W.codeIn K cd6 "InvalidTemplate.__init__" = true)
    (k6 : PySem.W.keepIn K (.ref f6) = true)
    (a7 : PySem.W.findIn K (.ref z_InvalidCall) "__init__" = some (some (.ref f7)))
    (ty7 : PySem.W.typeIn K (.ref f7) = some (.type "function"))
    (l7 : K.lookup f7 = some ⟨oc7, od7, .func (PySem.W.fnOf "__init__" "InvalidCall.__init__" (defArgs s_InvalidCall___init__) (defBody s_InvalidCall___init__) (defScope s_InvalidCall___init__) .none kV7 dc7 pm7 an7 cd7 ct7), sl7⟩)
    (c7 : PySem.W.codeIn K cd7 "InvalidCall.__init__" = true)
    (k7 : PySem.W.keepIn K (.ref f7) = true)
    (a8 : PySem.W.findIn K (.ref z_InvalidBook) "__init__" = some (some (.ref f8)))
    (ty8 : PySem.W.typeIn K (.ref f8) = some (.type "function"))
    (l8 : K.lookup f8 = some ⟨oc8, od8, .func (PySem.W.fnOf "__init__" "InvalidBook.__init__" (defArgs s_InvalidBook___init__) (defBody s_InvalidBook___init__) (defScope s_InvalidBook___init__) .none kV8 dc8 pm8 an8 cd8 ct8), sl8⟩)
    (c8 : PySem.W.codeIn K cd8 "InvalidBook.__init__" = true)
    (k8 : PySem.W.keepIn K (.ref f8) = true)
    (a9 : PySem.W.findIn K (.ref z_InvalidChoice) "__init__" = some (some (.ref f9)))
    (ty9 : PySem.W.typeIn K (.ref f9) = some (.type "function"))
    (l9 : K.lookup f9 = some ⟨oc9, od9, .func (PySem.W.fnOf "__init__" "InvalidChoice.__init__" (defArgs s_InvalidChoice___init__) (defBody s_InvalidChoice___init__) (defScope s_InvalidChoice___init__) .none kV9 dc9 pm9 an9 cd9 ct9), sl9⟩)
    (c9 : PySem.W.codeIn K cd9 "InvalidChoice.__init__" = true)
    (k9 : PySem.W.keepIn K (.ref f9) = true)
    (a10 : PySem.W.findIn K (.ref z_InvalidFillings) "__init__" = some (some (.ref f10)))
    (ty10 : PySem.W.typeIn K (.ref f10) = some (.type "function"))
    (l10 : K.lookup f10 = some ⟨oc10, od10, .func (PySem.W.fnOf "__init__" "InvalidFillings.__init__" (defArgs s_InvalidFillings___init__) (defBody s_InvalidFillings___init__) (defScope s_InvalidFillings___init__) .none kV10 dc10 pm10 an10 cd10 ct10), sl10⟩)
    (c10 : PySem.W.codeIn K cd10 "InvalidFillings.__init__" = true)
    (k10 : PySem.W.keepIn K (.ref f10) = true)
    (a11 : PySem.W.findIn K (.ref z_InvalidSite) "__init__" = some (some (.ref f11)))
    (ty11 : PySem.W.typeIn K (.ref f11) = some (.type "function"))
    (l11 : K.lookup f11 = some ⟨oc11, od11, .func (PySem.W.fnOf "__init__" "InvalidSite.__init__" (defArgs s_InvalidSite___init__) (defBody s_InvalidSite___init__) (defScope s_InvalidSite___init__) .none kV11 dc11 pm11 an11 cd11 ct11), sl11⟩)
    (c11 : PySem.W.codeIn K cd11 "InvalidSite.__init__" = true)
    (k11 : PySem.W.keepIn K (.ref f11) = true)
    (a12 : PySem.W.findIn K (.ref z_InvalidTables) "__init__" = some (some (.ref f12)))
    (ty12 : PySem.W.typeIn K (.ref f12) = some (.type "function"))
    (l12 : K.lookup f12 = some ⟨oc12, od12, .func (PySem.W.fnOf "__init__" "InvalidTables.__init__" (defArgs s_InvalidTables___init__) (defBody s_InvalidTables___init__) (defScope s_InvalidTables___init__) .none kV12 dc12 pm12 an12 cd12 ct12), sl12⟩)
    (c12 : PySem.W.codeIn K cd12 "InvalidTables.__init__" = true)
    (k12 : PySem.W.keepIn K (.ref f12) = true)
    (a13 : PySem.W.findIn K (.ref z_InvalidMeaning) "__init__" = some (some (.ref f13)))
    (ty13 : PySem.W.typeIn K (.ref f13) = some (.type "function"))
    (l13 : K.lookup f13 = some ⟨oc13, od13, .func (PySem.W.fnOf "__init__" "InvalidMeaning.__init__" (defArgs s_InvalidMeaning___init__) (defBody s_InvalidMeaning___init__) (defScope s_InvalidMeaning___init__) .none kV13 dc13 pm13 an13 cd13 ct13), sl13⟩)
    (c13 : PySem.W.codeIn K cd13 "InvalidMeaning.__init__" = true)
    (k13 : PySem.W.keepIn K (.ref f13) = true)
    (a14 : PySem.W.findIn K (.ref z_InvalidText) "__init__" = some (some (.ref f14)))
    (ty14 : PySem.W.typeIn K (.ref f14) = some (.type "function"))
    (l14 : K.lookup f14 = some ⟨oc14, od14, .func (PySem.W.fnOf "__init__" "InvalidText.__init__" (defArgs s_InvalidText___init__) (defBody s_InvalidText___init__) (defScope s_InvalidText___init__) .none kV14 dc14 pm14 an14 cd14 ct14), sl14⟩)
    (c14 : PySem.W.codeIn K cd14 "InvalidText.__init__" = true)
    (k14 : PySem.W.keepIn K (.ref f14) = true)
    (a15 : PySem.W.findIn K (.ref z_InvalidLine) "__init__" = some (some (.ref f15)))
    (ty15 : PySem.W.typeIn K (.ref f15) = some (.type "function"))
    (l15 : K.lookup f15 = some ⟨oc15, od15, .func (PySem.W.fnOf "__init__" "InvalidLine.__init__" (defArgs s_InvalidLine___init__) (defBody s_InvalidLine___init__) (defScope s_InvalidLine___init__) .none kV15 dc15 pm15 an15 cd15 ct15), sl15⟩)
    (c15 : PySem.W.codeIn K cd15 "InvalidLine.__init__" = true)
    (k15 : PySem.W.keepIn K (.ref f15) = true)
    (a16 : PySem.W.findIn K (.ref z_InvalidLines) "__init__" = some (some (.ref f16)))
    (ty16 : PySem.W.typeIn K (.ref f16) = some (.type "function"))
    (l16 : K.lookup f16 = some ⟨oc16, od16, .func (PySem.W.fnOf "__init__" "InvalidLines.__init__" (defArgs s_InvalidLines___init__) (defBody s_InvalidLines___init__) (defScope s_InvalidLines___init__) .none kV16 dc16 pm16 an16 cd16 ct16), sl16⟩)
    (c16 : PySem.W.codeIn K cd16 "InvalidLines.__init__" = true)
    (k16 : PySem.W.keepIn K (.ref f16) = true)
    (a17 : PySem.W.findIn K (.ref z_InvalidMode) "__init__" = some (some (.ref f17)))
    (ty17 : PySem.W.typeIn K (.ref f17) = some (.type "function"))
    (l17 : K.lookup f17 = some ⟨oc17, od17, .func (PySem.W.fnOf "__init__" "InvalidMode.__init__" (defArgs s_InvalidMode___init__) (defBody s_InvalidMode___init__) (defScope s_InvalidMode___init__) .none kV17 dc17 pm17 an17 cd17 ct17), sl17⟩)
    (c17 : PySem.W.codeIn K cd17 "InvalidMode.__init__" = true)
    (k17 : PySem.W.keepIn K (.ref f17) = true)
    (a18 : PySem.W.findIn K (.ref z_InvalidLetter) "__init__" = some (some (.ref f18)))
    (ty18 : PySem.W.typeIn K (.ref f18) = some (.type "function"))
    (l18 : K.lookup f18 = some ⟨oc18, od18, .func (PySem.W.fnOf "__init__" "InvalidLetter.__init__" (defArgs s_InvalidLetter___init__) (defBody s_InvalidLetter___init__) (defScope s_InvalidLetter___init__) .none kV18 dc18 pm18 an18 cd18 ct18), sl18⟩)
    (c18 : PySem.W.codeIn K cd18 "InvalidLetter.__init__" = true)
    (k18 : PySem.W.keepIn K (.ref f18) = true)
    (a19 : PySem.W.findIn K (.ref z_UnlikeParameters) "__init__" = some (some (.ref f19)))
    (ty19 : PySem.W.typeIn K (.ref f19) = some (.type "function"))
    (l19 : K.lookup f19 = some ⟨oc19, od19, .func (PySem.W.fnOf "__init__" "UnlikeParameters.__init__" (defArgs s_UnlikeParameters___init__) (defBody s_UnlikeParameters___init__) (defScope s_UnlikeParameters___init__) .none kV19 dc19 pm19 an19 cd19 ct19), sl19⟩)
    (c19 : PySem.W.codeIn K cd19 "UnlikeParameters.__init__" = true)
    (k19 : PySem.W.keepIn K (.ref f19) = true)
    (a20 : PySem.W.findIn K (.ref z_Duplicate) "__init__" = some (some (.ref f20)))
    (ty20 : PySem.W.typeIn K (.ref f20) = some (.type "function"))
    (l20 : K.lookup f20 = some ⟨oc20, od20, .func (PySem.W.fnOf "__init__" "Duplicate.__init__" (defArgs s_Duplicate___init__) (defBody s_Duplicate___init__) (defScope s_Duplicate___init__) .none kV20 dc20 pm20 an20 cd20 ct20), sl20⟩)
    (c20 : PySem.W.codeIn K cd20 "Duplicate.__init__" = true)
    (k20 : PySem.W.keepIn K (.ref f20) = true)
    (a21 : PySem.W.findIn K (.ref z_Reserved) "__init__" = some (some (.ref f21)))
    (ty21 : PySem.W.typeIn K (.ref f21) = some (.type "function"))
    (l21 : K.lookup f21 = some ⟨oc21, od21, .func (PySem.W.fnOf "__init__" "Reserved.__init__" (defArgs s_Reserved___init__) (defBody s_Reserved___init__) (defScope s_Reserved___init__) .none kV21 dc21 pm21 an21 cd21 ct21), sl21⟩)
    (c21 : PySem.W.codeIn K cd21 "Reserved.__init__" = true)
    (k21 : PySem.W.keepIn K (.ref f21) = true)
    (a22 : PySem.W.findIn K (.ref z_TooLarge) "__init__" = some (some (.ref f22)))
    (ty22 : PySem.W.typeIn K (.ref f22) = some (.type "function"))
    (l22 : K.lookup f22 = some ⟨oc22, od22, .func (PySem.W.fnOf "__init__" "TooLarge.__init__" (defArgs s_TooLarge___init__) (defBody s_TooLarge___init__) (defScope s_TooLarge___init__) .none kV22 dc22 pm22 an22 cd22 ct22), sl22⟩)
    (c22 : PySem.W.codeIn K cd22 "TooLarge.__init__" = true)
    (k22 : PySem.W.keepIn K (.ref f22) = true)
    (a23 : PySem.W.findIn K (.ref z_InvalidRow) "__init__" = some (some (.ref f23)))
    (ty23 : PySem.W.typeIn K (.ref f23) = some (.type "function"))
    (l23 : K.lookup f23 = some ⟨oc23, od23, .func (PySem.W.fnOf "__init__" "InvalidRow.__init__" (defArgs s_InvalidRow___init__) (defBody s_InvalidRow___init__) (defScope s_InvalidRow___init__) .none kV23 dc23 pm23 an23 cd23 ct23), sl23⟩)
    (c23 : PySem.W.codeIn K cd23 "InvalidRow.__init__" = true)
    (k23 : PySem.W.keepIn K (.ref f23) = true)
    (a24 : PySem.W.findIn K (.ref z_UnknownTemplate) "__init__" = some (some (.ref f24)))
    (ty24 : PySem.W.typeIn K (.ref f24) = some (.type "function"))
    (l24 : K.lookup f24 = some ⟨oc24, od24, .func (PySem.W.fnOf "__init__" "UnknownTemplate.__init__" (defArgs s_UnknownTemplate___init__) (defBody s_UnknownTemplate___init__) (defScope s_UnknownTemplate___init__) .none kV24 dc24 pm24 an24 cd24 ct24), sl24⟩)
    (c24 : PySem.W.codeIn K cd24 "UnknownTemplate.__init__" = true)
    (k24 : PySem.W.keepIn K (.ref f24) = true)
    (a25 : PySem.W.findIn K (.ref z_UnknownHole) "__init__" = some (some (.ref f25)))
    (ty25 : PySem.W.typeIn K (.ref f25) = some (.type "function"))
    (l25 : K.lookup f25 = some ⟨oc25, od25, .func (PySem.W.fnOf "__init__" "UnknownHole.__init__" (defArgs s_UnknownHole___init__) (defBody s_UnknownHole___init__) (defScope s_UnknownHole___init__) .none kV25 dc25 pm25 an25 cd25 ct25), sl25⟩)
    (c25 : PySem.W.codeIn K cd25 "UnknownHole.__init__" = true)
    (k25 : PySem.W.keepIn K (.ref f25) = true)
    (a26 : PySem.W.findIn K (.ref z_UnknownBinder) "__init__" = some (some (.ref f26)))
    (ty26 : PySem.W.typeIn K (.ref f26) = some (.type "function"))
    (l26 : K.lookup f26 = some ⟨oc26, od26, .func (PySem.W.fnOf "__init__" "UnknownBinder.__init__" (defArgs s_UnknownBinder___init__) (defBody s_UnknownBinder___init__) (defScope s_UnknownBinder___init__) .none kV26 dc26 pm26 an26 cd26 ct26), sl26⟩)
    (c26 : PySem.W.codeIn K cd26 "UnknownBinder.__init__" = true)
    (k26 : PySem.W.keepIn K (.ref f26) = true)
    (a27 : PySem.W.findIn K (.ref z_StillCalled) "__init__" = some (some (.ref f27)))
    (ty27 : PySem.W.typeIn K (.ref f27) = some (.type "function"))
    (l27 : K.lookup f27 = some ⟨oc27, od27, .func (PySem.W.fnOf "__init__" "StillCalled.__init__" (defArgs s_StillCalled___init__) (defBody s_StillCalled___init__) (defScope s_StillCalled___init__) .none kV27 dc27 pm27 an27 cd27 ct27), sl27⟩)
    (c27 : PySem.W.codeIn K cd27 "StillCalled.__init__" = true)
    (k27 : PySem.W.keepIn K (.ref f27) = true)
    (a28 : PySem.W.findIn K (.ref z_NothingToUndo) "__init__" = some (some (.ref f28)))
    (ty28 : PySem.W.typeIn K (.ref f28) = some (.type "function"))
    (l28 : K.lookup f28 = some ⟨oc28, od28, .func (PySem.W.fnOf "__init__" "NothingToUndo.__init__" (defArgs s_NothingToUndo___init__) (defBody s_NothingToUndo___init__) (defScope s_NothingToUndo___init__) .none kV28 dc28 pm28 an28 cd28 ct28), sl28⟩)
    (c28 : PySem.W.codeIn K cd28 "NothingToUndo.__init__" = true)
    (k28 : PySem.W.keepIn K (.ref f28) = true)
    (a29 : PySem.W.findIn K (.ref z_NothingToRedo) "__init__" = some (some (.ref f29)))
    (ty29 : PySem.W.typeIn K (.ref f29) = some (.type "function"))
    (l29 : K.lookup f29 = some ⟨oc29, od29, .func (PySem.W.fnOf "__init__" "NothingToRedo.__init__" (defArgs s_NothingToRedo___init__) (defBody s_NothingToRedo___init__) (defScope s_NothingToRedo___init__) .none kV29 dc29 pm29 an29 cd29 ct29), sl29⟩)
    (c29 : PySem.W.codeIn K cd29 "NothingToRedo.__init__" = true)
    (k29 : PySem.W.keepIn K (.ref f29) = true)
    (a30 : PySem.W.nsIn K mainGlobals "_law_cell" = some (some (.ref f30)))
    (l30 : K.lookup f30 = some ⟨oc30, od30, .func (PySem.W.fnOf "_law_cell" "_law_cell" (defArgs s__law_cell) (defBody s__law_cell) (defScope s__law_cell) .none kV30 dc30 pm30 an30 cd30 ct30), sl30⟩)
    (c30 : PySem.W.codeIn K cd30 "_law_cell" = true)
    (k30 : PySem.W.keepIn K (.ref f30) = true)
    (a31 : PySem.W.nsIn K mainGlobals "_law_box" = some (some (.ref f31)))
    (l31 : K.lookup f31 = some ⟨oc31, od31, .func (PySem.W.fnOf "_law_box" "_law_box" (defArgs s__law_box) (defBody s__law_box) (defScope s__law_box) .none kV31 dc31 pm31 an31 cd31 ct31), sl31⟩)
    (c31 : PySem.W.codeIn K cd31 "_law_box" = true)
    (k31 : PySem.W.keepIn K (.ref f31) = true)
    (a32 : PySem.W.nsIn K mainGlobals "_law_take" = some (some (.ref f32)))
    (l32 : K.lookup f32 = some ⟨oc32, od32, .func (PySem.W.fnOf "_law_take" "_law_take" (defArgs s__law_take) (defBody s__law_take) (defScope s__law_take) .none kV32 dc32 pm32 an32 cd32 ct32), sl32⟩)
    (c32 : PySem.W.codeIn K cd32 "_law_take" = true)
    (k32 : PySem.W.keepIn K (.ref f32) = true)
    (a33 : PySem.W.nsIn K mainGlobals "_law_value" = some (some (.ref f33)))
    (l33 : K.lookup f33 = some ⟨oc33, od33, .func (PySem.W.fnOf "_law_value" "_law_value" (defArgs s__law_value) (defBody s__law_value) (defScope s__law_value) .none kV33 dc33 pm33 an33 cd33 ct33), sl33⟩)
    (c33 : PySem.W.codeIn K cd33 "_law_value" = true)
    (k33 : PySem.W.keepIn K (.ref f33) = true)
    (a34 : PySem.W.nsIn K mainGlobals "_law_made" = some (some (.ref f34)))
    (l34 : K.lookup f34 = some ⟨oc34, od34, .func (PySem.W.fnOf "_law_made" "_law_made" (defArgs s__law_made) (defBody s__law_made) (defScope s__law_made) .none kV34 dc34 pm34 an34 cd34 ct34), sl34⟩)
    (c34 : PySem.W.codeIn K cd34 "_law_made" = true)
    (k34 : PySem.W.keepIn K (.ref f34) = true)
    (a35 : PySem.W.nsIn K mainGlobals "_law_field" = some (some (.ref f35)))
    (l35 : K.lookup f35 = some ⟨oc35, od35, .func (PySem.W.fnOf "_law_field" "_law_field" (defArgs s__law_field) (defBody s__law_field) (defScope s__law_field) .none kV35 dc35 pm35 an35 cd35 ct35), sl35⟩)
    (c35 : PySem.W.codeIn K cd35 "_law_field" = true)
    (k35 : PySem.W.keepIn K (.ref f35) = true)
    (a36 : PySem.W.nsIn K mainGlobals "_law_kinds" = some (some (.ref f36)))
    (l36 : K.lookup f36 = some ⟨oc36, od36, .func (PySem.W.fnOf "_law_kinds" "_law_kinds" (defArgs s__law_kinds) (defBody s__law_kinds) (defScope s__law_kinds) .none kV36 dc36 pm36 an36 cd36 ct36), sl36⟩)
    (c36 : PySem.W.codeIn K cd36 "_law_kinds" = true)
    (k36 : PySem.W.keepIn K (.ref f36) = true)
    (a37 : PySem.W.nsIn K mainGlobals "_law_bases" = some (some (.ref f37)))
    (l37 : K.lookup f37 = some ⟨oc37, od37, .func (PySem.W.fnOf "_law_bases" "_law_bases" (defArgs s__law_bases) (defBody s__law_bases) (defScope s__law_bases) .none kV37 dc37 pm37 an37 cd37 ct37), sl37⟩)
    (c37 : PySem.W.codeIn K cd37 "_law_bases" = true)
    (k37 : PySem.W.keepIn K (.ref f37) = true)
    (a38 : PySem.W.nsIn K mainGlobals "_law_due" = some (some (.ref f38)))
    (l38 : K.lookup f38 = some ⟨oc38, od38, .func (PySem.W.fnOf "_law_due" "_law_due" (defArgs s__law_due) (defBody s__law_due) (defScope s__law_due) .none kV38 dc38 pm38 an38 cd38 ct38), sl38⟩)
    (c38 : PySem.W.codeIn K cd38 "_law_due" = true)
    (k38 : PySem.W.keepIn K (.ref f38) = true)
    (a39 : PySem.W.nsIn K mainGlobals "law" = some (some (.ref f39)))
    (l39 : K.lookup f39 = some ⟨oc39, od39, .func (PySem.W.fnOf "law" "law" (defArgs s_law) (defBody s_law) (defScope s_law) .none kV39 dc39 pm39 an39 cd39 ct39), sl39⟩)
    (c39 : PySem.W.codeIn K cd39 "law" = true)
    (k39 : PySem.W.keepIn K (.ref f39) = true)
    (x_CaughtError_cls : K.lookup z_CaughtError = some (excClassObj nm_z_CaughtError q_z_CaughtError z_CaughtError N_z_CaughtError bs_z_CaughtError bm_z_CaughtError true sn_z_CaughtError sub_z_CaughtError ab_z_CaughtError col_z_CaughtError dd_z_CaughtError k0_z_CaughtError k1_z_CaughtError k2_z_CaughtError k3_z_CaughtError k5_z_CaughtError "ValueError.__new__"))
    (x_CaughtError_bm : ownB BK.ve.tail bm_z_CaughtError = true)
    (x_CaughtError_sa : PySem.W.findIn K (.ref z_CaughtError) "__setattr__" = some (some (.builtin "object.__setattr__")))
    (x_CaughtError_ga : PySem.W.findIn K (.ref z_CaughtError) "__getattribute__" = some (some (.builtin "BaseException.__getattribute__")))
    (x_CaughtError_gg : PySem.W.findIn K (.ref z_CaughtError) "__getattr__" = some none)
    (x_CaughtError_ex : PySem.W.subIn K (.ref z_CaughtError) (.type "BaseException") = some true)
    (x_CaughtError_ty : PySem.W.typeIn K (.ref z_CaughtError) = some (.type "type"))
    (x_CaughtError_kp : PySem.W.keepIn K (.ref z_CaughtError) = true)
    (x_CaughtError_hd : PySem.W.hasDictIn K z_CaughtError = true)
    (x_CaughtError_ca : PySem.W.findIn K (.ref z_CaughtError) "__class__" = some (some (.builtin "object.__class__")))
    (x_CaughtError_cg : PySem.W.specialIn K (.builtin "object.__class__") "__get__" = some (some (.builtin "getset_descriptor.__get__")))
    (x_CaughtError_ct : PySem.W.takesIn K (.builtin "object.__class__") = some true)
    (x_CaughtError_mo : PySem.W.mroIn K z_CaughtError (.type "object") = some true)
    (x_CaughtError_ini : PySem.W.findIn K (.ref z_CaughtError) "__init__" = some (some (.builtin "ValueError.__init__")))
    (y_CaughtError_bv : bm_z_CaughtError = BK.tail .ve)
    (x_CaughtError_sg : PySem.W.specialIn K (.ref z_CaughtError) "__getattribute__" = some (some (.builtin "type.__getattribute__")))
    (x_CaughtError_rd : PySem.W.readsIn K z_CaughtError (.type "type") = true)
    (x_CaughtError_fc : PySem.W.findCls K (.ref z_CaughtError) (.type "type") "__init__" = some (.val (.builtin "ValueError.__init__")))
    (x_AbsentError_cls : K.lookup z_AbsentError = some (excClassObj nm_z_AbsentError q_z_AbsentError z_AbsentError N_z_AbsentError bs_z_AbsentError bm_z_AbsentError true sn_z_AbsentError sub_z_AbsentError ab_z_AbsentError col_z_AbsentError dd_z_AbsentError k0_z_AbsentError k1_z_AbsentError k2_z_AbsentError k3_z_AbsentError k5_z_AbsentError "LookupError.__new__"))
    (x_AbsentError_bm : ownB BK.ke.tail bm_z_AbsentError = true)
    (x_AbsentError_sa : PySem.W.findIn K (.ref z_AbsentError) "__setattr__" = some (some (.builtin "object.__setattr__")))
    (x_AbsentError_ga : PySem.W.findIn K (.ref z_AbsentError) "__getattribute__" = some (some (.builtin "BaseException.__getattribute__")))
    (x_AbsentError_gg : PySem.W.findIn K (.ref z_AbsentError) "__getattr__" = some none)
    (x_AbsentError_ex : PySem.W.subIn K (.ref z_AbsentError) (.type "BaseException") = some true)
    (x_AbsentError_ty : PySem.W.typeIn K (.ref z_AbsentError) = some (.type "type"))
    (x_AbsentError_kp : PySem.W.keepIn K (.ref z_AbsentError) = true)
    (x_AbsentError_hd : PySem.W.hasDictIn K z_AbsentError = true)
    (x_AbsentError_ca : PySem.W.findIn K (.ref z_AbsentError) "__class__" = some (some (.builtin "object.__class__")))
    (x_AbsentError_cg : PySem.W.specialIn K (.builtin "object.__class__") "__get__" = some (some (.builtin "getset_descriptor.__get__")))
    (x_AbsentError_ct : PySem.W.takesIn K (.builtin "object.__class__") = some true)
    (x_AbsentError_mo : PySem.W.mroIn K z_AbsentError (.type "object") = some true)
    (x_AbsentError_ini : PySem.W.findIn K (.ref z_AbsentError) "__init__" = some (some (.builtin "KeyError.__init__")))
    (y_AbsentError_bv : bm_z_AbsentError = BK.tail .ke)
    (x_AbsentError_sg : PySem.W.specialIn K (.ref z_AbsentError) "__getattribute__" = some (some (.builtin "type.__getattribute__")))
    (x_AbsentError_rd : PySem.W.readsIn K z_AbsentError (.type "type") = true)
    (x_AbsentError_fc : PySem.W.findCls K (.ref z_AbsentError) (.type "type") "__init__" = some (.val (.builtin "KeyError.__init__")))
    (x_StateError_cls : K.lookup z_StateError = some (excClassObj nm_z_StateError q_z_StateError z_StateError N_z_StateError bs_z_StateError bm_z_StateError true sn_z_StateError sub_z_StateError ab_z_StateError col_z_StateError dd_z_StateError k0_z_StateError k1_z_StateError k2_z_StateError k3_z_StateError k5_z_StateError "LookupError.__new__"))
    (x_StateError_bm : ownB BK.le.tail bm_z_StateError = true)
    (x_StateError_sa : PySem.W.findIn K (.ref z_StateError) "__setattr__" = some (some (.builtin "object.__setattr__")))
    (x_StateError_ga : PySem.W.findIn K (.ref z_StateError) "__getattribute__" = some (some (.builtin "BaseException.__getattribute__")))
    (x_StateError_gg : PySem.W.findIn K (.ref z_StateError) "__getattr__" = some none)
    (x_StateError_ex : PySem.W.subIn K (.ref z_StateError) (.type "BaseException") = some true)
    (x_StateError_ty : PySem.W.typeIn K (.ref z_StateError) = some (.type "type"))
    (x_StateError_kp : PySem.W.keepIn K (.ref z_StateError) = true)
    (x_StateError_hd : PySem.W.hasDictIn K z_StateError = true)
    (x_StateError_ca : PySem.W.findIn K (.ref z_StateError) "__class__" = some (some (.builtin "object.__class__")))
    (x_StateError_cg : PySem.W.specialIn K (.builtin "object.__class__") "__get__" = some (some (.builtin "getset_descriptor.__get__")))
    (x_StateError_ct : PySem.W.takesIn K (.builtin "object.__class__") = some true)
    (x_StateError_mo : PySem.W.mroIn K z_StateError (.type "object") = some true)
    (x_StateError_ini : PySem.W.findIn K (.ref z_StateError) "__init__" = some (some (.builtin "LookupError.__init__")))
    (y_StateError_bv : bm_z_StateError = BK.tail .le)
    (x_StateError_sg : PySem.W.specialIn K (.ref z_StateError) "__getattribute__" = some (some (.builtin "type.__getattribute__")))
    (x_StateError_rd : PySem.W.readsIn K z_StateError (.type "type") = true)
    (x_StateError_fc : PySem.W.findCls K (.ref z_StateError) (.type "type") "__init__" = some (.val (.builtin "LookupError.__init__")))
    (y_InvalidName_bv : bm_z_InvalidName = Value.ref z_CaughtError :: BK.tail .ve)
    (x_InvalidName_cls : K.lookup z_InvalidName = some (excClassObj nm_z_InvalidName q_z_InvalidName z_InvalidName N_z_InvalidName bs_z_InvalidName bm_z_InvalidName true sn_z_InvalidName sub_z_InvalidName ab_z_InvalidName col_z_InvalidName dd_z_InvalidName k0_z_InvalidName k1_z_InvalidName k2_z_InvalidName k3_z_InvalidName k5_z_InvalidName "ValueError.__new__"))
    (x_InvalidName_bm : ownB BK.ve.tail bm_z_InvalidName = true)
    (x_InvalidName_sa : PySem.W.findIn K (.ref z_InvalidName) "__setattr__" = some (some (.builtin "object.__setattr__")))
    (x_InvalidName_ga : PySem.W.findIn K (.ref z_InvalidName) "__getattribute__" = some (some (.builtin "BaseException.__getattribute__")))
    (x_InvalidName_gg : PySem.W.findIn K (.ref z_InvalidName) "__getattr__" = some none)
    (x_InvalidName_ex : PySem.W.subIn K (.ref z_InvalidName) (.type "BaseException") = some true)
    (x_InvalidName_ty : PySem.W.typeIn K (.ref z_InvalidName) = some (.type "type"))
    (x_InvalidName_kp : PySem.W.keepIn K (.ref z_InvalidName) = true)
    (x_InvalidName_hd : PySem.W.hasDictIn K z_InvalidName = true)
    (x_InvalidName_ca : PySem.W.findIn K (.ref z_InvalidName) "__class__" = some (some (.builtin "object.__class__")))
    (x_InvalidName_cg : PySem.W.specialIn K (.builtin "object.__class__") "__get__" = some (some (.builtin "getset_descriptor.__get__")))
    (x_InvalidName_ct : PySem.W.takesIn K (.builtin "object.__class__") = some true)
    (x_InvalidName_mo : PySem.W.mroIn K z_InvalidName (.type "object") = some true)
    (x_InvalidName_fv : PySem.W.findIn K (.ref z_InvalidName) "value" = some none)
    (y_InvalidTerm_bv : bm_z_InvalidTerm = Value.ref z_CaughtError :: BK.tail .ve)
    (x_InvalidTerm_cls : K.lookup z_InvalidTerm = some (excClassObj nm_z_InvalidTerm q_z_InvalidTerm z_InvalidTerm N_z_InvalidTerm bs_z_InvalidTerm bm_z_InvalidTerm true sn_z_InvalidTerm sub_z_InvalidTerm ab_z_InvalidTerm col_z_InvalidTerm dd_z_InvalidTerm k0_z_InvalidTerm k1_z_InvalidTerm k2_z_InvalidTerm k3_z_InvalidTerm k5_z_InvalidTerm "ValueError.__new__"))
    (x_InvalidTerm_bm : ownB BK.ve.tail bm_z_InvalidTerm = true)
    (x_InvalidTerm_sa : PySem.W.findIn K (.ref z_InvalidTerm) "__setattr__" = some (some (.builtin "object.__setattr__")))
    (x_InvalidTerm_ga : PySem.W.findIn K (.ref z_InvalidTerm) "__getattribute__" = some (some (.builtin "BaseException.__getattribute__")))
    (x_InvalidTerm_gg : PySem.W.findIn K (.ref z_InvalidTerm) "__getattr__" = some none)
    (x_InvalidTerm_ex : PySem.W.subIn K (.ref z_InvalidTerm) (.type "BaseException") = some true)
    (x_InvalidTerm_ty : PySem.W.typeIn K (.ref z_InvalidTerm) = some (.type "type"))
    (x_InvalidTerm_kp : PySem.W.keepIn K (.ref z_InvalidTerm) = true)
    (x_InvalidTerm_hd : PySem.W.hasDictIn K z_InvalidTerm = true)
    (x_InvalidTerm_ca : PySem.W.findIn K (.ref z_InvalidTerm) "__class__" = some (some (.builtin "object.__class__")))
    (x_InvalidTerm_cg : PySem.W.specialIn K (.builtin "object.__class__") "__get__" = some (some (.builtin "getset_descriptor.__get__")))
    (x_InvalidTerm_ct : PySem.W.takesIn K (.builtin "object.__class__") = some true)
    (x_InvalidTerm_mo : PySem.W.mroIn K z_InvalidTerm (.type "object") = some true)
    (x_InvalidTerm_fv : PySem.W.findIn K (.ref z_InvalidTerm) "value" = some none)
    (y_InvalidBody_bv : bm_z_InvalidBody = Value.ref z_CaughtError :: BK.tail .ve)
    (x_InvalidBody_cls : K.lookup z_InvalidBody = some (excClassObj nm_z_InvalidBody q_z_InvalidBody z_InvalidBody N_z_InvalidBody bs_z_InvalidBody bm_z_InvalidBody true sn_z_InvalidBody sub_z_InvalidBody ab_z_InvalidBody col_z_InvalidBody dd_z_InvalidBody k0_z_InvalidBody k1_z_InvalidBody k2_z_InvalidBody k3_z_InvalidBody k5_z_InvalidBody "ValueError.__new__"))
    (x_InvalidBody_bm : ownB BK.ve.tail bm_z_InvalidBody = true)
    (x_InvalidBody_sa : PySem.W.findIn K (.ref z_InvalidBody) "__setattr__" = some (some (.builtin "object.__setattr__")))
    (x_InvalidBody_ga : PySem.W.findIn K (.ref z_InvalidBody) "__getattribute__" = some (some (.builtin "BaseException.__getattribute__")))
    (x_InvalidBody_gg : PySem.W.findIn K (.ref z_InvalidBody) "__getattr__" = some none)
    (x_InvalidBody_ex : PySem.W.subIn K (.ref z_InvalidBody) (.type "BaseException") = some true)
    (x_InvalidBody_ty : PySem.W.typeIn K (.ref z_InvalidBody) = some (.type "type"))
    (x_InvalidBody_kp : PySem.W.keepIn K (.ref z_InvalidBody) = true)
    (x_InvalidBody_hd : PySem.W.hasDictIn K z_InvalidBody = true)
    (x_InvalidBody_ca : PySem.W.findIn K (.ref z_InvalidBody) "__class__" = some (some (.builtin "object.__class__")))
    (x_InvalidBody_cg : PySem.W.specialIn K (.builtin "object.__class__") "__get__" = some (some (.builtin "getset_descriptor.__get__")))
    (x_InvalidBody_ct : PySem.W.takesIn K (.builtin "object.__class__") = some true)
    (x_InvalidBody_mo : PySem.W.mroIn K z_InvalidBody (.type "object") = some true)
    (x_InvalidBody_fv : PySem.W.findIn K (.ref z_InvalidBody) "value" = some none)
    (y_InvalidProgram_bv : bm_z_InvalidProgram = Value.ref z_CaughtError :: BK.tail .ve)
    (x_InvalidProgram_cls : K.lookup z_InvalidProgram = some (excClassObj nm_z_InvalidProgram q_z_InvalidProgram z_InvalidProgram N_z_InvalidProgram bs_z_InvalidProgram bm_z_InvalidProgram true sn_z_InvalidProgram sub_z_InvalidProgram ab_z_InvalidProgram col_z_InvalidProgram dd_z_InvalidProgram k0_z_InvalidProgram k1_z_InvalidProgram k2_z_InvalidProgram k3_z_InvalidProgram k5_z_InvalidProgram "ValueError.__new__"))
    (x_InvalidProgram_bm : ownB BK.ve.tail bm_z_InvalidProgram = true)
    (x_InvalidProgram_sa : PySem.W.findIn K (.ref z_InvalidProgram) "__setattr__" = some (some (.builtin "object.__setattr__")))
    (x_InvalidProgram_ga : PySem.W.findIn K (.ref z_InvalidProgram) "__getattribute__" = some (some (.builtin "BaseException.__getattribute__")))
    (x_InvalidProgram_gg : PySem.W.findIn K (.ref z_InvalidProgram) "__getattr__" = some none)
    (x_InvalidProgram_ex : PySem.W.subIn K (.ref z_InvalidProgram) (.type "BaseException") = some true)
    (x_InvalidProgram_ty : PySem.W.typeIn K (.ref z_InvalidProgram) = some (.type "type"))
    (x_InvalidProgram_kp : PySem.W.keepIn K (.ref z_InvalidProgram) = true)
    (x_InvalidProgram_hd : PySem.W.hasDictIn K z_InvalidProgram = true)
    (x_InvalidProgram_ca : PySem.W.findIn K (.ref z_InvalidProgram) "__class__" = some (some (.builtin "object.__class__")))
    (x_InvalidProgram_cg : PySem.W.specialIn K (.builtin "object.__class__") "__get__" = some (some (.builtin "getset_descriptor.__get__")))
    (x_InvalidProgram_ct : PySem.W.takesIn K (.builtin "object.__class__") = some true)
    (x_InvalidProgram_mo : PySem.W.mroIn K z_InvalidProgram (.type "object") = some true)
    (x_InvalidProgram_fv : PySem.W.findIn K (.ref z_InvalidProgram) "value" = some none)
    (y_InvalidParameters_bv : bm_z_InvalidParameters = Value.ref z_CaughtError :: BK.tail .ve)
    (x_InvalidParameters_cls : K.lookup z_InvalidParameters = some (excClassObj nm_z_InvalidParameters q_z_InvalidParameters z_InvalidParameters N_z_InvalidParameters bs_z_InvalidParameters bm_z_InvalidParameters true sn_z_InvalidParameters sub_z_InvalidParameters ab_z_InvalidParameters col_z_InvalidParameters dd_z_InvalidParameters k0_z_InvalidParameters k1_z_InvalidParameters k2_z_InvalidParameters k3_z_InvalidParameters k5_z_InvalidParameters "ValueError.__new__"))
    (x_InvalidParameters_bm : ownB BK.ve.tail bm_z_InvalidParameters = true)
    (x_InvalidParameters_sa : PySem.W.findIn K (.ref z_InvalidParameters) "__setattr__" = some (some (.builtin "object.__setattr__")))
    (x_InvalidParameters_ga : PySem.W.findIn K (.ref z_InvalidParameters) "__getattribute__" = some (some (.builtin "BaseException.__getattribute__")))
    (x_InvalidParameters_gg : PySem.W.findIn K (.ref z_InvalidParameters) "__getattr__" = some none)
    (x_InvalidParameters_ex : PySem.W.subIn K (.ref z_InvalidParameters) (.type "BaseException") = some true)
    (x_InvalidParameters_ty : PySem.W.typeIn K (.ref z_InvalidParameters) = some (.type "type"))
    (x_InvalidParameters_kp : PySem.W.keepIn K (.ref z_InvalidParameters) = true)
    (x_InvalidParameters_hd : PySem.W.hasDictIn K z_InvalidParameters = true)
    (x_InvalidParameters_ca : PySem.W.findIn K (.ref z_InvalidParameters) "__class__" = some (some (.builtin "object.__class__")))
    (x_InvalidParameters_cg : PySem.W.specialIn K (.builtin "object.__class__") "__get__" = some (some (.builtin "getset_descriptor.__get__")))
    (x_InvalidParameters_ct : PySem.W.takesIn K (.builtin "object.__class__") = some true)
    (x_InvalidParameters_mo : PySem.W.mroIn K z_InvalidParameters (.type "object") = some true)
    (x_InvalidParameters_fv : PySem.W.findIn K (.ref z_InvalidParameters) "value" = some none)
    (y_InvalidTemplate_bv : bm_z_InvalidTemplate = Value.ref z_CaughtError :: BK.tail .ve)
    (x_InvalidTemplate_cls : K.lookup z_InvalidTemplate = some (excClassObj nm_z_InvalidTemplate q_z_InvalidTemplate z_InvalidTemplate N_z_InvalidTemplate bs_z_InvalidTemplate bm_z_InvalidTemplate true sn_z_InvalidTemplate sub_z_InvalidTemplate ab_z_InvalidTemplate col_z_InvalidTemplate dd_z_InvalidTemplate k0_z_InvalidTemplate k1_z_InvalidTemplate k2_z_InvalidTemplate k3_z_InvalidTemplate k5_z_InvalidTemplate "ValueError.__new__"))
    (x_InvalidTemplate_bm : ownB BK.ve.tail bm_z_InvalidTemplate = true)
    (x_InvalidTemplate_sa : PySem.W.findIn K (.ref z_InvalidTemplate) "__setattr__" = some (some (.builtin "object.__setattr__")))
    (x_InvalidTemplate_ga : PySem.W.findIn K (.ref z_InvalidTemplate) "__getattribute__" = some (some (.builtin "BaseException.__getattribute__")))
    (x_InvalidTemplate_gg : PySem.W.findIn K (.ref z_InvalidTemplate) "__getattr__" = some none)
    (x_InvalidTemplate_ex : PySem.W.subIn K (.ref z_InvalidTemplate) (.type "BaseException") = some true)
    (x_InvalidTemplate_ty : PySem.W.typeIn K (.ref z_InvalidTemplate) = some (.type "type"))
    (x_InvalidTemplate_kp : PySem.W.keepIn K (.ref z_InvalidTemplate) = true)
    (x_InvalidTemplate_hd : PySem.W.hasDictIn K z_InvalidTemplate = true)
    (x_InvalidTemplate_ca : PySem.W.findIn K (.ref z_InvalidTemplate) "__class__" = some (some (.builtin "object.__class__")))
    (x_InvalidTemplate_cg : PySem.W.specialIn K (.builtin "object.__class__") "__get__" = some (some (.builtin "getset_descriptor.__get__")))
    (x_InvalidTemplate_ct : PySem.W.takesIn K (.builtin "object.__class__") = some true)
    (x_InvalidTemplate_mo : PySem.W.mroIn K z_InvalidTemplate (.type "object") = some true)
    (x_InvalidTemplate_fv : PySem.W.findIn K (.ref z_InvalidTemplate) "value" = some none)
    (y_InvalidCall_bv : bm_z_InvalidCall = Value.ref z_CaughtError :: BK.tail .ve)
    (x_InvalidCall_cls : K.lookup z_InvalidCall = some (excClassObj nm_z_InvalidCall q_z_InvalidCall z_InvalidCall N_z_InvalidCall bs_z_InvalidCall bm_z_InvalidCall true sn_z_InvalidCall sub_z_InvalidCall ab_z_InvalidCall col_z_InvalidCall dd_z_InvalidCall k0_z_InvalidCall k1_z_InvalidCall k2_z_InvalidCall k3_z_InvalidCall k5_z_InvalidCall "ValueError.__new__"))
    (x_InvalidCall_bm : ownB BK.ve.tail bm_z_InvalidCall = true)
    (x_InvalidCall_sa : PySem.W.findIn K (.ref z_InvalidCall) "__setattr__" = some (some (.builtin "object.__setattr__")))
    (x_InvalidCall_ga : PySem.W.findIn K (.ref z_InvalidCall) "__getattribute__" = some (some (.builtin "BaseException.__getattribute__")))
    (x_InvalidCall_gg : PySem.W.findIn K (.ref z_InvalidCall) "__getattr__" = some none)
    (x_InvalidCall_ex : PySem.W.subIn K (.ref z_InvalidCall) (.type "BaseException") = some true)
    (x_InvalidCall_ty : PySem.W.typeIn K (.ref z_InvalidCall) = some (.type "type"))
    (x_InvalidCall_kp : PySem.W.keepIn K (.ref z_InvalidCall) = true)
    (x_InvalidCall_hd : PySem.W.hasDictIn K z_InvalidCall = true)
    (x_InvalidCall_ca : PySem.W.findIn K (.ref z_InvalidCall) "__class__" = some (some (.builtin "object.__class__")))
    (x_InvalidCall_cg : PySem.W.specialIn K (.builtin "object.__class__") "__get__" = some (some (.builtin "getset_descriptor.__get__")))
    (x_InvalidCall_ct : PySem.W.takesIn K (.builtin "object.__class__") = some true)
    (x_InvalidCall_mo : PySem.W.mroIn K z_InvalidCall (.type "object") = some true)
    (x_InvalidCall_fv : PySem.W.findIn K (.ref z_InvalidCall) "value" = some none)
    (y_InvalidBook_bv : bm_z_InvalidBook = Value.ref z_CaughtError :: BK.tail .ve)
    (x_InvalidBook_cls : K.lookup z_InvalidBook = some (excClassObj nm_z_InvalidBook q_z_InvalidBook z_InvalidBook N_z_InvalidBook bs_z_InvalidBook bm_z_InvalidBook true sn_z_InvalidBook sub_z_InvalidBook ab_z_InvalidBook col_z_InvalidBook dd_z_InvalidBook k0_z_InvalidBook k1_z_InvalidBook k2_z_InvalidBook k3_z_InvalidBook k5_z_InvalidBook "ValueError.__new__"))
    (x_InvalidBook_bm : ownB BK.ve.tail bm_z_InvalidBook = true)
    (x_InvalidBook_sa : PySem.W.findIn K (.ref z_InvalidBook) "__setattr__" = some (some (.builtin "object.__setattr__")))
    (x_InvalidBook_ga : PySem.W.findIn K (.ref z_InvalidBook) "__getattribute__" = some (some (.builtin "BaseException.__getattribute__")))
    (x_InvalidBook_gg : PySem.W.findIn K (.ref z_InvalidBook) "__getattr__" = some none)
    (x_InvalidBook_ex : PySem.W.subIn K (.ref z_InvalidBook) (.type "BaseException") = some true)
    (x_InvalidBook_ty : PySem.W.typeIn K (.ref z_InvalidBook) = some (.type "type"))
    (x_InvalidBook_kp : PySem.W.keepIn K (.ref z_InvalidBook) = true)
    (x_InvalidBook_hd : PySem.W.hasDictIn K z_InvalidBook = true)
    (x_InvalidBook_ca : PySem.W.findIn K (.ref z_InvalidBook) "__class__" = some (some (.builtin "object.__class__")))
    (x_InvalidBook_cg : PySem.W.specialIn K (.builtin "object.__class__") "__get__" = some (some (.builtin "getset_descriptor.__get__")))
    (x_InvalidBook_ct : PySem.W.takesIn K (.builtin "object.__class__") = some true)
    (x_InvalidBook_mo : PySem.W.mroIn K z_InvalidBook (.type "object") = some true)
    (x_InvalidBook_fv : PySem.W.findIn K (.ref z_InvalidBook) "value" = some none)
    (y_InvalidChoice_bv : bm_z_InvalidChoice = Value.ref z_CaughtError :: BK.tail .ve)
    (x_InvalidChoice_cls : K.lookup z_InvalidChoice = some (excClassObj nm_z_InvalidChoice q_z_InvalidChoice z_InvalidChoice N_z_InvalidChoice bs_z_InvalidChoice bm_z_InvalidChoice true sn_z_InvalidChoice sub_z_InvalidChoice ab_z_InvalidChoice col_z_InvalidChoice dd_z_InvalidChoice k0_z_InvalidChoice k1_z_InvalidChoice k2_z_InvalidChoice k3_z_InvalidChoice k5_z_InvalidChoice "ValueError.__new__"))
    (x_InvalidChoice_bm : ownB BK.ve.tail bm_z_InvalidChoice = true)
    (x_InvalidChoice_sa : PySem.W.findIn K (.ref z_InvalidChoice) "__setattr__" = some (some (.builtin "object.__setattr__")))
    (x_InvalidChoice_ga : PySem.W.findIn K (.ref z_InvalidChoice) "__getattribute__" = some (some (.builtin "BaseException.__getattribute__")))
    (x_InvalidChoice_gg : PySem.W.findIn K (.ref z_InvalidChoice) "__getattr__" = some none)
    (x_InvalidChoice_ex : PySem.W.subIn K (.ref z_InvalidChoice) (.type "BaseException") = some true)
    (x_InvalidChoice_ty : PySem.W.typeIn K (.ref z_InvalidChoice) = some (.type "type"))
    (x_InvalidChoice_kp : PySem.W.keepIn K (.ref z_InvalidChoice) = true)
    (x_InvalidChoice_hd : PySem.W.hasDictIn K z_InvalidChoice = true)
    (x_InvalidChoice_ca : PySem.W.findIn K (.ref z_InvalidChoice) "__class__" = some (some (.builtin "object.__class__")))
    (x_InvalidChoice_cg : PySem.W.specialIn K (.builtin "object.__class__") "__get__" = some (some (.builtin "getset_descriptor.__get__")))
    (x_InvalidChoice_ct : PySem.W.takesIn K (.builtin "object.__class__") = some true)
    (x_InvalidChoice_mo : PySem.W.mroIn K z_InvalidChoice (.type "object") = some true)
    (x_InvalidChoice_fv : PySem.W.findIn K (.ref z_InvalidChoice) "value" = some none)
    (y_InvalidFillings_bv : bm_z_InvalidFillings = Value.ref z_CaughtError :: BK.tail .ve)
    (x_InvalidFillings_cls : K.lookup z_InvalidFillings = some (excClassObj nm_z_InvalidFillings q_z_InvalidFillings z_InvalidFillings N_z_InvalidFillings bs_z_InvalidFillings bm_z_InvalidFillings true sn_z_InvalidFillings sub_z_InvalidFillings ab_z_InvalidFillings col_z_InvalidFillings dd_z_InvalidFillings k0_z_InvalidFillings k1_z_InvalidFillings k2_z_InvalidFillings k3_z_InvalidFillings k5_z_InvalidFillings "ValueError.__new__"))
    (x_InvalidFillings_bm : ownB BK.ve.tail bm_z_InvalidFillings = true)
    (x_InvalidFillings_sa : PySem.W.findIn K (.ref z_InvalidFillings) "__setattr__" = some (some (.builtin "object.__setattr__")))
    (x_InvalidFillings_ga : PySem.W.findIn K (.ref z_InvalidFillings) "__getattribute__" = some (some (.builtin "BaseException.__getattribute__")))
    (x_InvalidFillings_gg : PySem.W.findIn K (.ref z_InvalidFillings) "__getattr__" = some none)
    (x_InvalidFillings_ex : PySem.W.subIn K (.ref z_InvalidFillings) (.type "BaseException") = some true)
    (x_InvalidFillings_ty : PySem.W.typeIn K (.ref z_InvalidFillings) = some (.type "type"))
    (x_InvalidFillings_kp : PySem.W.keepIn K (.ref z_InvalidFillings) = true)
    (x_InvalidFillings_hd : PySem.W.hasDictIn K z_InvalidFillings = true)
    (x_InvalidFillings_ca : PySem.W.findIn K (.ref z_InvalidFillings) "__class__" = some (some (.builtin "object.__class__")))
    (x_InvalidFillings_cg : PySem.W.specialIn K (.builtin "object.__class__") "__get__" = some (some (.builtin "getset_descriptor.__get__")))
    (x_InvalidFillings_ct : PySem.W.takesIn K (.builtin "object.__class__") = some true)
    (x_InvalidFillings_mo : PySem.W.mroIn K z_InvalidFillings (.type "object") = some true)
    (x_InvalidFillings_fv : PySem.W.findIn K (.ref z_InvalidFillings) "value" = some none)
    (y_InvalidSite_bv : bm_z_InvalidSite = Value.ref z_CaughtError :: BK.tail .ve)
    (x_InvalidSite_cls : K.lookup z_InvalidSite = some (excClassObj nm_z_InvalidSite q_z_InvalidSite z_InvalidSite N_z_InvalidSite bs_z_InvalidSite bm_z_InvalidSite true sn_z_InvalidSite sub_z_InvalidSite ab_z_InvalidSite col_z_InvalidSite dd_z_InvalidSite k0_z_InvalidSite k1_z_InvalidSite k2_z_InvalidSite k3_z_InvalidSite k5_z_InvalidSite "ValueError.__new__"))
    (x_InvalidSite_bm : ownB BK.ve.tail bm_z_InvalidSite = true)
    (x_InvalidSite_sa : PySem.W.findIn K (.ref z_InvalidSite) "__setattr__" = some (some (.builtin "object.__setattr__")))
    (x_InvalidSite_ga : PySem.W.findIn K (.ref z_InvalidSite) "__getattribute__" = some (some (.builtin "BaseException.__getattribute__")))
    (x_InvalidSite_gg : PySem.W.findIn K (.ref z_InvalidSite) "__getattr__" = some none)
    (x_InvalidSite_ex : PySem.W.subIn K (.ref z_InvalidSite) (.type "BaseException") = some true)
    (x_InvalidSite_ty : PySem.W.typeIn K (.ref z_InvalidSite) = some (.type "type"))
    (x_InvalidSite_kp : PySem.W.keepIn K (.ref z_InvalidSite) = true)
    (x_InvalidSite_hd : PySem.W.hasDictIn K z_InvalidSite = true)
    (x_InvalidSite_ca : PySem.W.findIn K (.ref z_InvalidSite) "__class__" = some (some (.builtin "object.__class__")))
    (x_InvalidSite_cg : PySem.W.specialIn K (.builtin "object.__class__") "__get__" = some (some (.builtin "getset_descriptor.__get__")))
    (x_InvalidSite_ct : PySem.W.takesIn K (.builtin "object.__class__") = some true)
    (x_InvalidSite_mo : PySem.W.mroIn K z_InvalidSite (.type "object") = some true)
    (x_InvalidSite_fv : PySem.W.findIn K (.ref z_InvalidSite) "value" = some none)
    (y_InvalidTables_bv : bm_z_InvalidTables = Value.ref z_CaughtError :: BK.tail .ve)
    (x_InvalidTables_cls : K.lookup z_InvalidTables = some (excClassObj nm_z_InvalidTables q_z_InvalidTables z_InvalidTables N_z_InvalidTables bs_z_InvalidTables bm_z_InvalidTables true sn_z_InvalidTables sub_z_InvalidTables ab_z_InvalidTables col_z_InvalidTables dd_z_InvalidTables k0_z_InvalidTables k1_z_InvalidTables k2_z_InvalidTables k3_z_InvalidTables k5_z_InvalidTables "ValueError.__new__"))
    (x_InvalidTables_bm : ownB BK.ve.tail bm_z_InvalidTables = true)
    (x_InvalidTables_sa : PySem.W.findIn K (.ref z_InvalidTables) "__setattr__" = some (some (.builtin "object.__setattr__")))
    (x_InvalidTables_ga : PySem.W.findIn K (.ref z_InvalidTables) "__getattribute__" = some (some (.builtin "BaseException.__getattribute__")))
    (x_InvalidTables_gg : PySem.W.findIn K (.ref z_InvalidTables) "__getattr__" = some none)
    (x_InvalidTables_ex : PySem.W.subIn K (.ref z_InvalidTables) (.type "BaseException") = some true)
    (x_InvalidTables_ty : PySem.W.typeIn K (.ref z_InvalidTables) = some (.type "type"))
    (x_InvalidTables_kp : PySem.W.keepIn K (.ref z_InvalidTables) = true)
    (x_InvalidTables_hd : PySem.W.hasDictIn K z_InvalidTables = true)
    (x_InvalidTables_ca : PySem.W.findIn K (.ref z_InvalidTables) "__class__" = some (some (.builtin "object.__class__")))
    (x_InvalidTables_cg : PySem.W.specialIn K (.builtin "object.__class__") "__get__" = some (some (.builtin "getset_descriptor.__get__")))
    (x_InvalidTables_ct : PySem.W.takesIn K (.builtin "object.__class__") = some true)
    (x_InvalidTables_mo : PySem.W.mroIn K z_InvalidTables (.type "object") = some true)
    (x_InvalidTables_fv : PySem.W.findIn K (.ref z_InvalidTables) "value" = some none)
    (y_InvalidMeaning_bv : bm_z_InvalidMeaning = Value.ref z_CaughtError :: BK.tail .ve)
    (x_InvalidMeaning_cls : K.lookup z_InvalidMeaning = some (excClassObj nm_z_InvalidMeaning q_z_InvalidMeaning z_InvalidMeaning N_z_InvalidMeaning bs_z_InvalidMeaning bm_z_InvalidMeaning true sn_z_InvalidMeaning sub_z_InvalidMeaning ab_z_InvalidMeaning col_z_InvalidMeaning dd_z_InvalidMeaning k0_z_InvalidMeaning k1_z_InvalidMeaning k2_z_InvalidMeaning k3_z_InvalidMeaning k5_z_InvalidMeaning "ValueError.__new__"))
    (x_InvalidMeaning_bm : ownB BK.ve.tail bm_z_InvalidMeaning = true)
    (x_InvalidMeaning_sa : PySem.W.findIn K (.ref z_InvalidMeaning) "__setattr__" = some (some (.builtin "object.__setattr__")))
    (x_InvalidMeaning_ga : PySem.W.findIn K (.ref z_InvalidMeaning) "__getattribute__" = some (some (.builtin "BaseException.__getattribute__")))
    (x_InvalidMeaning_gg : PySem.W.findIn K (.ref z_InvalidMeaning) "__getattr__" = some none)
    (x_InvalidMeaning_ex : PySem.W.subIn K (.ref z_InvalidMeaning) (.type "BaseException") = some true)
    (x_InvalidMeaning_ty : PySem.W.typeIn K (.ref z_InvalidMeaning) = some (.type "type"))
    (x_InvalidMeaning_kp : PySem.W.keepIn K (.ref z_InvalidMeaning) = true)
    (x_InvalidMeaning_hd : PySem.W.hasDictIn K z_InvalidMeaning = true)
    (x_InvalidMeaning_ca : PySem.W.findIn K (.ref z_InvalidMeaning) "__class__" = some (some (.builtin "object.__class__")))
    (x_InvalidMeaning_cg : PySem.W.specialIn K (.builtin "object.__class__") "__get__" = some (some (.builtin "getset_descriptor.__get__")))
    (x_InvalidMeaning_ct : PySem.W.takesIn K (.builtin "object.__class__") = some true)
    (x_InvalidMeaning_mo : PySem.W.mroIn K z_InvalidMeaning (.type "object") = some true)
    (x_InvalidMeaning_fv : PySem.W.findIn K (.ref z_InvalidMeaning) "value" = some none)
    (y_InvalidText_bv : bm_z_InvalidText = Value.ref z_CaughtError :: BK.tail .ve)
    (x_InvalidText_cls : K.lookup z_InvalidText = some (excClassObj nm_z_InvalidText q_z_InvalidText z_InvalidText N_z_InvalidText bs_z_InvalidText bm_z_InvalidText true sn_z_InvalidText sub_z_InvalidText ab_z_InvalidText col_z_InvalidText dd_z_InvalidText k0_z_InvalidText k1_z_InvalidText k2_z_InvalidText k3_z_InvalidText k5_z_InvalidText "ValueError.__new__"))
    (x_InvalidText_bm : ownB BK.ve.tail bm_z_InvalidText = true)
    (x_InvalidText_sa : PySem.W.findIn K (.ref z_InvalidText) "__setattr__" = some (some (.builtin "object.__setattr__")))
    (x_InvalidText_ga : PySem.W.findIn K (.ref z_InvalidText) "__getattribute__" = some (some (.builtin "BaseException.__getattribute__")))
    (x_InvalidText_gg : PySem.W.findIn K (.ref z_InvalidText) "__getattr__" = some none)
    (x_InvalidText_ex : PySem.W.subIn K (.ref z_InvalidText) (.type "BaseException") = some true)
    (x_InvalidText_ty : PySem.W.typeIn K (.ref z_InvalidText) = some (.type "type"))
    (x_InvalidText_kp : PySem.W.keepIn K (.ref z_InvalidText) = true)
    (x_InvalidText_hd : PySem.W.hasDictIn K z_InvalidText = true)
    (x_InvalidText_ca : PySem.W.findIn K (.ref z_InvalidText) "__class__" = some (some (.builtin "object.__class__")))
    (x_InvalidText_cg : PySem.W.specialIn K (.builtin "object.__class__") "__get__" = some (some (.builtin "getset_descriptor.__get__")))
    (x_InvalidText_ct : PySem.W.takesIn K (.builtin "object.__class__") = some true)
    (x_InvalidText_mo : PySem.W.mroIn K z_InvalidText (.type "object") = some true)
    (x_InvalidText_fv : PySem.W.findIn K (.ref z_InvalidText) "value" = some none)
    (y_InvalidLine_bv : bm_z_InvalidLine = Value.ref z_CaughtError :: BK.tail .ve)
    (x_InvalidLine_cls : K.lookup z_InvalidLine = some (excClassObj nm_z_InvalidLine q_z_InvalidLine z_InvalidLine N_z_InvalidLine bs_z_InvalidLine bm_z_InvalidLine true sn_z_InvalidLine sub_z_InvalidLine ab_z_InvalidLine col_z_InvalidLine dd_z_InvalidLine k0_z_InvalidLine k1_z_InvalidLine k2_z_InvalidLine k3_z_InvalidLine k5_z_InvalidLine "ValueError.__new__"))
    (x_InvalidLine_bm : ownB BK.ve.tail bm_z_InvalidLine = true)
    (x_InvalidLine_sa : PySem.W.findIn K (.ref z_InvalidLine) "__setattr__" = some (some (.builtin "object.__setattr__")))
    (x_InvalidLine_ga : PySem.W.findIn K (.ref z_InvalidLine) "__getattribute__" = some (some (.builtin "BaseException.__getattribute__")))
    (x_InvalidLine_gg : PySem.W.findIn K (.ref z_InvalidLine) "__getattr__" = some none)
    (x_InvalidLine_ex : PySem.W.subIn K (.ref z_InvalidLine) (.type "BaseException") = some true)
    (x_InvalidLine_ty : PySem.W.typeIn K (.ref z_InvalidLine) = some (.type "type"))
    (x_InvalidLine_kp : PySem.W.keepIn K (.ref z_InvalidLine) = true)
    (x_InvalidLine_hd : PySem.W.hasDictIn K z_InvalidLine = true)
    (x_InvalidLine_ca : PySem.W.findIn K (.ref z_InvalidLine) "__class__" = some (some (.builtin "object.__class__")))
    (x_InvalidLine_cg : PySem.W.specialIn K (.builtin "object.__class__") "__get__" = some (some (.builtin "getset_descriptor.__get__")))
    (x_InvalidLine_ct : PySem.W.takesIn K (.builtin "object.__class__") = some true)
    (x_InvalidLine_mo : PySem.W.mroIn K z_InvalidLine (.type "object") = some true)
    (x_InvalidLine_fv : PySem.W.findIn K (.ref z_InvalidLine) "value" = some none)
    (y_InvalidLines_bv : bm_z_InvalidLines = Value.ref z_CaughtError :: BK.tail .ve)
    (x_InvalidLines_cls : K.lookup z_InvalidLines = some (excClassObj nm_z_InvalidLines q_z_InvalidLines z_InvalidLines N_z_InvalidLines bs_z_InvalidLines bm_z_InvalidLines true sn_z_InvalidLines sub_z_InvalidLines ab_z_InvalidLines col_z_InvalidLines dd_z_InvalidLines k0_z_InvalidLines k1_z_InvalidLines k2_z_InvalidLines k3_z_InvalidLines k5_z_InvalidLines "ValueError.__new__"))
    (x_InvalidLines_bm : ownB BK.ve.tail bm_z_InvalidLines = true)
    (x_InvalidLines_sa : PySem.W.findIn K (.ref z_InvalidLines) "__setattr__" = some (some (.builtin "object.__setattr__")))
    (x_InvalidLines_ga : PySem.W.findIn K (.ref z_InvalidLines) "__getattribute__" = some (some (.builtin "BaseException.__getattribute__")))
    (x_InvalidLines_gg : PySem.W.findIn K (.ref z_InvalidLines) "__getattr__" = some none)
    (x_InvalidLines_ex : PySem.W.subIn K (.ref z_InvalidLines) (.type "BaseException") = some true)
    (x_InvalidLines_ty : PySem.W.typeIn K (.ref z_InvalidLines) = some (.type "type"))
    (x_InvalidLines_kp : PySem.W.keepIn K (.ref z_InvalidLines) = true)
    (x_InvalidLines_hd : PySem.W.hasDictIn K z_InvalidLines = true)
    (x_InvalidLines_ca : PySem.W.findIn K (.ref z_InvalidLines) "__class__" = some (some (.builtin "object.__class__")))
    (x_InvalidLines_cg : PySem.W.specialIn K (.builtin "object.__class__") "__get__" = some (some (.builtin "getset_descriptor.__get__")))
    (x_InvalidLines_ct : PySem.W.takesIn K (.builtin "object.__class__") = some true)
    (x_InvalidLines_mo : PySem.W.mroIn K z_InvalidLines (.type "object") = some true)
    (x_InvalidLines_fv : PySem.W.findIn K (.ref z_InvalidLines) "value" = some none)
    (y_InvalidMode_bv : bm_z_InvalidMode = Value.ref z_CaughtError :: BK.tail .ve)
    (x_InvalidMode_cls : K.lookup z_InvalidMode = some (excClassObj nm_z_InvalidMode q_z_InvalidMode z_InvalidMode N_z_InvalidMode bs_z_InvalidMode bm_z_InvalidMode true sn_z_InvalidMode sub_z_InvalidMode ab_z_InvalidMode col_z_InvalidMode dd_z_InvalidMode k0_z_InvalidMode k1_z_InvalidMode k2_z_InvalidMode k3_z_InvalidMode k5_z_InvalidMode "ValueError.__new__"))
    (x_InvalidMode_bm : ownB BK.ve.tail bm_z_InvalidMode = true)
    (x_InvalidMode_sa : PySem.W.findIn K (.ref z_InvalidMode) "__setattr__" = some (some (.builtin "object.__setattr__")))
    (x_InvalidMode_ga : PySem.W.findIn K (.ref z_InvalidMode) "__getattribute__" = some (some (.builtin "BaseException.__getattribute__")))
    (x_InvalidMode_gg : PySem.W.findIn K (.ref z_InvalidMode) "__getattr__" = some none)
    (x_InvalidMode_ex : PySem.W.subIn K (.ref z_InvalidMode) (.type "BaseException") = some true)
    (x_InvalidMode_ty : PySem.W.typeIn K (.ref z_InvalidMode) = some (.type "type"))
    (x_InvalidMode_kp : PySem.W.keepIn K (.ref z_InvalidMode) = true)
    (x_InvalidMode_hd : PySem.W.hasDictIn K z_InvalidMode = true)
    (x_InvalidMode_ca : PySem.W.findIn K (.ref z_InvalidMode) "__class__" = some (some (.builtin "object.__class__")))
    (x_InvalidMode_cg : PySem.W.specialIn K (.builtin "object.__class__") "__get__" = some (some (.builtin "getset_descriptor.__get__")))
    (x_InvalidMode_ct : PySem.W.takesIn K (.builtin "object.__class__") = some true)
    (x_InvalidMode_mo : PySem.W.mroIn K z_InvalidMode (.type "object") = some true)
    (x_InvalidMode_fv : PySem.W.findIn K (.ref z_InvalidMode) "value" = some none)
    (y_InvalidLetter_bv : bm_z_InvalidLetter = Value.ref z_CaughtError :: BK.tail .ve)
    (x_InvalidLetter_cls : K.lookup z_InvalidLetter = some (excClassObj nm_z_InvalidLetter q_z_InvalidLetter z_InvalidLetter N_z_InvalidLetter bs_z_InvalidLetter bm_z_InvalidLetter true sn_z_InvalidLetter sub_z_InvalidLetter ab_z_InvalidLetter col_z_InvalidLetter dd_z_InvalidLetter k0_z_InvalidLetter k1_z_InvalidLetter k2_z_InvalidLetter k3_z_InvalidLetter k5_z_InvalidLetter "ValueError.__new__"))
    (x_InvalidLetter_bm : ownB BK.ve.tail bm_z_InvalidLetter = true)
    (x_InvalidLetter_sa : PySem.W.findIn K (.ref z_InvalidLetter) "__setattr__" = some (some (.builtin "object.__setattr__")))
    (x_InvalidLetter_ga : PySem.W.findIn K (.ref z_InvalidLetter) "__getattribute__" = some (some (.builtin "BaseException.__getattribute__")))
    (x_InvalidLetter_gg : PySem.W.findIn K (.ref z_InvalidLetter) "__getattr__" = some none)
    (x_InvalidLetter_ex : PySem.W.subIn K (.ref z_InvalidLetter) (.type "BaseException") = some true)
    (x_InvalidLetter_ty : PySem.W.typeIn K (.ref z_InvalidLetter) = some (.type "type"))
    (x_InvalidLetter_kp : PySem.W.keepIn K (.ref z_InvalidLetter) = true)
    (x_InvalidLetter_hd : PySem.W.hasDictIn K z_InvalidLetter = true)
    (x_InvalidLetter_ca : PySem.W.findIn K (.ref z_InvalidLetter) "__class__" = some (some (.builtin "object.__class__")))
    (x_InvalidLetter_cg : PySem.W.specialIn K (.builtin "object.__class__") "__get__" = some (some (.builtin "getset_descriptor.__get__")))
    (x_InvalidLetter_ct : PySem.W.takesIn K (.builtin "object.__class__") = some true)
    (x_InvalidLetter_mo : PySem.W.mroIn K z_InvalidLetter (.type "object") = some true)
    (x_InvalidLetter_fv : PySem.W.findIn K (.ref z_InvalidLetter) "value" = some none)
    (y_UnlikeParameters_bv : bm_z_UnlikeParameters = Value.ref z_CaughtError :: BK.tail .ve)
    (x_UnlikeParameters_cls : K.lookup z_UnlikeParameters = some (excClassObj nm_z_UnlikeParameters q_z_UnlikeParameters z_UnlikeParameters N_z_UnlikeParameters bs_z_UnlikeParameters bm_z_UnlikeParameters true sn_z_UnlikeParameters sub_z_UnlikeParameters ab_z_UnlikeParameters col_z_UnlikeParameters dd_z_UnlikeParameters k0_z_UnlikeParameters k1_z_UnlikeParameters k2_z_UnlikeParameters k3_z_UnlikeParameters k5_z_UnlikeParameters "ValueError.__new__"))
    (x_UnlikeParameters_bm : ownB BK.ve.tail bm_z_UnlikeParameters = true)
    (x_UnlikeParameters_sa : PySem.W.findIn K (.ref z_UnlikeParameters) "__setattr__" = some (some (.builtin "object.__setattr__")))
    (x_UnlikeParameters_ga : PySem.W.findIn K (.ref z_UnlikeParameters) "__getattribute__" = some (some (.builtin "BaseException.__getattribute__")))
    (x_UnlikeParameters_gg : PySem.W.findIn K (.ref z_UnlikeParameters) "__getattr__" = some none)
    (x_UnlikeParameters_ex : PySem.W.subIn K (.ref z_UnlikeParameters) (.type "BaseException") = some true)
    (x_UnlikeParameters_ty : PySem.W.typeIn K (.ref z_UnlikeParameters) = some (.type "type"))
    (x_UnlikeParameters_kp : PySem.W.keepIn K (.ref z_UnlikeParameters) = true)
    (x_UnlikeParameters_hd : PySem.W.hasDictIn K z_UnlikeParameters = true)
    (x_UnlikeParameters_ca : PySem.W.findIn K (.ref z_UnlikeParameters) "__class__" = some (some (.builtin "object.__class__")))
    (x_UnlikeParameters_cg : PySem.W.specialIn K (.builtin "object.__class__") "__get__" = some (some (.builtin "getset_descriptor.__get__")))
    (x_UnlikeParameters_ct : PySem.W.takesIn K (.builtin "object.__class__") = some true)
    (x_UnlikeParameters_mo : PySem.W.mroIn K z_UnlikeParameters (.type "object") = some true)
    (x_UnlikeParameters_fv : PySem.W.findIn K (.ref z_UnlikeParameters) "value" = some none)
    (y_Duplicate_bv : bm_z_Duplicate = Value.ref z_CaughtError :: BK.tail .ve)
    (x_Duplicate_cls : K.lookup z_Duplicate = some (excClassObj nm_z_Duplicate q_z_Duplicate z_Duplicate N_z_Duplicate bs_z_Duplicate bm_z_Duplicate true sn_z_Duplicate sub_z_Duplicate ab_z_Duplicate col_z_Duplicate dd_z_Duplicate k0_z_Duplicate k1_z_Duplicate k2_z_Duplicate k3_z_Duplicate k5_z_Duplicate "ValueError.__new__"))
    (x_Duplicate_bm : ownB BK.ve.tail bm_z_Duplicate = true)
    (x_Duplicate_sa : PySem.W.findIn K (.ref z_Duplicate) "__setattr__" = some (some (.builtin "object.__setattr__")))
    (x_Duplicate_ga : PySem.W.findIn K (.ref z_Duplicate) "__getattribute__" = some (some (.builtin "BaseException.__getattribute__")))
    (x_Duplicate_gg : PySem.W.findIn K (.ref z_Duplicate) "__getattr__" = some none)
    (x_Duplicate_ex : PySem.W.subIn K (.ref z_Duplicate) (.type "BaseException") = some true)
    (x_Duplicate_ty : PySem.W.typeIn K (.ref z_Duplicate) = some (.type "type"))
    (x_Duplicate_kp : PySem.W.keepIn K (.ref z_Duplicate) = true)
    (x_Duplicate_hd : PySem.W.hasDictIn K z_Duplicate = true)
    (x_Duplicate_ca : PySem.W.findIn K (.ref z_Duplicate) "__class__" = some (some (.builtin "object.__class__")))
    (x_Duplicate_cg : PySem.W.specialIn K (.builtin "object.__class__") "__get__" = some (some (.builtin "getset_descriptor.__get__")))
    (x_Duplicate_ct : PySem.W.takesIn K (.builtin "object.__class__") = some true)
    (x_Duplicate_mo : PySem.W.mroIn K z_Duplicate (.type "object") = some true)
    (x_Duplicate_fv : PySem.W.findIn K (.ref z_Duplicate) "name" = some none)
    (y_Reserved_bv : bm_z_Reserved = Value.ref z_CaughtError :: BK.tail .ve)
    (x_Reserved_cls : K.lookup z_Reserved = some (excClassObj nm_z_Reserved q_z_Reserved z_Reserved N_z_Reserved bs_z_Reserved bm_z_Reserved true sn_z_Reserved sub_z_Reserved ab_z_Reserved col_z_Reserved dd_z_Reserved k0_z_Reserved k1_z_Reserved k2_z_Reserved k3_z_Reserved k5_z_Reserved "ValueError.__new__"))
    (x_Reserved_bm : ownB BK.ve.tail bm_z_Reserved = true)
    (x_Reserved_sa : PySem.W.findIn K (.ref z_Reserved) "__setattr__" = some (some (.builtin "object.__setattr__")))
    (x_Reserved_ga : PySem.W.findIn K (.ref z_Reserved) "__getattribute__" = some (some (.builtin "BaseException.__getattribute__")))
    (x_Reserved_gg : PySem.W.findIn K (.ref z_Reserved) "__getattr__" = some none)
    (x_Reserved_ex : PySem.W.subIn K (.ref z_Reserved) (.type "BaseException") = some true)
    (x_Reserved_ty : PySem.W.typeIn K (.ref z_Reserved) = some (.type "type"))
    (x_Reserved_kp : PySem.W.keepIn K (.ref z_Reserved) = true)
    (x_Reserved_hd : PySem.W.hasDictIn K z_Reserved = true)
    (x_Reserved_ca : PySem.W.findIn K (.ref z_Reserved) "__class__" = some (some (.builtin "object.__class__")))
    (x_Reserved_cg : PySem.W.specialIn K (.builtin "object.__class__") "__get__" = some (some (.builtin "getset_descriptor.__get__")))
    (x_Reserved_ct : PySem.W.takesIn K (.builtin "object.__class__") = some true)
    (x_Reserved_mo : PySem.W.mroIn K z_Reserved (.type "object") = some true)
    (x_Reserved_fv : PySem.W.findIn K (.ref z_Reserved) "name" = some none)
    (y_TooLarge_bv : bm_z_TooLarge = Value.ref z_CaughtError :: BK.tail .ve)
    (x_TooLarge_cls : K.lookup z_TooLarge = some (excClassObj nm_z_TooLarge q_z_TooLarge z_TooLarge N_z_TooLarge bs_z_TooLarge bm_z_TooLarge true sn_z_TooLarge sub_z_TooLarge ab_z_TooLarge col_z_TooLarge dd_z_TooLarge k0_z_TooLarge k1_z_TooLarge k2_z_TooLarge k3_z_TooLarge k5_z_TooLarge "ValueError.__new__"))
    (x_TooLarge_bm : ownB BK.ve.tail bm_z_TooLarge = true)
    (x_TooLarge_sa : PySem.W.findIn K (.ref z_TooLarge) "__setattr__" = some (some (.builtin "object.__setattr__")))
    (x_TooLarge_ga : PySem.W.findIn K (.ref z_TooLarge) "__getattribute__" = some (some (.builtin "BaseException.__getattribute__")))
    (x_TooLarge_gg : PySem.W.findIn K (.ref z_TooLarge) "__getattr__" = some none)
    (x_TooLarge_ex : PySem.W.subIn K (.ref z_TooLarge) (.type "BaseException") = some true)
    (x_TooLarge_ty : PySem.W.typeIn K (.ref z_TooLarge) = some (.type "type"))
    (x_TooLarge_kp : PySem.W.keepIn K (.ref z_TooLarge) = true)
    (x_TooLarge_hd : PySem.W.hasDictIn K z_TooLarge = true)
    (x_TooLarge_ca : PySem.W.findIn K (.ref z_TooLarge) "__class__" = some (some (.builtin "object.__class__")))
    (x_TooLarge_cg : PySem.W.specialIn K (.builtin "object.__class__") "__get__" = some (some (.builtin "getset_descriptor.__get__")))
    (x_TooLarge_ct : PySem.W.takesIn K (.builtin "object.__class__") = some true)
    (x_TooLarge_mo : PySem.W.mroIn K z_TooLarge (.type "object") = some true)
    (x_TooLarge_fv : PySem.W.findIn K (.ref z_TooLarge) "count" = some none)
    (y_InvalidRow_bv : bm_z_InvalidRow = Value.ref z_CaughtError :: BK.tail .ve)
    (x_InvalidRow_cls : K.lookup z_InvalidRow = some (excClassObj nm_z_InvalidRow q_z_InvalidRow z_InvalidRow N_z_InvalidRow bs_z_InvalidRow bm_z_InvalidRow true sn_z_InvalidRow sub_z_InvalidRow ab_z_InvalidRow col_z_InvalidRow dd_z_InvalidRow k0_z_InvalidRow k1_z_InvalidRow k2_z_InvalidRow k3_z_InvalidRow k5_z_InvalidRow "ValueError.__new__"))
    (x_InvalidRow_bm : ownB BK.ve.tail bm_z_InvalidRow = true)
    (x_InvalidRow_sa : PySem.W.findIn K (.ref z_InvalidRow) "__setattr__" = some (some (.builtin "object.__setattr__")))
    (x_InvalidRow_ga : PySem.W.findIn K (.ref z_InvalidRow) "__getattribute__" = some (some (.builtin "BaseException.__getattribute__")))
    (x_InvalidRow_gg : PySem.W.findIn K (.ref z_InvalidRow) "__getattr__" = some none)
    (x_InvalidRow_ex : PySem.W.subIn K (.ref z_InvalidRow) (.type "BaseException") = some true)
    (x_InvalidRow_ty : PySem.W.typeIn K (.ref z_InvalidRow) = some (.type "type"))
    (x_InvalidRow_kp : PySem.W.keepIn K (.ref z_InvalidRow) = true)
    (x_InvalidRow_hd : PySem.W.hasDictIn K z_InvalidRow = true)
    (x_InvalidRow_ca : PySem.W.findIn K (.ref z_InvalidRow) "__class__" = some (some (.builtin "object.__class__")))
    (x_InvalidRow_cg : PySem.W.specialIn K (.builtin "object.__class__") "__get__" = some (some (.builtin "getset_descriptor.__get__")))
    (x_InvalidRow_ct : PySem.W.takesIn K (.builtin "object.__class__") = some true)
    (x_InvalidRow_mo : PySem.W.mroIn K z_InvalidRow (.type "object") = some true)
    (x_InvalidRow_fv : PySem.W.findIn K (.ref z_InvalidRow) "index" = some none)
    (y_UnknownTemplate_bv : bm_z_UnknownTemplate = Value.ref z_AbsentError :: BK.tail .ke)
    (x_UnknownTemplate_cls : K.lookup z_UnknownTemplate = some (excClassObj nm_z_UnknownTemplate q_z_UnknownTemplate z_UnknownTemplate N_z_UnknownTemplate bs_z_UnknownTemplate bm_z_UnknownTemplate true sn_z_UnknownTemplate sub_z_UnknownTemplate ab_z_UnknownTemplate col_z_UnknownTemplate dd_z_UnknownTemplate k0_z_UnknownTemplate k1_z_UnknownTemplate k2_z_UnknownTemplate k3_z_UnknownTemplate k5_z_UnknownTemplate "LookupError.__new__"))
    (x_UnknownTemplate_bm : ownB BK.ke.tail bm_z_UnknownTemplate = true)
    (x_UnknownTemplate_sa : PySem.W.findIn K (.ref z_UnknownTemplate) "__setattr__" = some (some (.builtin "object.__setattr__")))
    (x_UnknownTemplate_ga : PySem.W.findIn K (.ref z_UnknownTemplate) "__getattribute__" = some (some (.builtin "BaseException.__getattribute__")))
    (x_UnknownTemplate_gg : PySem.W.findIn K (.ref z_UnknownTemplate) "__getattr__" = some none)
    (x_UnknownTemplate_ex : PySem.W.subIn K (.ref z_UnknownTemplate) (.type "BaseException") = some true)
    (x_UnknownTemplate_ty : PySem.W.typeIn K (.ref z_UnknownTemplate) = some (.type "type"))
    (x_UnknownTemplate_kp : PySem.W.keepIn K (.ref z_UnknownTemplate) = true)
    (x_UnknownTemplate_hd : PySem.W.hasDictIn K z_UnknownTemplate = true)
    (x_UnknownTemplate_ca : PySem.W.findIn K (.ref z_UnknownTemplate) "__class__" = some (some (.builtin "object.__class__")))
    (x_UnknownTemplate_cg : PySem.W.specialIn K (.builtin "object.__class__") "__get__" = some (some (.builtin "getset_descriptor.__get__")))
    (x_UnknownTemplate_ct : PySem.W.takesIn K (.builtin "object.__class__") = some true)
    (x_UnknownTemplate_mo : PySem.W.mroIn K z_UnknownTemplate (.type "object") = some true)
    (x_UnknownTemplate_fv : PySem.W.findIn K (.ref z_UnknownTemplate) "name" = some none)
    (y_UnknownHole_bv : bm_z_UnknownHole = Value.ref z_AbsentError :: BK.tail .ke)
    (x_UnknownHole_cls : K.lookup z_UnknownHole = some (excClassObj nm_z_UnknownHole q_z_UnknownHole z_UnknownHole N_z_UnknownHole bs_z_UnknownHole bm_z_UnknownHole true sn_z_UnknownHole sub_z_UnknownHole ab_z_UnknownHole col_z_UnknownHole dd_z_UnknownHole k0_z_UnknownHole k1_z_UnknownHole k2_z_UnknownHole k3_z_UnknownHole k5_z_UnknownHole "LookupError.__new__"))
    (x_UnknownHole_bm : ownB BK.ke.tail bm_z_UnknownHole = true)
    (x_UnknownHole_sa : PySem.W.findIn K (.ref z_UnknownHole) "__setattr__" = some (some (.builtin "object.__setattr__")))
    (x_UnknownHole_ga : PySem.W.findIn K (.ref z_UnknownHole) "__getattribute__" = some (some (.builtin "BaseException.__getattribute__")))
    (x_UnknownHole_gg : PySem.W.findIn K (.ref z_UnknownHole) "__getattr__" = some none)
    (x_UnknownHole_ex : PySem.W.subIn K (.ref z_UnknownHole) (.type "BaseException") = some true)
    (x_UnknownHole_ty : PySem.W.typeIn K (.ref z_UnknownHole) = some (.type "type"))
    (x_UnknownHole_kp : PySem.W.keepIn K (.ref z_UnknownHole) = true)
    (x_UnknownHole_hd : PySem.W.hasDictIn K z_UnknownHole = true)
    (x_UnknownHole_ca : PySem.W.findIn K (.ref z_UnknownHole) "__class__" = some (some (.builtin "object.__class__")))
    (x_UnknownHole_cg : PySem.W.specialIn K (.builtin "object.__class__") "__get__" = some (some (.builtin "getset_descriptor.__get__")))
    (x_UnknownHole_ct : PySem.W.takesIn K (.builtin "object.__class__") = some true)
    (x_UnknownHole_mo : PySem.W.mroIn K z_UnknownHole (.type "object") = some true)
    (x_UnknownHole_fv : PySem.W.findIn K (.ref z_UnknownHole) "name" = some none)
    (y_UnknownBinder_bv : bm_z_UnknownBinder = Value.ref z_AbsentError :: BK.tail .ke)
    (x_UnknownBinder_cls : K.lookup z_UnknownBinder = some (excClassObj nm_z_UnknownBinder q_z_UnknownBinder z_UnknownBinder N_z_UnknownBinder bs_z_UnknownBinder bm_z_UnknownBinder true sn_z_UnknownBinder sub_z_UnknownBinder ab_z_UnknownBinder col_z_UnknownBinder dd_z_UnknownBinder k0_z_UnknownBinder k1_z_UnknownBinder k2_z_UnknownBinder k3_z_UnknownBinder k5_z_UnknownBinder "LookupError.__new__"))
    (x_UnknownBinder_bm : ownB BK.ke.tail bm_z_UnknownBinder = true)
    (x_UnknownBinder_sa : PySem.W.findIn K (.ref z_UnknownBinder) "__setattr__" = some (some (.builtin "object.__setattr__")))
    (x_UnknownBinder_ga : PySem.W.findIn K (.ref z_UnknownBinder) "__getattribute__" = some (some (.builtin "BaseException.__getattribute__")))
    (x_UnknownBinder_gg : PySem.W.findIn K (.ref z_UnknownBinder) "__getattr__" = some none)
    (x_UnknownBinder_ex : PySem.W.subIn K (.ref z_UnknownBinder) (.type "BaseException") = some true)
    (x_UnknownBinder_ty : PySem.W.typeIn K (.ref z_UnknownBinder) = some (.type "type"))
    (x_UnknownBinder_kp : PySem.W.keepIn K (.ref z_UnknownBinder) = true)
    (x_UnknownBinder_hd : PySem.W.hasDictIn K z_UnknownBinder = true)
    (x_UnknownBinder_ca : PySem.W.findIn K (.ref z_UnknownBinder) "__class__" = some (some (.builtin "object.__class__")))
    (x_UnknownBinder_cg : PySem.W.specialIn K (.builtin "object.__class__") "__get__" = some (some (.builtin "getset_descriptor.__get__")))
    (x_UnknownBinder_ct : PySem.W.takesIn K (.builtin "object.__class__") = some true)
    (x_UnknownBinder_mo : PySem.W.mroIn K z_UnknownBinder (.type "object") = some true)
    (x_UnknownBinder_fv : PySem.W.findIn K (.ref z_UnknownBinder) "number" = some none)
    (y_StillCalled_bv : bm_z_StillCalled = Value.ref z_StateError :: BK.tail .le)
    (x_StillCalled_cls : K.lookup z_StillCalled = some (excClassObj nm_z_StillCalled q_z_StillCalled z_StillCalled N_z_StillCalled bs_z_StillCalled bm_z_StillCalled true sn_z_StillCalled sub_z_StillCalled ab_z_StillCalled col_z_StillCalled dd_z_StillCalled k0_z_StillCalled k1_z_StillCalled k2_z_StillCalled k3_z_StillCalled k5_z_StillCalled "LookupError.__new__"))
    (x_StillCalled_bm : ownB BK.le.tail bm_z_StillCalled = true)
    (x_StillCalled_sa : PySem.W.findIn K (.ref z_StillCalled) "__setattr__" = some (some (.builtin "object.__setattr__")))
    (x_StillCalled_ga : PySem.W.findIn K (.ref z_StillCalled) "__getattribute__" = some (some (.builtin "BaseException.__getattribute__")))
    (x_StillCalled_gg : PySem.W.findIn K (.ref z_StillCalled) "__getattr__" = some none)
    (x_StillCalled_ex : PySem.W.subIn K (.ref z_StillCalled) (.type "BaseException") = some true)
    (x_StillCalled_ty : PySem.W.typeIn K (.ref z_StillCalled) = some (.type "type"))
    (x_StillCalled_kp : PySem.W.keepIn K (.ref z_StillCalled) = true)
    (x_StillCalled_hd : PySem.W.hasDictIn K z_StillCalled = true)
    (x_StillCalled_ca : PySem.W.findIn K (.ref z_StillCalled) "__class__" = some (some (.builtin "object.__class__")))
    (x_StillCalled_cg : PySem.W.specialIn K (.builtin "object.__class__") "__get__" = some (some (.builtin "getset_descriptor.__get__")))
    (x_StillCalled_ct : PySem.W.takesIn K (.builtin "object.__class__") = some true)
    (x_StillCalled_mo : PySem.W.mroIn K z_StillCalled (.type "object") = some true)
    (x_StillCalled_fv : PySem.W.findIn K (.ref z_StillCalled) "name" = some none)
    (x_NothingToUndo_cls : K.lookup z_NothingToUndo = some (excClassObj nm_z_NothingToUndo q_z_NothingToUndo z_NothingToUndo N_z_NothingToUndo bs_z_NothingToUndo bm_z_NothingToUndo true sn_z_NothingToUndo sub_z_NothingToUndo ab_z_NothingToUndo col_z_NothingToUndo dd_z_NothingToUndo k0_z_NothingToUndo k1_z_NothingToUndo k2_z_NothingToUndo k3_z_NothingToUndo k5_z_NothingToUndo "LookupError.__new__"))
    (x_NothingToUndo_bm : ownB BK.le.tail bm_z_NothingToUndo = true)
    (x_NothingToUndo_sa : PySem.W.findIn K (.ref z_NothingToUndo) "__setattr__" = some (some (.builtin "object.__setattr__")))
    (x_NothingToUndo_ga : PySem.W.findIn K (.ref z_NothingToUndo) "__getattribute__" = some (some (.builtin "BaseException.__getattribute__")))
    (x_NothingToUndo_gg : PySem.W.findIn K (.ref z_NothingToUndo) "__getattr__" = some none)
    (x_NothingToUndo_ex : PySem.W.subIn K (.ref z_NothingToUndo) (.type "BaseException") = some true)
    (x_NothingToUndo_ty : PySem.W.typeIn K (.ref z_NothingToUndo) = some (.type "type"))
    (x_NothingToUndo_kp : PySem.W.keepIn K (.ref z_NothingToUndo) = true)
    (x_NothingToUndo_hd : PySem.W.hasDictIn K z_NothingToUndo = true)
    (x_NothingToUndo_ca : PySem.W.findIn K (.ref z_NothingToUndo) "__class__" = some (some (.builtin "object.__class__")))
    (x_NothingToUndo_cg : PySem.W.specialIn K (.builtin "object.__class__") "__get__" = some (some (.builtin "getset_descriptor.__get__")))
    (x_NothingToUndo_ct : PySem.W.takesIn K (.builtin "object.__class__") = some true)
    (x_NothingToUndo_mo : PySem.W.mroIn K z_NothingToUndo (.type "object") = some true)
    (y_NothingToUndo_bv : bm_z_NothingToUndo = Value.ref z_StateError :: BK.tail .le)
    (x_NothingToRedo_cls : K.lookup z_NothingToRedo = some (excClassObj nm_z_NothingToRedo q_z_NothingToRedo z_NothingToRedo N_z_NothingToRedo bs_z_NothingToRedo bm_z_NothingToRedo true sn_z_NothingToRedo sub_z_NothingToRedo ab_z_NothingToRedo col_z_NothingToRedo dd_z_NothingToRedo k0_z_NothingToRedo k1_z_NothingToRedo k2_z_NothingToRedo k3_z_NothingToRedo k5_z_NothingToRedo "LookupError.__new__"))
    (x_NothingToRedo_bm : ownB BK.le.tail bm_z_NothingToRedo = true)
    (x_NothingToRedo_sa : PySem.W.findIn K (.ref z_NothingToRedo) "__setattr__" = some (some (.builtin "object.__setattr__")))
    (x_NothingToRedo_ga : PySem.W.findIn K (.ref z_NothingToRedo) "__getattribute__" = some (some (.builtin "BaseException.__getattribute__")))
    (x_NothingToRedo_gg : PySem.W.findIn K (.ref z_NothingToRedo) "__getattr__" = some none)
    (x_NothingToRedo_ex : PySem.W.subIn K (.ref z_NothingToRedo) (.type "BaseException") = some true)
    (x_NothingToRedo_ty : PySem.W.typeIn K (.ref z_NothingToRedo) = some (.type "type"))
    (x_NothingToRedo_kp : PySem.W.keepIn K (.ref z_NothingToRedo) = true)
    (x_NothingToRedo_hd : PySem.W.hasDictIn K z_NothingToRedo = true)
    (x_NothingToRedo_ca : PySem.W.findIn K (.ref z_NothingToRedo) "__class__" = some (some (.builtin "object.__class__")))
    (x_NothingToRedo_cg : PySem.W.specialIn K (.builtin "object.__class__") "__get__" = some (some (.builtin "getset_descriptor.__get__")))
    (x_NothingToRedo_ct : PySem.W.takesIn K (.builtin "object.__class__") = some true)
    (x_NothingToRedo_mo : PySem.W.mroIn K z_NothingToRedo (.type "object") = some true)
    (y_NothingToRedo_bv : bm_z_NothingToRedo = Value.ref z_StateError :: BK.tail .le)
    (x_nd : [z_CaughtError, z_AbsentError, z_StateError, z_InvalidName, z_InvalidTerm, z_InvalidBody, z_InvalidProgram, z_InvalidParameters, z_InvalidTemplate, z_InvalidCall, z_InvalidBook, z_InvalidChoice, z_InvalidFillings, z_InvalidSite, z_InvalidTables, z_InvalidMeaning, z_InvalidText, z_InvalidLine, z_InvalidLines, z_InvalidMode, z_InvalidLetter, z_UnlikeParameters, z_Duplicate, z_Reserved, z_TooLarge, z_InvalidRow, z_UnknownTemplate, z_UnknownHole, z_UnknownBinder, z_StillCalled, z_NothingToUndo, z_NothingToRedo].Nodup)
    (b_len : PySem.W.nsIn K mainGlobals "len" = some none)
    (b_max : PySem.W.nsIn K mainGlobals "max" = some none)
    (b_min : PySem.W.nsIn K mainGlobals "min" = some none)
    (b_isinstance : PySem.W.nsIn K mainGlobals "isinstance" = some none)
    (b_range : PySem.W.nsIn K mainGlobals "range" = some none)
    (b_repr : PySem.W.nsIn K mainGlobals "repr" = some none)
    (b_enumerate : PySem.W.nsIn K mainGlobals "enumerate" = some none)
    (b_list : PySem.W.nsIn K mainGlobals "list" = some none)
    (b_dict : PySem.W.nsIn K mainGlobals "dict" = some none)
    (b_ValueError : PySem.W.nsIn K mainGlobals "ValueError" = some none)
    (b_KeyError : PySem.W.nsIn K mainGlobals "KeyError" = some none)
    (b_LookupError : PySem.W.nsIn K mainGlobals "LookupError" = some none) :
    ∃ a : Ad, Txt K mg a :=
  ⟨{ f_InvalidName___init__ := f1, d_InvalidName___init__ := PySem.W.fnOf "__init__" "InvalidName.__init__" (defArgs s_InvalidName___init__) (defBody s_InvalidName___init__) (defScope s_InvalidName___init__) .none kV1 dc1 pm1 an1 cd1 ct1,
      f_InvalidTerm___init__ := f2, d_InvalidTerm___init__ := PySem.W.fnOf "__init__" "InvalidTerm.__init__" (defArgs s_InvalidTerm___init__) (defBody s_InvalidTerm___init__) (defScope s_InvalidTerm___init__) .none kV2 dc2 pm2 an2 cd2 ct2,
      f_InvalidBody___init__ := f3, d_InvalidBody___init__ := PySem.W.fnOf "__init__" "InvalidBody.__init__" (defArgs s_InvalidBody___init__) (defBody s_InvalidBody___init__) (defScope s_InvalidBody___init__) .none kV3 dc3 pm3 an3 cd3 ct3,
      f_InvalidProgram___init__ := f4, d_InvalidProgram___init__ := PySem.W.fnOf "__init__" "InvalidProgram.__init__" (defArgs s_InvalidProgram___init__) (defBody s_InvalidProgram___init__) (defScope s_InvalidProgram___init__) .none kV4 dc4 pm4 an4 cd4 ct4,
      f_InvalidParameters___init__ := f5, d_InvalidParameters___init__ := PySem.W.fnOf "__init__" "InvalidParameters.__init__" (defArgs s_InvalidParameters___init__) (defBody s_InvalidParameters___init__) (defScope s_InvalidParameters___init__) .none kV5 dc5 pm5 an5 cd5 ct5,
      f_InvalidTemplate___init__ := f6, d_InvalidTemplate___init__ := PySem.W.fnOf "__init__" "InvalidTemplate.__init__" (defArgs s_InvalidTemplate___init__) (defBody s_InvalidTemplate___init__) (defScope s_InvalidTemplate___init__) .none kV6 dc6 pm6 an6 cd6 ct6,
      f_InvalidCall___init__ := f7, d_InvalidCall___init__ := PySem.W.fnOf "__init__" "InvalidCall.__init__" (defArgs s_InvalidCall___init__) (defBody s_InvalidCall___init__) (defScope s_InvalidCall___init__) .none kV7 dc7 pm7 an7 cd7 ct7,
      f_InvalidBook___init__ := f8, d_InvalidBook___init__ := PySem.W.fnOf "__init__" "InvalidBook.__init__" (defArgs s_InvalidBook___init__) (defBody s_InvalidBook___init__) (defScope s_InvalidBook___init__) .none kV8 dc8 pm8 an8 cd8 ct8,
      f_InvalidChoice___init__ := f9, d_InvalidChoice___init__ := PySem.W.fnOf "__init__" "InvalidChoice.__init__" (defArgs s_InvalidChoice___init__) (defBody s_InvalidChoice___init__) (defScope s_InvalidChoice___init__) .none kV9 dc9 pm9 an9 cd9 ct9,
      f_InvalidFillings___init__ := f10, d_InvalidFillings___init__ := PySem.W.fnOf "__init__" "InvalidFillings.__init__" (defArgs s_InvalidFillings___init__) (defBody s_InvalidFillings___init__) (defScope s_InvalidFillings___init__) .none kV10 dc10 pm10 an10 cd10 ct10,
      f_InvalidSite___init__ := f11, d_InvalidSite___init__ := PySem.W.fnOf "__init__" "InvalidSite.__init__" (defArgs s_InvalidSite___init__) (defBody s_InvalidSite___init__) (defScope s_InvalidSite___init__) .none kV11 dc11 pm11 an11 cd11 ct11,
      f_InvalidTables___init__ := f12, d_InvalidTables___init__ := PySem.W.fnOf "__init__" "InvalidTables.__init__" (defArgs s_InvalidTables___init__) (defBody s_InvalidTables___init__) (defScope s_InvalidTables___init__) .none kV12 dc12 pm12 an12 cd12 ct12,
      f_InvalidMeaning___init__ := f13, d_InvalidMeaning___init__ := PySem.W.fnOf "__init__" "InvalidMeaning.__init__" (defArgs s_InvalidMeaning___init__) (defBody s_InvalidMeaning___init__) (defScope s_InvalidMeaning___init__) .none kV13 dc13 pm13 an13 cd13 ct13,
      f_InvalidText___init__ := f14, d_InvalidText___init__ := PySem.W.fnOf "__init__" "InvalidText.__init__" (defArgs s_InvalidText___init__) (defBody s_InvalidText___init__) (defScope s_InvalidText___init__) .none kV14 dc14 pm14 an14 cd14 ct14,
      f_InvalidLine___init__ := f15, d_InvalidLine___init__ := PySem.W.fnOf "__init__" "InvalidLine.__init__" (defArgs s_InvalidLine___init__) (defBody s_InvalidLine___init__) (defScope s_InvalidLine___init__) .none kV15 dc15 pm15 an15 cd15 ct15,
      f_InvalidLines___init__ := f16, d_InvalidLines___init__ := PySem.W.fnOf "__init__" "InvalidLines.__init__" (defArgs s_InvalidLines___init__) (defBody s_InvalidLines___init__) (defScope s_InvalidLines___init__) .none kV16 dc16 pm16 an16 cd16 ct16,
      f_InvalidMode___init__ := f17, d_InvalidMode___init__ := PySem.W.fnOf "__init__" "InvalidMode.__init__" (defArgs s_InvalidMode___init__) (defBody s_InvalidMode___init__) (defScope s_InvalidMode___init__) .none kV17 dc17 pm17 an17 cd17 ct17,
      f_InvalidLetter___init__ := f18, d_InvalidLetter___init__ := PySem.W.fnOf "__init__" "InvalidLetter.__init__" (defArgs s_InvalidLetter___init__) (defBody s_InvalidLetter___init__) (defScope s_InvalidLetter___init__) .none kV18 dc18 pm18 an18 cd18 ct18,
      f_UnlikeParameters___init__ := f19, d_UnlikeParameters___init__ := PySem.W.fnOf "__init__" "UnlikeParameters.__init__" (defArgs s_UnlikeParameters___init__) (defBody s_UnlikeParameters___init__) (defScope s_UnlikeParameters___init__) .none kV19 dc19 pm19 an19 cd19 ct19,
      f_Duplicate___init__ := f20, d_Duplicate___init__ := PySem.W.fnOf "__init__" "Duplicate.__init__" (defArgs s_Duplicate___init__) (defBody s_Duplicate___init__) (defScope s_Duplicate___init__) .none kV20 dc20 pm20 an20 cd20 ct20,
      f_Reserved___init__ := f21, d_Reserved___init__ := PySem.W.fnOf "__init__" "Reserved.__init__" (defArgs s_Reserved___init__) (defBody s_Reserved___init__) (defScope s_Reserved___init__) .none kV21 dc21 pm21 an21 cd21 ct21,
      f_TooLarge___init__ := f22, d_TooLarge___init__ := PySem.W.fnOf "__init__" "TooLarge.__init__" (defArgs s_TooLarge___init__) (defBody s_TooLarge___init__) (defScope s_TooLarge___init__) .none kV22 dc22 pm22 an22 cd22 ct22,
      f_InvalidRow___init__ := f23, d_InvalidRow___init__ := PySem.W.fnOf "__init__" "InvalidRow.__init__" (defArgs s_InvalidRow___init__) (defBody s_InvalidRow___init__) (defScope s_InvalidRow___init__) .none kV23 dc23 pm23 an23 cd23 ct23,
      f_UnknownTemplate___init__ := f24, d_UnknownTemplate___init__ := PySem.W.fnOf "__init__" "UnknownTemplate.__init__" (defArgs s_UnknownTemplate___init__) (defBody s_UnknownTemplate___init__) (defScope s_UnknownTemplate___init__) .none kV24 dc24 pm24 an24 cd24 ct24,
      f_UnknownHole___init__ := f25, d_UnknownHole___init__ := PySem.W.fnOf "__init__" "UnknownHole.__init__" (defArgs s_UnknownHole___init__) (defBody s_UnknownHole___init__) (defScope s_UnknownHole___init__) .none kV25 dc25 pm25 an25 cd25 ct25,
      f_UnknownBinder___init__ := f26, d_UnknownBinder___init__ := PySem.W.fnOf "__init__" "UnknownBinder.__init__" (defArgs s_UnknownBinder___init__) (defBody s_UnknownBinder___init__) (defScope s_UnknownBinder___init__) .none kV26 dc26 pm26 an26 cd26 ct26,
      f_StillCalled___init__ := f27, d_StillCalled___init__ := PySem.W.fnOf "__init__" "StillCalled.__init__" (defArgs s_StillCalled___init__) (defBody s_StillCalled___init__) (defScope s_StillCalled___init__) .none kV27 dc27 pm27 an27 cd27 ct27,
      f_NothingToUndo___init__ := f28, d_NothingToUndo___init__ := PySem.W.fnOf "__init__" "NothingToUndo.__init__" (defArgs s_NothingToUndo___init__) (defBody s_NothingToUndo___init__) (defScope s_NothingToUndo___init__) .none kV28 dc28 pm28 an28 cd28 ct28,
      f_NothingToRedo___init__ := f29, d_NothingToRedo___init__ := PySem.W.fnOf "__init__" "NothingToRedo.__init__" (defArgs s_NothingToRedo___init__) (defBody s_NothingToRedo___init__) (defScope s_NothingToRedo___init__) .none kV29 dc29 pm29 an29 cd29 ct29,
      f__law_cell := f30, d__law_cell := PySem.W.fnOf "_law_cell" "_law_cell" (defArgs s__law_cell) (defBody s__law_cell) (defScope s__law_cell) .none kV30 dc30 pm30 an30 cd30 ct30,
      f__law_box := f31, d__law_box := PySem.W.fnOf "_law_box" "_law_box" (defArgs s__law_box) (defBody s__law_box) (defScope s__law_box) .none kV31 dc31 pm31 an31 cd31 ct31,
      f__law_take := f32, d__law_take := PySem.W.fnOf "_law_take" "_law_take" (defArgs s__law_take) (defBody s__law_take) (defScope s__law_take) .none kV32 dc32 pm32 an32 cd32 ct32,
      f__law_value := f33, d__law_value := PySem.W.fnOf "_law_value" "_law_value" (defArgs s__law_value) (defBody s__law_value) (defScope s__law_value) .none kV33 dc33 pm33 an33 cd33 ct33,
      f__law_made := f34, d__law_made := PySem.W.fnOf "_law_made" "_law_made" (defArgs s__law_made) (defBody s__law_made) (defScope s__law_made) .none kV34 dc34 pm34 an34 cd34 ct34,
      f__law_field := f35, d__law_field := PySem.W.fnOf "_law_field" "_law_field" (defArgs s__law_field) (defBody s__law_field) (defScope s__law_field) .none kV35 dc35 pm35 an35 cd35 ct35,
      f__law_kinds := f36, d__law_kinds := PySem.W.fnOf "_law_kinds" "_law_kinds" (defArgs s__law_kinds) (defBody s__law_kinds) (defScope s__law_kinds) .none kV36 dc36 pm36 an36 cd36 ct36,
      f__law_bases := f37, d__law_bases := PySem.W.fnOf "_law_bases" "_law_bases" (defArgs s__law_bases) (defBody s__law_bases) (defScope s__law_bases) .none kV37 dc37 pm37 an37 cd37 ct37,
      f__law_due := f38, d__law_due := PySem.W.fnOf "_law_due" "_law_due" (defArgs s__law_due) (defBody s__law_due) (defScope s__law_due) .none kV38 dc38 pm38 an38 cd38 ct38,
      f_law := f39, d_law := PySem.W.fnOf "law" "law" (defArgs s_law) (defBody s_law) (defScope s_law) .none kV39 dc39 pm39 an39 cd39 ct39,
      c_CaughtError := z_CaughtError,
      c_AbsentError := z_AbsentError,
      c_StateError := z_StateError,
      c_InvalidName := z_InvalidName,
      c_InvalidTerm := z_InvalidTerm,
      c_InvalidBody := z_InvalidBody,
      c_InvalidProgram := z_InvalidProgram,
      c_InvalidParameters := z_InvalidParameters,
      c_InvalidTemplate := z_InvalidTemplate,
      c_InvalidCall := z_InvalidCall,
      c_InvalidBook := z_InvalidBook,
      c_InvalidChoice := z_InvalidChoice,
      c_InvalidFillings := z_InvalidFillings,
      c_InvalidSite := z_InvalidSite,
      c_InvalidTables := z_InvalidTables,
      c_InvalidMeaning := z_InvalidMeaning,
      c_InvalidText := z_InvalidText,
      c_InvalidLine := z_InvalidLine,
      c_InvalidLines := z_InvalidLines,
      c_InvalidMode := z_InvalidMode,
      c_InvalidLetter := z_InvalidLetter,
      c_UnlikeParameters := z_UnlikeParameters,
      c_Duplicate := z_Duplicate,
      c_Reserved := z_Reserved,
      c_TooLarge := z_TooLarge,
      c_InvalidRow := z_InvalidRow,
      c_UnknownTemplate := z_UnknownTemplate,
      c_UnknownHole := z_UnknownHole,
      c_UnknownBinder := z_UnknownBinder,
      c_StillCalled := z_StillCalled,
      c_NothingToUndo := z_NothingToUndo,
      c_NothingToRedo := z_NothingToRedo },
   { F_InvalidName___init__ := fun_mk (st := s_InvalidName___init__) l1 c1 k1,
      bi_InvalidName___init__ := (fun_mk (st := s_InvalidName___init__) l1 c1 k1).binds (ps := ["self", "value"]) fun _ _ _ _ _ _ us hl => match us, hl with | [_, _], _ => rfl,
      i_InvalidName___init__ := a1,
      ty_InvalidName___init__ := ty1,
      F_InvalidTerm___init__ := fun_mk (st := s_InvalidTerm___init__) l2 c2 k2,
      bi_InvalidTerm___init__ := (fun_mk (st := s_InvalidTerm___init__) l2 c2 k2).binds (ps := ["self", "value"]) fun _ _ _ _ _ _ us hl => match us, hl with | [_, _], _ => rfl,
      i_InvalidTerm___init__ := a2,
      ty_InvalidTerm___init__ := ty2,
      F_InvalidBody___init__ := fun_mk (st := s_InvalidBody___init__) l3 c3 k3,
      bi_InvalidBody___init__ := (fun_mk (st := s_InvalidBody___init__) l3 c3 k3).binds (ps := ["self", "value"]) fun _ _ _ _ _ _ us hl => match us, hl with | [_, _], _ => rfl,
      i_InvalidBody___init__ := a3,
      ty_InvalidBody___init__ := ty3,
      F_InvalidProgram___init__ := fun_mk (st := s_InvalidProgram___init__) l4 c4 k4,
      bi_InvalidProgram___init__ := (fun_mk (st := s_InvalidProgram___init__) l4 c4 k4).binds (ps := ["self", "value"]) fun _ _ _ _ _ _ us hl => match us, hl with | [_, _], _ => rfl,
      i_InvalidProgram___init__ := a4,
      ty_InvalidProgram___init__ := ty4,
      F_InvalidParameters___init__ := fun_mk (st := s_InvalidParameters___init__) l5 c5 k5,
      bi_InvalidParameters___init__ := (fun_mk (st := s_InvalidParameters___init__) l5 c5 k5).binds (ps := ["self", "value"]) fun _ _ _ _ _ _ us hl => match us, hl with | [_, _], _ => rfl,
      i_InvalidParameters___init__ := a5,
      ty_InvalidParameters___init__ := ty5,
      F_InvalidTemplate___init__ := fun_mk (st := s_InvalidTemplate___init__) l6 c6 k6,
      bi_InvalidTemplate___init__ := (fun_mk (st := s_InvalidTemplate___init__) l6 c6 k6).binds (ps := ["self", "value"]) fun _ _ _ _ _ _ us hl => match us, hl with | [_, _], _ => rfl,
      i_InvalidTemplate___init__ := a6,
      ty_InvalidTemplate___init__ := ty6,
      F_InvalidCall___init__ := fun_mk (st := s_InvalidCall___init__) l7 c7 k7,
      bi_InvalidCall___init__ := (fun_mk (st := s_InvalidCall___init__) l7 c7 k7).binds (ps := ["self", "value"]) fun _ _ _ _ _ _ us hl => match us, hl with | [_, _], _ => rfl,
      i_InvalidCall___init__ := a7,
      ty_InvalidCall___init__ := ty7,
      F_InvalidBook___init__ := fun_mk (st := s_InvalidBook___init__) l8 c8 k8,
      bi_InvalidBook___init__ := (fun_mk (st := s_InvalidBook___init__) l8 c8 k8).binds (ps := ["self", "value"]) fun _ _ _ _ _ _ us hl => match us, hl with | [_, _], _ => rfl,
      i_InvalidBook___init__ := a8,
      ty_InvalidBook___init__ := ty8,
      F_InvalidChoice___init__ := fun_mk (st := s_InvalidChoice___init__) l9 c9 k9,
      bi_InvalidChoice___init__ := (fun_mk (st := s_InvalidChoice___init__) l9 c9 k9).binds (ps := ["self", "value"]) fun _ _ _ _ _ _ us hl => match us, hl with | [_, _], _ => rfl,
      i_InvalidChoice___init__ := a9,
      ty_InvalidChoice___init__ := ty9,
      F_InvalidFillings___init__ := fun_mk (st := s_InvalidFillings___init__) l10 c10 k10,
      bi_InvalidFillings___init__ := (fun_mk (st := s_InvalidFillings___init__) l10 c10 k10).binds (ps := ["self", "value"]) fun _ _ _ _ _ _ us hl => match us, hl with | [_, _], _ => rfl,
      i_InvalidFillings___init__ := a10,
      ty_InvalidFillings___init__ := ty10,
      F_InvalidSite___init__ := fun_mk (st := s_InvalidSite___init__) l11 c11 k11,
      bi_InvalidSite___init__ := (fun_mk (st := s_InvalidSite___init__) l11 c11 k11).binds (ps := ["self", "value"]) fun _ _ _ _ _ _ us hl => match us, hl with | [_, _], _ => rfl,
      i_InvalidSite___init__ := a11,
      ty_InvalidSite___init__ := ty11,
      F_InvalidTables___init__ := fun_mk (st := s_InvalidTables___init__) l12 c12 k12,
      bi_InvalidTables___init__ := (fun_mk (st := s_InvalidTables___init__) l12 c12 k12).binds (ps := ["self", "value"]) fun _ _ _ _ _ _ us hl => match us, hl with | [_, _], _ => rfl,
      i_InvalidTables___init__ := a12,
      ty_InvalidTables___init__ := ty12,
      F_InvalidMeaning___init__ := fun_mk (st := s_InvalidMeaning___init__) l13 c13 k13,
      bi_InvalidMeaning___init__ := (fun_mk (st := s_InvalidMeaning___init__) l13 c13 k13).binds (ps := ["self", "value"]) fun _ _ _ _ _ _ us hl => match us, hl with | [_, _], _ => rfl,
      i_InvalidMeaning___init__ := a13,
      ty_InvalidMeaning___init__ := ty13,
      F_InvalidText___init__ := fun_mk (st := s_InvalidText___init__) l14 c14 k14,
      bi_InvalidText___init__ := (fun_mk (st := s_InvalidText___init__) l14 c14 k14).binds (ps := ["self", "value"]) fun _ _ _ _ _ _ us hl => match us, hl with | [_, _], _ => rfl,
      i_InvalidText___init__ := a14,
      ty_InvalidText___init__ := ty14,
      F_InvalidLine___init__ := fun_mk (st := s_InvalidLine___init__) l15 c15 k15,
      bi_InvalidLine___init__ := (fun_mk (st := s_InvalidLine___init__) l15 c15 k15).binds (ps := ["self", "value"]) fun _ _ _ _ _ _ us hl => match us, hl with | [_, _], _ => rfl,
      i_InvalidLine___init__ := a15,
      ty_InvalidLine___init__ := ty15,
      F_InvalidLines___init__ := fun_mk (st := s_InvalidLines___init__) l16 c16 k16,
      bi_InvalidLines___init__ := (fun_mk (st := s_InvalidLines___init__) l16 c16 k16).binds (ps := ["self", "value"]) fun _ _ _ _ _ _ us hl => match us, hl with | [_, _], _ => rfl,
      i_InvalidLines___init__ := a16,
      ty_InvalidLines___init__ := ty16,
      F_InvalidMode___init__ := fun_mk (st := s_InvalidMode___init__) l17 c17 k17,
      bi_InvalidMode___init__ := (fun_mk (st := s_InvalidMode___init__) l17 c17 k17).binds (ps := ["self", "value"]) fun _ _ _ _ _ _ us hl => match us, hl with | [_, _], _ => rfl,
      i_InvalidMode___init__ := a17,
      ty_InvalidMode___init__ := ty17,
      F_InvalidLetter___init__ := fun_mk (st := s_InvalidLetter___init__) l18 c18 k18,
      bi_InvalidLetter___init__ := (fun_mk (st := s_InvalidLetter___init__) l18 c18 k18).binds (ps := ["self", "value"]) fun _ _ _ _ _ _ us hl => match us, hl with | [_, _], _ => rfl,
      i_InvalidLetter___init__ := a18,
      ty_InvalidLetter___init__ := ty18,
      F_UnlikeParameters___init__ := fun_mk (st := s_UnlikeParameters___init__) l19 c19 k19,
      bi_UnlikeParameters___init__ := (fun_mk (st := s_UnlikeParameters___init__) l19 c19 k19).binds (ps := ["self", "value"]) fun _ _ _ _ _ _ us hl => match us, hl with | [_, _], _ => rfl,
      i_UnlikeParameters___init__ := a19,
      ty_UnlikeParameters___init__ := ty19,
      F_Duplicate___init__ := fun_mk (st := s_Duplicate___init__) l20 c20 k20,
      bi_Duplicate___init__ := (fun_mk (st := s_Duplicate___init__) l20 c20 k20).binds (ps := ["self", "name"]) fun _ _ _ _ _ _ us hl => match us, hl with | [_, _], _ => rfl,
      i_Duplicate___init__ := a20,
      ty_Duplicate___init__ := ty20,
      F_Reserved___init__ := fun_mk (st := s_Reserved___init__) l21 c21 k21,
      bi_Reserved___init__ := (fun_mk (st := s_Reserved___init__) l21 c21 k21).binds (ps := ["self", "name"]) fun _ _ _ _ _ _ us hl => match us, hl with | [_, _], _ => rfl,
      i_Reserved___init__ := a21,
      ty_Reserved___init__ := ty21,
      F_TooLarge___init__ := fun_mk (st := s_TooLarge___init__) l22 c22 k22,
      bi_TooLarge___init__ := (fun_mk (st := s_TooLarge___init__) l22 c22 k22).binds (ps := ["self", "count"]) fun _ _ _ _ _ _ us hl => match us, hl with | [_, _], _ => rfl,
      i_TooLarge___init__ := a22,
      ty_TooLarge___init__ := ty22,
      F_InvalidRow___init__ := fun_mk (st := s_InvalidRow___init__) l23 c23 k23,
      bi_InvalidRow___init__ := (fun_mk (st := s_InvalidRow___init__) l23 c23 k23).binds (ps := ["self", "index"]) fun _ _ _ _ _ _ us hl => match us, hl with | [_, _], _ => rfl,
      i_InvalidRow___init__ := a23,
      ty_InvalidRow___init__ := ty23,
      F_UnknownTemplate___init__ := fun_mk (st := s_UnknownTemplate___init__) l24 c24 k24,
      bi_UnknownTemplate___init__ := (fun_mk (st := s_UnknownTemplate___init__) l24 c24 k24).binds (ps := ["self", "name"]) fun _ _ _ _ _ _ us hl => match us, hl with | [_, _], _ => rfl,
      i_UnknownTemplate___init__ := a24,
      ty_UnknownTemplate___init__ := ty24,
      F_UnknownHole___init__ := fun_mk (st := s_UnknownHole___init__) l25 c25 k25,
      bi_UnknownHole___init__ := (fun_mk (st := s_UnknownHole___init__) l25 c25 k25).binds (ps := ["self", "name"]) fun _ _ _ _ _ _ us hl => match us, hl with | [_, _], _ => rfl,
      i_UnknownHole___init__ := a25,
      ty_UnknownHole___init__ := ty25,
      F_UnknownBinder___init__ := fun_mk (st := s_UnknownBinder___init__) l26 c26 k26,
      bi_UnknownBinder___init__ := (fun_mk (st := s_UnknownBinder___init__) l26 c26 k26).binds (ps := ["self", "number"]) fun _ _ _ _ _ _ us hl => match us, hl with | [_, _], _ => rfl,
      i_UnknownBinder___init__ := a26,
      ty_UnknownBinder___init__ := ty26,
      F_StillCalled___init__ := fun_mk (st := s_StillCalled___init__) l27 c27 k27,
      bi_StillCalled___init__ := (fun_mk (st := s_StillCalled___init__) l27 c27 k27).binds (ps := ["self", "name"]) fun _ _ _ _ _ _ us hl => match us, hl with | [_, _], _ => rfl,
      i_StillCalled___init__ := a27,
      ty_StillCalled___init__ := ty27,
      F_NothingToUndo___init__ := fun_mk (st := s_NothingToUndo___init__) l28 c28 k28,
      bi_NothingToUndo___init__ := (fun_mk (st := s_NothingToUndo___init__) l28 c28 k28).binds (ps := ["self"]) fun _ _ _ _ _ _ us hl => match us, hl with | [_], _ => rfl,
      i_NothingToUndo___init__ := a28,
      ty_NothingToUndo___init__ := ty28,
      F_NothingToRedo___init__ := fun_mk (st := s_NothingToRedo___init__) l29 c29 k29,
      bi_NothingToRedo___init__ := (fun_mk (st := s_NothingToRedo___init__) l29 c29 k29).binds (ps := ["self"]) fun _ _ _ _ _ _ us hl => match us, hl with | [_], _ => rfl,
      i_NothingToRedo___init__ := a29,
      ty_NothingToRedo___init__ := ty29,
      F__law_cell := fun_mk (st := s__law_cell) l30 c30 k30,
      bi__law_cell := (fun_mk (st := s__law_cell) l30 c30 k30).binds (ps := ["_law_script", "_law_k"]) fun _ _ _ _ _ _ us hl => match us, hl with | [_, _], _ => rfl,
      g__law_cell := PySem.W.mg_of X G a30,
      F__law_box := fun_mk (st := s__law_box) l31 c31 k31,
      bi__law_box := (fun_mk (st := s__law_box) l31 c31 k31).binds (ps := ["_law_cell_here"]) fun _ _ _ _ _ _ us hl => match us, hl with | [_], _ => rfl,
      g__law_box := PySem.W.mg_of X G a31,
      F__law_take := fun_mk (st := s__law_take) l32 c32 k32,
      bi__law_take := (fun_mk (st := s__law_take) l32 c32 k32).binds (ps := ["_law_box_here", "_law_many"]) fun _ _ _ _ _ _ us hl => match us, hl with | [_, _], _ => rfl,
      g__law_take := PySem.W.mg_of X G a32,
      F__law_value := fun_mk (st := s__law_value) l33 c33 k33,
      bi__law_value := (fun_mk (st := s__law_value) l33 c33 k33).binds (ps := ["_law_box_here"]) fun _ _ _ _ _ _ us hl => match us, hl with | [_], _ => rfl,
      g__law_value := PySem.W.mg_of X G a33,
      F__law_made := fun_mk (st := s__law_made) l34 c34 k34,
      bi__law_made := (fun_mk (st := s__law_made) l34 c34 k34).binds (ps := ["_law_value_here"]) fun _ _ _ _ _ _ us hl => match us, hl with | [_], _ => rfl,
      g__law_made := PySem.W.mg_of X G a34,
      F__law_field := fun_mk (st := s__law_field) l35 c35 k35,
      bi__law_field := (fun_mk (st := s__law_field) l35 c35 k35).binds (ps := ["_law_error", "_law_k"]) fun _ _ _ _ _ _ us hl => match us, hl with | [_, _], _ => rfl,
      g__law_field := PySem.W.mg_of X G a35,
      F__law_kinds := fun_mk (st := s__law_kinds) l36 c36 k36,
      bi__law_kinds := (fun_mk (st := s__law_kinds) l36 c36 k36).binds (ps := ["_law_error"]) fun _ _ _ _ _ _ us hl => match us, hl with | [_], _ => rfl,
      g__law_kinds := PySem.W.mg_of X G a36,
      F__law_bases := fun_mk (st := s__law_bases) l37 c37 k37,
      bi__law_bases := (fun_mk (st := s__law_bases) l37 c37 k37).binds (ps := ["_law_error"]) fun _ _ _ _ _ _ us hl => match us, hl with | [_], _ => rfl,
      g__law_bases := PySem.W.mg_of X G a37,
      F__law_due := fun_mk (st := s__law_due) l38 c38 k38,
      bi__law_due := (fun_mk (st := s__law_due) l38 c38 k38).binds (ps := ["_law_k"]) fun _ _ _ _ _ _ us hl => match us, hl with | [_], _ => rfl,
      g__law_due := PySem.W.mg_of X G a38,
      F_law := fun_mk (st := s_law) l39 c39 k39,
      bi_law := (fun_mk (st := s_law) l39 c39 k39).binds (ps := ["_law_script"]) fun _ _ _ _ _ _ us hl => match us, hl with | [_], _ => rfl,
      g_law := PySem.W.mg_of X G a39,
      lb := fun _ _ => .of_eq rfl,
      g_CaughtError := PySem.W.mg_of X G h_CaughtError,
      ox_CaughtError := ⟨⟨_, _, _, _, _, _, _, _, _, _, _, _, _, _, _, x_CaughtError_cls, x_CaughtError_bm⟩, x_CaughtError_sa, x_CaughtError_ex, x_CaughtError_ty, x_CaughtError_kp⟩,
      ini_CaughtError := x_CaughtError_ini,
      xv_CaughtError := ExV.mk' h_CaughtError ⟨x_CaughtError_ga, x_CaughtError_gg, x_CaughtError_ex, x_CaughtError_hd, x_CaughtError_ca, x_CaughtError_cg, x_CaughtError_ct, x_CaughtError_mo⟩ x_CaughtError_ty x_CaughtError_cls y_CaughtError_bv,
      e_CaughtError := ⟨x_CaughtError_sg, x_CaughtError_rd, x_CaughtError_fc⟩,
      g_AbsentError := PySem.W.mg_of X G h_AbsentError,
      ox_AbsentError := ⟨⟨_, _, _, _, _, _, _, _, _, _, _, _, _, _, _, x_AbsentError_cls, x_AbsentError_bm⟩, x_AbsentError_sa, x_AbsentError_ex, x_AbsentError_ty, x_AbsentError_kp⟩,
      ini_AbsentError := x_AbsentError_ini,
      xv_AbsentError := ExV.mk' h_AbsentError ⟨x_AbsentError_ga, x_AbsentError_gg, x_AbsentError_ex, x_AbsentError_hd, x_AbsentError_ca, x_AbsentError_cg, x_AbsentError_ct, x_AbsentError_mo⟩ x_AbsentError_ty x_AbsentError_cls y_AbsentError_bv,
      e_AbsentError := ⟨x_AbsentError_sg, x_AbsentError_rd, x_AbsentError_fc⟩,
      g_StateError := PySem.W.mg_of X G h_StateError,
      ox_StateError := ⟨⟨_, _, _, _, _, _, _, _, _, _, _, _, _, _, _, x_StateError_cls, x_StateError_bm⟩, x_StateError_sa, x_StateError_ex, x_StateError_ty, x_StateError_kp⟩,
      ini_StateError := x_StateError_ini,
      xv_StateError := ExV.mk' h_StateError ⟨x_StateError_ga, x_StateError_gg, x_StateError_ex, x_StateError_hd, x_StateError_ca, x_StateError_cg, x_StateError_ct, x_StateError_mo⟩ x_StateError_ty x_StateError_cls y_StateError_bv,
      e_StateError := ⟨x_StateError_sg, x_StateError_rd, x_StateError_fc⟩,
      g_InvalidName := PySem.W.mg_of X G h_InvalidName,
      xv_InvalidName := ExV.mk' h_InvalidName ⟨x_InvalidName_ga, x_InvalidName_gg, x_InvalidName_ex, x_InvalidName_hd, x_InvalidName_ca, x_InvalidName_cg, x_InvalidName_ct, x_InvalidName_mo⟩ x_InvalidName_ty x_InvalidName_cls y_InvalidName_bv,
      e_InvalidName := ⟨⟨⟨x_InvalidName_ga, x_InvalidName_gg, x_InvalidName_ex, x_InvalidName_hd, x_InvalidName_ca, x_InvalidName_cg, x_InvalidName_ct, x_InvalidName_mo⟩, x_InvalidName_fv⟩, ⟨⟨_, _, _, _, _, _, _, _, _, _, _, _, _, _, _, x_InvalidName_cls, x_InvalidName_bm⟩, x_InvalidName_sa, x_InvalidName_ex, x_InvalidName_ty, x_InvalidName_kp⟩⟩,
      g_InvalidTerm := PySem.W.mg_of X G h_InvalidTerm,
      xv_InvalidTerm := ExV.mk' h_InvalidTerm ⟨x_InvalidTerm_ga, x_InvalidTerm_gg, x_InvalidTerm_ex, x_InvalidTerm_hd, x_InvalidTerm_ca, x_InvalidTerm_cg, x_InvalidTerm_ct, x_InvalidTerm_mo⟩ x_InvalidTerm_ty x_InvalidTerm_cls y_InvalidTerm_bv,
      e_InvalidTerm := ⟨⟨⟨x_InvalidTerm_ga, x_InvalidTerm_gg, x_InvalidTerm_ex, x_InvalidTerm_hd, x_InvalidTerm_ca, x_InvalidTerm_cg, x_InvalidTerm_ct, x_InvalidTerm_mo⟩, x_InvalidTerm_fv⟩, ⟨⟨_, _, _, _, _, _, _, _, _, _, _, _, _, _, _, x_InvalidTerm_cls, x_InvalidTerm_bm⟩, x_InvalidTerm_sa, x_InvalidTerm_ex, x_InvalidTerm_ty, x_InvalidTerm_kp⟩⟩,
      g_InvalidBody := PySem.W.mg_of X G h_InvalidBody,
      xv_InvalidBody := ExV.mk' h_InvalidBody ⟨x_InvalidBody_ga, x_InvalidBody_gg, x_InvalidBody_ex, x_InvalidBody_hd, x_InvalidBody_ca, x_InvalidBody_cg, x_InvalidBody_ct, x_InvalidBody_mo⟩ x_InvalidBody_ty x_InvalidBody_cls y_InvalidBody_bv,
      e_InvalidBody := ⟨⟨⟨x_InvalidBody_ga, x_InvalidBody_gg, x_InvalidBody_ex, x_InvalidBody_hd, x_InvalidBody_ca, x_InvalidBody_cg, x_InvalidBody_ct, x_InvalidBody_mo⟩, x_InvalidBody_fv⟩, ⟨⟨_, _, _, _, _, _, _, _, _, _, _, _, _, _, _, x_InvalidBody_cls, x_InvalidBody_bm⟩, x_InvalidBody_sa, x_InvalidBody_ex, x_InvalidBody_ty, x_InvalidBody_kp⟩⟩,
      g_InvalidProgram := PySem.W.mg_of X G h_InvalidProgram,
      xv_InvalidProgram := ExV.mk' h_InvalidProgram ⟨x_InvalidProgram_ga, x_InvalidProgram_gg, x_InvalidProgram_ex, x_InvalidProgram_hd, x_InvalidProgram_ca, x_InvalidProgram_cg, x_InvalidProgram_ct, x_InvalidProgram_mo⟩ x_InvalidProgram_ty x_InvalidProgram_cls y_InvalidProgram_bv,
      e_InvalidProgram := ⟨⟨⟨x_InvalidProgram_ga, x_InvalidProgram_gg, x_InvalidProgram_ex, x_InvalidProgram_hd, x_InvalidProgram_ca, x_InvalidProgram_cg, x_InvalidProgram_ct, x_InvalidProgram_mo⟩, x_InvalidProgram_fv⟩, ⟨⟨_, _, _, _, _, _, _, _, _, _, _, _, _, _, _, x_InvalidProgram_cls, x_InvalidProgram_bm⟩, x_InvalidProgram_sa, x_InvalidProgram_ex, x_InvalidProgram_ty, x_InvalidProgram_kp⟩⟩,
      g_InvalidParameters := PySem.W.mg_of X G h_InvalidParameters,
      xv_InvalidParameters := ExV.mk' h_InvalidParameters ⟨x_InvalidParameters_ga, x_InvalidParameters_gg, x_InvalidParameters_ex, x_InvalidParameters_hd, x_InvalidParameters_ca, x_InvalidParameters_cg, x_InvalidParameters_ct, x_InvalidParameters_mo⟩ x_InvalidParameters_ty x_InvalidParameters_cls y_InvalidParameters_bv,
      e_InvalidParameters := ⟨⟨⟨x_InvalidParameters_ga, x_InvalidParameters_gg, x_InvalidParameters_ex, x_InvalidParameters_hd, x_InvalidParameters_ca, x_InvalidParameters_cg, x_InvalidParameters_ct, x_InvalidParameters_mo⟩, x_InvalidParameters_fv⟩, ⟨⟨_, _, _, _, _, _, _, _, _, _, _, _, _, _, _, x_InvalidParameters_cls, x_InvalidParameters_bm⟩, x_InvalidParameters_sa, x_InvalidParameters_ex, x_InvalidParameters_ty, x_InvalidParameters_kp⟩⟩,
      g_InvalidTemplate := PySem.W.mg_of X G h_InvalidTemplate,
      xv_InvalidTemplate := ExV.mk' h_InvalidTemplate ⟨x_InvalidTemplate_ga, x_InvalidTemplate_gg, x_InvalidTemplate_ex, x_InvalidTemplate_hd, x_InvalidTemplate_ca, x_InvalidTemplate_cg, x_InvalidTemplate_ct, x_InvalidTemplate_mo⟩ x_InvalidTemplate_ty x_InvalidTemplate_cls y_InvalidTemplate_bv,
      e_InvalidTemplate := ⟨⟨⟨x_InvalidTemplate_ga, x_InvalidTemplate_gg, x_InvalidTemplate_ex, x_InvalidTemplate_hd, x_InvalidTemplate_ca, x_InvalidTemplate_cg, x_InvalidTemplate_ct, x_InvalidTemplate_mo⟩, x_InvalidTemplate_fv⟩, ⟨⟨_, _, _, _, _, _, _, _, _, _, _, _, _, _, _, x_InvalidTemplate_cls, x_InvalidTemplate_bm⟩, x_InvalidTemplate_sa, x_InvalidTemplate_ex, x_InvalidTemplate_ty, x_InvalidTemplate_kp⟩⟩,
      g_InvalidCall := PySem.W.mg_of X G h_InvalidCall,
      xv_InvalidCall := ExV.mk' h_InvalidCall ⟨x_InvalidCall_ga, x_InvalidCall_gg, x_InvalidCall_ex, x_InvalidCall_hd, x_InvalidCall_ca, x_InvalidCall_cg, x_InvalidCall_ct, x_InvalidCall_mo⟩ x_InvalidCall_ty x_InvalidCall_cls y_InvalidCall_bv,
      e_InvalidCall := ⟨⟨⟨x_InvalidCall_ga, x_InvalidCall_gg, x_InvalidCall_ex, x_InvalidCall_hd, x_InvalidCall_ca, x_InvalidCall_cg, x_InvalidCall_ct, x_InvalidCall_mo⟩, x_InvalidCall_fv⟩, ⟨⟨_, _, _, _, _, _, _, _, _, _, _, _, _, _, _, x_InvalidCall_cls, x_InvalidCall_bm⟩, x_InvalidCall_sa, x_InvalidCall_ex, x_InvalidCall_ty, x_InvalidCall_kp⟩⟩,
      g_InvalidBook := PySem.W.mg_of X G h_InvalidBook,
      xv_InvalidBook := ExV.mk' h_InvalidBook ⟨x_InvalidBook_ga, x_InvalidBook_gg, x_InvalidBook_ex, x_InvalidBook_hd, x_InvalidBook_ca, x_InvalidBook_cg, x_InvalidBook_ct, x_InvalidBook_mo⟩ x_InvalidBook_ty x_InvalidBook_cls y_InvalidBook_bv,
      e_InvalidBook := ⟨⟨⟨x_InvalidBook_ga, x_InvalidBook_gg, x_InvalidBook_ex, x_InvalidBook_hd, x_InvalidBook_ca, x_InvalidBook_cg, x_InvalidBook_ct, x_InvalidBook_mo⟩, x_InvalidBook_fv⟩, ⟨⟨_, _, _, _, _, _, _, _, _, _, _, _, _, _, _, x_InvalidBook_cls, x_InvalidBook_bm⟩, x_InvalidBook_sa, x_InvalidBook_ex, x_InvalidBook_ty, x_InvalidBook_kp⟩⟩,
      g_InvalidChoice := PySem.W.mg_of X G h_InvalidChoice,
      xv_InvalidChoice := ExV.mk' h_InvalidChoice ⟨x_InvalidChoice_ga, x_InvalidChoice_gg, x_InvalidChoice_ex, x_InvalidChoice_hd, x_InvalidChoice_ca, x_InvalidChoice_cg, x_InvalidChoice_ct, x_InvalidChoice_mo⟩ x_InvalidChoice_ty x_InvalidChoice_cls y_InvalidChoice_bv,
      e_InvalidChoice := ⟨⟨⟨x_InvalidChoice_ga, x_InvalidChoice_gg, x_InvalidChoice_ex, x_InvalidChoice_hd, x_InvalidChoice_ca, x_InvalidChoice_cg, x_InvalidChoice_ct, x_InvalidChoice_mo⟩, x_InvalidChoice_fv⟩, ⟨⟨_, _, _, _, _, _, _, _, _, _, _, _, _, _, _, x_InvalidChoice_cls, x_InvalidChoice_bm⟩, x_InvalidChoice_sa, x_InvalidChoice_ex, x_InvalidChoice_ty, x_InvalidChoice_kp⟩⟩,
      g_InvalidFillings := PySem.W.mg_of X G h_InvalidFillings,
      xv_InvalidFillings := ExV.mk' h_InvalidFillings ⟨x_InvalidFillings_ga, x_InvalidFillings_gg, x_InvalidFillings_ex, x_InvalidFillings_hd, x_InvalidFillings_ca, x_InvalidFillings_cg, x_InvalidFillings_ct, x_InvalidFillings_mo⟩ x_InvalidFillings_ty x_InvalidFillings_cls y_InvalidFillings_bv,
      e_InvalidFillings := ⟨⟨⟨x_InvalidFillings_ga, x_InvalidFillings_gg, x_InvalidFillings_ex, x_InvalidFillings_hd, x_InvalidFillings_ca, x_InvalidFillings_cg, x_InvalidFillings_ct, x_InvalidFillings_mo⟩, x_InvalidFillings_fv⟩, ⟨⟨_, _, _, _, _, _, _, _, _, _, _, _, _, _, _, x_InvalidFillings_cls, x_InvalidFillings_bm⟩, x_InvalidFillings_sa, x_InvalidFillings_ex, x_InvalidFillings_ty, x_InvalidFillings_kp⟩⟩,
      g_InvalidSite := PySem.W.mg_of X G h_InvalidSite,
      xv_InvalidSite := ExV.mk' h_InvalidSite ⟨x_InvalidSite_ga, x_InvalidSite_gg, x_InvalidSite_ex, x_InvalidSite_hd, x_InvalidSite_ca, x_InvalidSite_cg, x_InvalidSite_ct, x_InvalidSite_mo⟩ x_InvalidSite_ty x_InvalidSite_cls y_InvalidSite_bv,
      e_InvalidSite := ⟨⟨⟨x_InvalidSite_ga, x_InvalidSite_gg, x_InvalidSite_ex, x_InvalidSite_hd, x_InvalidSite_ca, x_InvalidSite_cg, x_InvalidSite_ct, x_InvalidSite_mo⟩, x_InvalidSite_fv⟩, ⟨⟨_, _, _, _, _, _, _, _, _, _, _, _, _, _, _, x_InvalidSite_cls, x_InvalidSite_bm⟩, x_InvalidSite_sa, x_InvalidSite_ex, x_InvalidSite_ty, x_InvalidSite_kp⟩⟩,
      g_InvalidTables := PySem.W.mg_of X G h_InvalidTables,
      xv_InvalidTables := ExV.mk' h_InvalidTables ⟨x_InvalidTables_ga, x_InvalidTables_gg, x_InvalidTables_ex, x_InvalidTables_hd, x_InvalidTables_ca, x_InvalidTables_cg, x_InvalidTables_ct, x_InvalidTables_mo⟩ x_InvalidTables_ty x_InvalidTables_cls y_InvalidTables_bv,
      e_InvalidTables := ⟨⟨⟨x_InvalidTables_ga, x_InvalidTables_gg, x_InvalidTables_ex, x_InvalidTables_hd, x_InvalidTables_ca, x_InvalidTables_cg, x_InvalidTables_ct, x_InvalidTables_mo⟩, x_InvalidTables_fv⟩, ⟨⟨_, _, _, _, _, _, _, _, _, _, _, _, _, _, _, x_InvalidTables_cls, x_InvalidTables_bm⟩, x_InvalidTables_sa, x_InvalidTables_ex, x_InvalidTables_ty, x_InvalidTables_kp⟩⟩,
      g_InvalidMeaning := PySem.W.mg_of X G h_InvalidMeaning,
      xv_InvalidMeaning := ExV.mk' h_InvalidMeaning ⟨x_InvalidMeaning_ga, x_InvalidMeaning_gg, x_InvalidMeaning_ex, x_InvalidMeaning_hd, x_InvalidMeaning_ca, x_InvalidMeaning_cg, x_InvalidMeaning_ct, x_InvalidMeaning_mo⟩ x_InvalidMeaning_ty x_InvalidMeaning_cls y_InvalidMeaning_bv,
      e_InvalidMeaning := ⟨⟨⟨x_InvalidMeaning_ga, x_InvalidMeaning_gg, x_InvalidMeaning_ex, x_InvalidMeaning_hd, x_InvalidMeaning_ca, x_InvalidMeaning_cg, x_InvalidMeaning_ct, x_InvalidMeaning_mo⟩, x_InvalidMeaning_fv⟩, ⟨⟨_, _, _, _, _, _, _, _, _, _, _, _, _, _, _, x_InvalidMeaning_cls, x_InvalidMeaning_bm⟩, x_InvalidMeaning_sa, x_InvalidMeaning_ex, x_InvalidMeaning_ty, x_InvalidMeaning_kp⟩⟩,
      g_InvalidText := PySem.W.mg_of X G h_InvalidText,
      xv_InvalidText := ExV.mk' h_InvalidText ⟨x_InvalidText_ga, x_InvalidText_gg, x_InvalidText_ex, x_InvalidText_hd, x_InvalidText_ca, x_InvalidText_cg, x_InvalidText_ct, x_InvalidText_mo⟩ x_InvalidText_ty x_InvalidText_cls y_InvalidText_bv,
      e_InvalidText := ⟨⟨⟨x_InvalidText_ga, x_InvalidText_gg, x_InvalidText_ex, x_InvalidText_hd, x_InvalidText_ca, x_InvalidText_cg, x_InvalidText_ct, x_InvalidText_mo⟩, x_InvalidText_fv⟩, ⟨⟨_, _, _, _, _, _, _, _, _, _, _, _, _, _, _, x_InvalidText_cls, x_InvalidText_bm⟩, x_InvalidText_sa, x_InvalidText_ex, x_InvalidText_ty, x_InvalidText_kp⟩⟩,
      g_InvalidLine := PySem.W.mg_of X G h_InvalidLine,
      xv_InvalidLine := ExV.mk' h_InvalidLine ⟨x_InvalidLine_ga, x_InvalidLine_gg, x_InvalidLine_ex, x_InvalidLine_hd, x_InvalidLine_ca, x_InvalidLine_cg, x_InvalidLine_ct, x_InvalidLine_mo⟩ x_InvalidLine_ty x_InvalidLine_cls y_InvalidLine_bv,
      e_InvalidLine := ⟨⟨⟨x_InvalidLine_ga, x_InvalidLine_gg, x_InvalidLine_ex, x_InvalidLine_hd, x_InvalidLine_ca, x_InvalidLine_cg, x_InvalidLine_ct, x_InvalidLine_mo⟩, x_InvalidLine_fv⟩, ⟨⟨_, _, _, _, _, _, _, _, _, _, _, _, _, _, _, x_InvalidLine_cls, x_InvalidLine_bm⟩, x_InvalidLine_sa, x_InvalidLine_ex, x_InvalidLine_ty, x_InvalidLine_kp⟩⟩,
      g_InvalidLines := PySem.W.mg_of X G h_InvalidLines,
      xv_InvalidLines := ExV.mk' h_InvalidLines ⟨x_InvalidLines_ga, x_InvalidLines_gg, x_InvalidLines_ex, x_InvalidLines_hd, x_InvalidLines_ca, x_InvalidLines_cg, x_InvalidLines_ct, x_InvalidLines_mo⟩ x_InvalidLines_ty x_InvalidLines_cls y_InvalidLines_bv,
      e_InvalidLines := ⟨⟨⟨x_InvalidLines_ga, x_InvalidLines_gg, x_InvalidLines_ex, x_InvalidLines_hd, x_InvalidLines_ca, x_InvalidLines_cg, x_InvalidLines_ct, x_InvalidLines_mo⟩, x_InvalidLines_fv⟩, ⟨⟨_, _, _, _, _, _, _, _, _, _, _, _, _, _, _, x_InvalidLines_cls, x_InvalidLines_bm⟩, x_InvalidLines_sa, x_InvalidLines_ex, x_InvalidLines_ty, x_InvalidLines_kp⟩⟩,
      g_InvalidMode := PySem.W.mg_of X G h_InvalidMode,
      xv_InvalidMode := ExV.mk' h_InvalidMode ⟨x_InvalidMode_ga, x_InvalidMode_gg, x_InvalidMode_ex, x_InvalidMode_hd, x_InvalidMode_ca, x_InvalidMode_cg, x_InvalidMode_ct, x_InvalidMode_mo⟩ x_InvalidMode_ty x_InvalidMode_cls y_InvalidMode_bv,
      e_InvalidMode := ⟨⟨⟨x_InvalidMode_ga, x_InvalidMode_gg, x_InvalidMode_ex, x_InvalidMode_hd, x_InvalidMode_ca, x_InvalidMode_cg, x_InvalidMode_ct, x_InvalidMode_mo⟩, x_InvalidMode_fv⟩, ⟨⟨_, _, _, _, _, _, _, _, _, _, _, _, _, _, _, x_InvalidMode_cls, x_InvalidMode_bm⟩, x_InvalidMode_sa, x_InvalidMode_ex, x_InvalidMode_ty, x_InvalidMode_kp⟩⟩,
      g_InvalidLetter := PySem.W.mg_of X G h_InvalidLetter,
      xv_InvalidLetter := ExV.mk' h_InvalidLetter ⟨x_InvalidLetter_ga, x_InvalidLetter_gg, x_InvalidLetter_ex, x_InvalidLetter_hd, x_InvalidLetter_ca, x_InvalidLetter_cg, x_InvalidLetter_ct, x_InvalidLetter_mo⟩ x_InvalidLetter_ty x_InvalidLetter_cls y_InvalidLetter_bv,
      e_InvalidLetter := ⟨⟨⟨x_InvalidLetter_ga, x_InvalidLetter_gg, x_InvalidLetter_ex, x_InvalidLetter_hd, x_InvalidLetter_ca, x_InvalidLetter_cg, x_InvalidLetter_ct, x_InvalidLetter_mo⟩, x_InvalidLetter_fv⟩, ⟨⟨_, _, _, _, _, _, _, _, _, _, _, _, _, _, _, x_InvalidLetter_cls, x_InvalidLetter_bm⟩, x_InvalidLetter_sa, x_InvalidLetter_ex, x_InvalidLetter_ty, x_InvalidLetter_kp⟩⟩,
      g_UnlikeParameters := PySem.W.mg_of X G h_UnlikeParameters,
      xv_UnlikeParameters := ExV.mk' h_UnlikeParameters ⟨x_UnlikeParameters_ga, x_UnlikeParameters_gg, x_UnlikeParameters_ex, x_UnlikeParameters_hd, x_UnlikeParameters_ca, x_UnlikeParameters_cg, x_UnlikeParameters_ct, x_UnlikeParameters_mo⟩ x_UnlikeParameters_ty x_UnlikeParameters_cls y_UnlikeParameters_bv,
      e_UnlikeParameters := ⟨⟨⟨x_UnlikeParameters_ga, x_UnlikeParameters_gg, x_UnlikeParameters_ex, x_UnlikeParameters_hd, x_UnlikeParameters_ca, x_UnlikeParameters_cg, x_UnlikeParameters_ct, x_UnlikeParameters_mo⟩, x_UnlikeParameters_fv⟩, ⟨⟨_, _, _, _, _, _, _, _, _, _, _, _, _, _, _, x_UnlikeParameters_cls, x_UnlikeParameters_bm⟩, x_UnlikeParameters_sa, x_UnlikeParameters_ex, x_UnlikeParameters_ty, x_UnlikeParameters_kp⟩⟩,
      g_Duplicate := PySem.W.mg_of X G h_Duplicate,
      xv_Duplicate := ExV.mk' h_Duplicate ⟨x_Duplicate_ga, x_Duplicate_gg, x_Duplicate_ex, x_Duplicate_hd, x_Duplicate_ca, x_Duplicate_cg, x_Duplicate_ct, x_Duplicate_mo⟩ x_Duplicate_ty x_Duplicate_cls y_Duplicate_bv,
      e_Duplicate := ⟨⟨⟨x_Duplicate_ga, x_Duplicate_gg, x_Duplicate_ex, x_Duplicate_hd, x_Duplicate_ca, x_Duplicate_cg, x_Duplicate_ct, x_Duplicate_mo⟩, x_Duplicate_fv⟩, ⟨⟨_, _, _, _, _, _, _, _, _, _, _, _, _, _, _, x_Duplicate_cls, x_Duplicate_bm⟩, x_Duplicate_sa, x_Duplicate_ex, x_Duplicate_ty, x_Duplicate_kp⟩⟩,
      g_Reserved := PySem.W.mg_of X G h_Reserved,
      xv_Reserved := ExV.mk' h_Reserved ⟨x_Reserved_ga, x_Reserved_gg, x_Reserved_ex, x_Reserved_hd, x_Reserved_ca, x_Reserved_cg, x_Reserved_ct, x_Reserved_mo⟩ x_Reserved_ty x_Reserved_cls y_Reserved_bv,
      e_Reserved := ⟨⟨⟨x_Reserved_ga, x_Reserved_gg, x_Reserved_ex, x_Reserved_hd, x_Reserved_ca, x_Reserved_cg, x_Reserved_ct, x_Reserved_mo⟩, x_Reserved_fv⟩, ⟨⟨_, _, _, _, _, _, _, _, _, _, _, _, _, _, _, x_Reserved_cls, x_Reserved_bm⟩, x_Reserved_sa, x_Reserved_ex, x_Reserved_ty, x_Reserved_kp⟩⟩,
      g_TooLarge := PySem.W.mg_of X G h_TooLarge,
      xv_TooLarge := ExV.mk' h_TooLarge ⟨x_TooLarge_ga, x_TooLarge_gg, x_TooLarge_ex, x_TooLarge_hd, x_TooLarge_ca, x_TooLarge_cg, x_TooLarge_ct, x_TooLarge_mo⟩ x_TooLarge_ty x_TooLarge_cls y_TooLarge_bv,
      e_TooLarge := ⟨⟨⟨x_TooLarge_ga, x_TooLarge_gg, x_TooLarge_ex, x_TooLarge_hd, x_TooLarge_ca, x_TooLarge_cg, x_TooLarge_ct, x_TooLarge_mo⟩, x_TooLarge_fv⟩, ⟨⟨_, _, _, _, _, _, _, _, _, _, _, _, _, _, _, x_TooLarge_cls, x_TooLarge_bm⟩, x_TooLarge_sa, x_TooLarge_ex, x_TooLarge_ty, x_TooLarge_kp⟩⟩,
      g_InvalidRow := PySem.W.mg_of X G h_InvalidRow,
      xv_InvalidRow := ExV.mk' h_InvalidRow ⟨x_InvalidRow_ga, x_InvalidRow_gg, x_InvalidRow_ex, x_InvalidRow_hd, x_InvalidRow_ca, x_InvalidRow_cg, x_InvalidRow_ct, x_InvalidRow_mo⟩ x_InvalidRow_ty x_InvalidRow_cls y_InvalidRow_bv,
      e_InvalidRow := ⟨⟨⟨x_InvalidRow_ga, x_InvalidRow_gg, x_InvalidRow_ex, x_InvalidRow_hd, x_InvalidRow_ca, x_InvalidRow_cg, x_InvalidRow_ct, x_InvalidRow_mo⟩, x_InvalidRow_fv⟩, ⟨⟨_, _, _, _, _, _, _, _, _, _, _, _, _, _, _, x_InvalidRow_cls, x_InvalidRow_bm⟩, x_InvalidRow_sa, x_InvalidRow_ex, x_InvalidRow_ty, x_InvalidRow_kp⟩⟩,
      g_UnknownTemplate := PySem.W.mg_of X G h_UnknownTemplate,
      xv_UnknownTemplate := ExV.mk' h_UnknownTemplate ⟨x_UnknownTemplate_ga, x_UnknownTemplate_gg, x_UnknownTemplate_ex, x_UnknownTemplate_hd, x_UnknownTemplate_ca, x_UnknownTemplate_cg, x_UnknownTemplate_ct, x_UnknownTemplate_mo⟩ x_UnknownTemplate_ty x_UnknownTemplate_cls y_UnknownTemplate_bv,
      e_UnknownTemplate := ⟨⟨⟨x_UnknownTemplate_ga, x_UnknownTemplate_gg, x_UnknownTemplate_ex, x_UnknownTemplate_hd, x_UnknownTemplate_ca, x_UnknownTemplate_cg, x_UnknownTemplate_ct, x_UnknownTemplate_mo⟩, x_UnknownTemplate_fv⟩, ⟨⟨_, _, _, _, _, _, _, _, _, _, _, _, _, _, _, x_UnknownTemplate_cls, x_UnknownTemplate_bm⟩, x_UnknownTemplate_sa, x_UnknownTemplate_ex, x_UnknownTemplate_ty, x_UnknownTemplate_kp⟩⟩,
      g_UnknownHole := PySem.W.mg_of X G h_UnknownHole,
      xv_UnknownHole := ExV.mk' h_UnknownHole ⟨x_UnknownHole_ga, x_UnknownHole_gg, x_UnknownHole_ex, x_UnknownHole_hd, x_UnknownHole_ca, x_UnknownHole_cg, x_UnknownHole_ct, x_UnknownHole_mo⟩ x_UnknownHole_ty x_UnknownHole_cls y_UnknownHole_bv,
      e_UnknownHole := ⟨⟨⟨x_UnknownHole_ga, x_UnknownHole_gg, x_UnknownHole_ex, x_UnknownHole_hd, x_UnknownHole_ca, x_UnknownHole_cg, x_UnknownHole_ct, x_UnknownHole_mo⟩, x_UnknownHole_fv⟩, ⟨⟨_, _, _, _, _, _, _, _, _, _, _, _, _, _, _, x_UnknownHole_cls, x_UnknownHole_bm⟩, x_UnknownHole_sa, x_UnknownHole_ex, x_UnknownHole_ty, x_UnknownHole_kp⟩⟩,
      g_UnknownBinder := PySem.W.mg_of X G h_UnknownBinder,
      xv_UnknownBinder := ExV.mk' h_UnknownBinder ⟨x_UnknownBinder_ga, x_UnknownBinder_gg, x_UnknownBinder_ex, x_UnknownBinder_hd, x_UnknownBinder_ca, x_UnknownBinder_cg, x_UnknownBinder_ct, x_UnknownBinder_mo⟩ x_UnknownBinder_ty x_UnknownBinder_cls y_UnknownBinder_bv,
      e_UnknownBinder := ⟨⟨⟨x_UnknownBinder_ga, x_UnknownBinder_gg, x_UnknownBinder_ex, x_UnknownBinder_hd, x_UnknownBinder_ca, x_UnknownBinder_cg, x_UnknownBinder_ct, x_UnknownBinder_mo⟩, x_UnknownBinder_fv⟩, ⟨⟨_, _, _, _, _, _, _, _, _, _, _, _, _, _, _, x_UnknownBinder_cls, x_UnknownBinder_bm⟩, x_UnknownBinder_sa, x_UnknownBinder_ex, x_UnknownBinder_ty, x_UnknownBinder_kp⟩⟩,
      g_StillCalled := PySem.W.mg_of X G h_StillCalled,
      xv_StillCalled := ExV.mk' h_StillCalled ⟨x_StillCalled_ga, x_StillCalled_gg, x_StillCalled_ex, x_StillCalled_hd, x_StillCalled_ca, x_StillCalled_cg, x_StillCalled_ct, x_StillCalled_mo⟩ x_StillCalled_ty x_StillCalled_cls y_StillCalled_bv,
      e_StillCalled := ⟨⟨⟨x_StillCalled_ga, x_StillCalled_gg, x_StillCalled_ex, x_StillCalled_hd, x_StillCalled_ca, x_StillCalled_cg, x_StillCalled_ct, x_StillCalled_mo⟩, x_StillCalled_fv⟩, ⟨⟨_, _, _, _, _, _, _, _, _, _, _, _, _, _, _, x_StillCalled_cls, x_StillCalled_bm⟩, x_StillCalled_sa, x_StillCalled_ex, x_StillCalled_ty, x_StillCalled_kp⟩⟩,
      g_NothingToUndo := PySem.W.mg_of X G h_NothingToUndo,
      ox_NothingToUndo := ⟨⟨_, _, _, _, _, _, _, _, _, _, _, _, _, _, _, x_NothingToUndo_cls, x_NothingToUndo_bm⟩, x_NothingToUndo_sa, x_NothingToUndo_ex, x_NothingToUndo_ty, x_NothingToUndo_kp⟩,
      xv_NothingToUndo := ExV.mk' h_NothingToUndo ⟨x_NothingToUndo_ga, x_NothingToUndo_gg, x_NothingToUndo_ex, x_NothingToUndo_hd, x_NothingToUndo_ca, x_NothingToUndo_cg, x_NothingToUndo_ct, x_NothingToUndo_mo⟩ x_NothingToUndo_ty x_NothingToUndo_cls y_NothingToUndo_bv,
      g_NothingToRedo := PySem.W.mg_of X G h_NothingToRedo,
      ox_NothingToRedo := ⟨⟨_, _, _, _, _, _, _, _, _, _, _, _, _, _, _, x_NothingToRedo_cls, x_NothingToRedo_bm⟩, x_NothingToRedo_sa, x_NothingToRedo_ex, x_NothingToRedo_ty, x_NothingToRedo_kp⟩,
      xv_NothingToRedo := ExV.mk' h_NothingToRedo ⟨x_NothingToRedo_ga, x_NothingToRedo_gg, x_NothingToRedo_ex, x_NothingToRedo_hd, x_NothingToRedo_ca, x_NothingToRedo_cg, x_NothingToRedo_ct, x_NothingToRedo_mo⟩ x_NothingToRedo_ty x_NothingToRedo_cls y_NothingToRedo_bv,
      nd := x_nd,
      b_len := PySem.W.mg_none_of X G b_len,
      b_max := PySem.W.mg_none_of X G b_max,
      b_min := PySem.W.mg_none_of X G b_min,
      b_isinstance := PySem.W.mg_none_of X G b_isinstance,
      b_range := PySem.W.mg_none_of X G b_range,
      b_repr := PySem.W.mg_none_of X G b_repr,
      b_enumerate := PySem.W.mg_none_of X G b_enumerate,
      b_list := PySem.W.mg_none_of X G b_list,
      b_dict := PySem.W.mg_none_of X G b_dict,
      b_ValueError := PySem.W.mg_none_of X G b_ValueError,
      b_KeyError := PySem.W.mg_none_of X G b_KeyError,
      b_LookupError := PySem.W.mg_none_of X G b_LookupError }⟩
theorem law_fn {P : Program} {w : World} {K : PySem.W.Frag} {mg : Str → Option Value} {fa : Addr} (ht : ∃ a : Ad, Txt K mg a) (hmg : mg "law" = some (.ref fa)) :
    ∃ fd : FuncData, (∀ (s : Shared) (u : Value), BindsTo s fd ⟨[u], []⟩ [("_law_script", u)]) ∧ ∀ base : Heap, K.In base → base.Ns mainGlobals mg → SysIn base → FnG P w K mg base CX0 10 fa fd ["_law_script"] (sp_law K) := by
  obtain ⟨a, T⟩ := ht
  have e := hmg.symm.trans T.g_law
  cases e
  exact ⟨a.d_law, T.lb, fun base _ _ hsy => ok_law T hsy⟩
end K03
open PySem PySem.W PyProof.Rows
set_option maxRecDepth 100000 in
set_option maxHeartbeats 0 in
theorem PySem.Challenge.cw_caughtnames_k03_errors_and_their_fields_holds : PySem.Challenge.rw_caughtnames_k03_errors_and_their_fields.Holds := by
  w_on; o_law; k_head; (case hw => w_witness2)
  k_fill
  refine CN.walk_S (l := PySem.Challenge.rw_caughtnames_k03_errors_and_their_fields) (n := 63) (k := 10) (x := "_law_script") (sp := K03.sp_law) rfl (by decide) rfl (by decide +kernel) ⟨rfl, by decide, by decide⟩ (fun w h Y => PySem.W.kIn_of Y) ?F (fun K H a ns hl hO hS => K03.sp_law_of hl hO hS)
  intro w mg fa h KX G hmg0
  have hmg : mg "law" = some (.ref fa) := hmg0
  clear hmg0
  refine K03.law_fn ?ht hmg
  case ht =>
    refine' K03.txt_mk KX G ?h_NothingToRedo ?h_NothingToUndo ?h_StillCalled ?h_UnknownBinder ?h_UnknownHole ?h_UnknownTemplate ?h_InvalidRow ?h_TooLarge ?h_Reserved ?h_Duplicate ?h_UnlikeParameters ?h_InvalidLetter ?h_InvalidMode ?h_InvalidLines ?h_InvalidLine ?h_InvalidText ?h_InvalidMeaning ?h_InvalidTables ?h_InvalidSite ?h_InvalidFillings ?h_InvalidChoice ?h_InvalidBook ?h_InvalidCall ?h_InvalidTemplate ?h_InvalidParameters ?h_InvalidProgram ?h_InvalidBody ?h_InvalidTerm ?h_InvalidName ?h_StateError ?h_AbsentError ?h_CaughtError ?a1 ?ty1 ?l1 ?c1 ?k1 ?a2 ?ty2 ?l2 ?c2 ?k2 ?a3 ?ty3 ?l3 ?c3 ?k3 ?a4 ?ty4 ?l4 ?c4 ?k4 ?a5 ?ty5 ?l5 ?c5 ?k5 ?a6 ?ty6 ?l6 ?c6 ?k6 ?a7 ?ty7 ?l7 ?c7 ?k7 ?a8 ?ty8 ?l8 ?c8 ?k8 ?a9 ?ty9 ?l9 ?c9 ?k9 ?a10 ?ty10 ?l10 ?c10 ?k10 ?a11 ?ty11 ?l11 ?c11 ?k11 ?a12 ?ty12 ?l12 ?c12 ?k12 ?a13 ?ty13 ?l13 ?c13 ?k13 ?a14 ?ty14 ?l14 ?c14 ?k14 ?a15 ?ty15 ?l15 ?c15 ?k15 ?a16 ?ty16 ?l16 ?c16 ?k16 ?a17 ?ty17 ?l17 ?c17 ?k17 ?a18 ?ty18 ?l18 ?c18 ?k18 ?a19 ?ty19 ?l19 ?c19 ?k19 ?a20 ?ty20 ?l20 ?c20 ?k20 ?a21 ?ty21 ?l21 ?c21 ?k21 ?a22 ?ty22 ?l22 ?c22 ?k22 ?a23 ?ty23 ?l23 ?c23 ?k23 ?a24 ?ty24 ?l24 ?c24 ?k24 ?a25 ?ty25 ?l25 ?c25 ?k25 ?a26 ?ty26 ?l26 ?c26 ?k26 ?a27 ?ty27 ?l27 ?c27 ?k27 ?a28 ?ty28 ?l28 ?c28 ?k28 ?a29 ?ty29 ?l29 ?c29 ?k29 ?a30 ?l30 ?c30 ?k30 ?a31 ?l31 ?c31 ?k31 ?a32 ?l32 ?c32 ?k32 ?a33 ?l33 ?c33 ?k33 ?a34 ?l34 ?c34 ?k34 ?a35 ?l35 ?c35 ?k35 ?a36 ?l36 ?c36 ?k36 ?a37 ?l37 ?c37 ?k37 ?a38 ?l38 ?c38 ?k38 ?a39 ?l39 ?c39 ?k39 ?x_CaughtError_cls ?x_CaughtError_bm ?x_CaughtError_sa ?x_CaughtError_ga ?x_CaughtError_gg ?x_CaughtError_ex ?x_CaughtError_ty ?x_CaughtError_kp ?x_CaughtError_hd ?x_CaughtError_ca ?x_CaughtError_cg ?x_CaughtError_ct ?x_CaughtError_mo ?x_CaughtError_ini ?y_CaughtError_bv ?x_CaughtError_sg ?x_CaughtError_rd ?x_CaughtError_fc ?x_AbsentError_cls ?x_AbsentError_bm ?x_AbsentError_sa ?x_AbsentError_ga ?x_AbsentError_gg ?x_AbsentError_ex ?x_AbsentError_ty ?x_AbsentError_kp ?x_AbsentError_hd ?x_AbsentError_ca ?x_AbsentError_cg ?x_AbsentError_ct ?x_AbsentError_mo ?x_AbsentError_ini ?y_AbsentError_bv ?x_AbsentError_sg ?x_AbsentError_rd ?x_AbsentError_fc ?x_StateError_cls ?x_StateError_bm ?x_StateError_sa ?x_StateError_ga ?x_StateError_gg ?x_StateError_ex ?x_StateError_ty ?x_StateError_kp ?x_StateError_hd ?x_StateError_ca ?x_StateError_cg ?x_StateError_ct ?x_StateError_mo ?x_StateError_ini ?y_StateError_bv ?x_StateError_sg ?x_StateError_rd ?x_StateError_fc ?y_InvalidName_bv ?x_InvalidName_cls ?x_InvalidName_bm ?x_InvalidName_sa ?x_InvalidName_ga ?x_InvalidName_gg ?x_InvalidName_ex ?x_InvalidName_ty ?x_InvalidName_kp ?x_InvalidName_hd ?x_InvalidName_ca ?x_InvalidName_cg ?x_InvalidName_ct ?x_InvalidName_mo ?x_InvalidName_fv ?y_InvalidTerm_bv ?x_InvalidTerm_cls ?x_InvalidTerm_bm ?x_InvalidTerm_sa ?x_InvalidTerm_ga ?x_InvalidTerm_gg ?x_InvalidTerm_ex ?x_InvalidTerm_ty ?x_InvalidTerm_kp ?x_InvalidTerm_hd ?x_InvalidTerm_ca ?x_InvalidTerm_cg ?x_InvalidTerm_ct ?x_InvalidTerm_mo ?x_InvalidTerm_fv ?y_InvalidBody_bv ?x_InvalidBody_cls ?x_InvalidBody_bm ?x_InvalidBody_sa ?x_InvalidBody_ga ?x_InvalidBody_gg ?x_InvalidBody_ex ?x_InvalidBody_ty ?x_InvalidBody_kp ?x_InvalidBody_hd ?x_InvalidBody_ca ?x_InvalidBody_cg ?x_InvalidBody_ct ?x_InvalidBody_mo ?x_InvalidBody_fv ?y_InvalidProgram_bv ?x_InvalidProgram_cls ?x_InvalidProgram_bm ?x_InvalidProgram_sa ?x_InvalidProgram_ga ?x_InvalidProgram_gg ?x_InvalidProgram_ex ?x_InvalidProgram_ty ?x_InvalidProgram_kp ?x_InvalidProgram_hd ?x_InvalidProgram_ca ?x_InvalidProgram_cg ?x_InvalidProgram_ct ?x_InvalidProgram_mo ?x_InvalidProgram_fv ?y_InvalidParameters_bv ?x_InvalidParameters_cls ?x_InvalidParameters_bm ?x_InvalidParameters_sa ?x_InvalidParameters_ga ?x_InvalidParameters_gg ?x_InvalidParameters_ex ?x_InvalidParameters_ty ?x_InvalidParameters_kp ?x_InvalidParameters_hd ?x_InvalidParameters_ca ?x_InvalidParameters_cg ?x_InvalidParameters_ct ?x_InvalidParameters_mo ?x_InvalidParameters_fv ?y_InvalidTemplate_bv ?x_InvalidTemplate_cls ?x_InvalidTemplate_bm ?x_InvalidTemplate_sa ?x_InvalidTemplate_ga ?x_InvalidTemplate_gg ?x_InvalidTemplate_ex ?x_InvalidTemplate_ty ?x_InvalidTemplate_kp ?x_InvalidTemplate_hd ?x_InvalidTemplate_ca ?x_InvalidTemplate_cg ?x_InvalidTemplate_ct ?x_InvalidTemplate_mo ?x_InvalidTemplate_fv ?y_InvalidCall_bv ?x_InvalidCall_cls ?x_InvalidCall_bm ?x_InvalidCall_sa ?x_InvalidCall_ga ?x_InvalidCall_gg ?x_InvalidCall_ex ?x_InvalidCall_ty ?x_InvalidCall_kp ?x_InvalidCall_hd ?x_InvalidCall_ca ?x_InvalidCall_cg ?x_InvalidCall_ct ?x_InvalidCall_mo ?x_InvalidCall_fv ?y_InvalidBook_bv ?x_InvalidBook_cls ?x_InvalidBook_bm ?x_InvalidBook_sa ?x_InvalidBook_ga ?x_InvalidBook_gg ?x_InvalidBook_ex ?x_InvalidBook_ty ?x_InvalidBook_kp ?x_InvalidBook_hd ?x_InvalidBook_ca ?x_InvalidBook_cg ?x_InvalidBook_ct ?x_InvalidBook_mo ?x_InvalidBook_fv ?y_InvalidChoice_bv ?x_InvalidChoice_cls ?x_InvalidChoice_bm ?x_InvalidChoice_sa ?x_InvalidChoice_ga ?x_InvalidChoice_gg ?x_InvalidChoice_ex ?x_InvalidChoice_ty ?x_InvalidChoice_kp ?x_InvalidChoice_hd ?x_InvalidChoice_ca ?x_InvalidChoice_cg ?x_InvalidChoice_ct ?x_InvalidChoice_mo ?x_InvalidChoice_fv ?y_InvalidFillings_bv ?x_InvalidFillings_cls ?x_InvalidFillings_bm ?x_InvalidFillings_sa ?x_InvalidFillings_ga ?x_InvalidFillings_gg ?x_InvalidFillings_ex ?x_InvalidFillings_ty ?x_InvalidFillings_kp ?x_InvalidFillings_hd ?x_InvalidFillings_ca ?x_InvalidFillings_cg ?x_InvalidFillings_ct ?x_InvalidFillings_mo ?x_InvalidFillings_fv ?y_InvalidSite_bv ?x_InvalidSite_cls ?x_InvalidSite_bm ?x_InvalidSite_sa ?x_InvalidSite_ga ?x_InvalidSite_gg ?x_InvalidSite_ex ?x_InvalidSite_ty ?x_InvalidSite_kp ?x_InvalidSite_hd ?x_InvalidSite_ca ?x_InvalidSite_cg ?x_InvalidSite_ct ?x_InvalidSite_mo ?x_InvalidSite_fv ?y_InvalidTables_bv ?x_InvalidTables_cls ?x_InvalidTables_bm ?x_InvalidTables_sa ?x_InvalidTables_ga ?x_InvalidTables_gg ?x_InvalidTables_ex ?x_InvalidTables_ty ?x_InvalidTables_kp ?x_InvalidTables_hd ?x_InvalidTables_ca ?x_InvalidTables_cg ?x_InvalidTables_ct ?x_InvalidTables_mo ?x_InvalidTables_fv ?y_InvalidMeaning_bv ?x_InvalidMeaning_cls ?x_InvalidMeaning_bm ?x_InvalidMeaning_sa ?x_InvalidMeaning_ga ?x_InvalidMeaning_gg ?x_InvalidMeaning_ex ?x_InvalidMeaning_ty ?x_InvalidMeaning_kp ?x_InvalidMeaning_hd ?x_InvalidMeaning_ca ?x_InvalidMeaning_cg ?x_InvalidMeaning_ct ?x_InvalidMeaning_mo ?x_InvalidMeaning_fv ?y_InvalidText_bv ?x_InvalidText_cls ?x_InvalidText_bm ?x_InvalidText_sa ?x_InvalidText_ga ?x_InvalidText_gg ?x_InvalidText_ex ?x_InvalidText_ty ?x_InvalidText_kp ?x_InvalidText_hd ?x_InvalidText_ca ?x_InvalidText_cg ?x_InvalidText_ct ?x_InvalidText_mo ?x_InvalidText_fv ?y_InvalidLine_bv ?x_InvalidLine_cls ?x_InvalidLine_bm ?x_InvalidLine_sa ?x_InvalidLine_ga ?x_InvalidLine_gg ?x_InvalidLine_ex ?x_InvalidLine_ty ?x_InvalidLine_kp ?x_InvalidLine_hd ?x_InvalidLine_ca ?x_InvalidLine_cg ?x_InvalidLine_ct ?x_InvalidLine_mo ?x_InvalidLine_fv ?y_InvalidLines_bv ?x_InvalidLines_cls ?x_InvalidLines_bm ?x_InvalidLines_sa ?x_InvalidLines_ga ?x_InvalidLines_gg ?x_InvalidLines_ex ?x_InvalidLines_ty ?x_InvalidLines_kp ?x_InvalidLines_hd ?x_InvalidLines_ca ?x_InvalidLines_cg ?x_InvalidLines_ct ?x_InvalidLines_mo ?x_InvalidLines_fv ?y_InvalidMode_bv ?x_InvalidMode_cls ?x_InvalidMode_bm ?x_InvalidMode_sa ?x_InvalidMode_ga ?x_InvalidMode_gg ?x_InvalidMode_ex ?x_InvalidMode_ty ?x_InvalidMode_kp ?x_InvalidMode_hd ?x_InvalidMode_ca ?x_InvalidMode_cg ?x_InvalidMode_ct ?x_InvalidMode_mo ?x_InvalidMode_fv ?y_InvalidLetter_bv ?x_InvalidLetter_cls ?x_InvalidLetter_bm ?x_InvalidLetter_sa ?x_InvalidLetter_ga ?x_InvalidLetter_gg ?x_InvalidLetter_ex ?x_InvalidLetter_ty ?x_InvalidLetter_kp ?x_InvalidLetter_hd ?x_InvalidLetter_ca ?x_InvalidLetter_cg ?x_InvalidLetter_ct ?x_InvalidLetter_mo ?x_InvalidLetter_fv ?y_UnlikeParameters_bv ?x_UnlikeParameters_cls ?x_UnlikeParameters_bm ?x_UnlikeParameters_sa ?x_UnlikeParameters_ga ?x_UnlikeParameters_gg ?x_UnlikeParameters_ex ?x_UnlikeParameters_ty ?x_UnlikeParameters_kp ?x_UnlikeParameters_hd ?x_UnlikeParameters_ca ?x_UnlikeParameters_cg ?x_UnlikeParameters_ct ?x_UnlikeParameters_mo ?x_UnlikeParameters_fv ?y_Duplicate_bv ?x_Duplicate_cls ?x_Duplicate_bm ?x_Duplicate_sa ?x_Duplicate_ga ?x_Duplicate_gg ?x_Duplicate_ex ?x_Duplicate_ty ?x_Duplicate_kp ?x_Duplicate_hd ?x_Duplicate_ca ?x_Duplicate_cg ?x_Duplicate_ct ?x_Duplicate_mo ?x_Duplicate_fv ?y_Reserved_bv ?x_Reserved_cls ?x_Reserved_bm ?x_Reserved_sa ?x_Reserved_ga ?x_Reserved_gg ?x_Reserved_ex ?x_Reserved_ty ?x_Reserved_kp ?x_Reserved_hd ?x_Reserved_ca ?x_Reserved_cg ?x_Reserved_ct ?x_Reserved_mo ?x_Reserved_fv ?y_TooLarge_bv ?x_TooLarge_cls ?x_TooLarge_bm ?x_TooLarge_sa ?x_TooLarge_ga ?x_TooLarge_gg ?x_TooLarge_ex ?x_TooLarge_ty ?x_TooLarge_kp ?x_TooLarge_hd ?x_TooLarge_ca ?x_TooLarge_cg ?x_TooLarge_ct ?x_TooLarge_mo ?x_TooLarge_fv ?y_InvalidRow_bv ?x_InvalidRow_cls ?x_InvalidRow_bm ?x_InvalidRow_sa ?x_InvalidRow_ga ?x_InvalidRow_gg ?x_InvalidRow_ex ?x_InvalidRow_ty ?x_InvalidRow_kp ?x_InvalidRow_hd ?x_InvalidRow_ca ?x_InvalidRow_cg ?x_InvalidRow_ct ?x_InvalidRow_mo ?x_InvalidRow_fv ?y_UnknownTemplate_bv ?x_UnknownTemplate_cls ?x_UnknownTemplate_bm ?x_UnknownTemplate_sa ?x_UnknownTemplate_ga ?x_UnknownTemplate_gg ?x_UnknownTemplate_ex ?x_UnknownTemplate_ty ?x_UnknownTemplate_kp ?x_UnknownTemplate_hd ?x_UnknownTemplate_ca ?x_UnknownTemplate_cg ?x_UnknownTemplate_ct ?x_UnknownTemplate_mo ?x_UnknownTemplate_fv ?y_UnknownHole_bv ?x_UnknownHole_cls ?x_UnknownHole_bm ?x_UnknownHole_sa ?x_UnknownHole_ga ?x_UnknownHole_gg ?x_UnknownHole_ex ?x_UnknownHole_ty ?x_UnknownHole_kp ?x_UnknownHole_hd ?x_UnknownHole_ca ?x_UnknownHole_cg ?x_UnknownHole_ct ?x_UnknownHole_mo ?x_UnknownHole_fv ?y_UnknownBinder_bv ?x_UnknownBinder_cls ?x_UnknownBinder_bm ?x_UnknownBinder_sa ?x_UnknownBinder_ga ?x_UnknownBinder_gg ?x_UnknownBinder_ex ?x_UnknownBinder_ty ?x_UnknownBinder_kp ?x_UnknownBinder_hd ?x_UnknownBinder_ca ?x_UnknownBinder_cg ?x_UnknownBinder_ct ?x_UnknownBinder_mo ?x_UnknownBinder_fv ?y_StillCalled_bv ?x_StillCalled_cls ?x_StillCalled_bm ?x_StillCalled_sa ?x_StillCalled_ga ?x_StillCalled_gg ?x_StillCalled_ex ?x_StillCalled_ty ?x_StillCalled_kp ?x_StillCalled_hd ?x_StillCalled_ca ?x_StillCalled_cg ?x_StillCalled_ct ?x_StillCalled_mo ?x_StillCalled_fv ?x_NothingToUndo_cls ?x_NothingToUndo_bm ?x_NothingToUndo_sa ?x_NothingToUndo_ga ?x_NothingToUndo_gg ?x_NothingToUndo_ex ?x_NothingToUndo_ty ?x_NothingToUndo_kp ?x_NothingToUndo_hd ?x_NothingToUndo_ca ?x_NothingToUndo_cg ?x_NothingToUndo_ct ?x_NothingToUndo_mo ?y_NothingToUndo_bv ?x_NothingToRedo_cls ?x_NothingToRedo_bm ?x_NothingToRedo_sa ?x_NothingToRedo_ga ?x_NothingToRedo_gg ?x_NothingToRedo_ex ?x_NothingToRedo_ty ?x_NothingToRedo_kp ?x_NothingToRedo_hd ?x_NothingToRedo_ca ?x_NothingToRedo_cg ?x_NothingToRedo_ct ?x_NothingToRedo_mo ?y_NothingToRedo_bv ?x_nd ?b_len ?b_max ?b_min ?b_isinstance ?b_range ?b_repr ?b_enumerate ?b_list ?b_dict ?b_ValueError ?b_KeyError ?b_LookupError
    (case h_NothingToRedo => k_is)
    (case h_NothingToUndo => k_is)
    (case h_StillCalled => k_is)
    (case h_UnknownBinder => k_is)
    (case h_UnknownHole => k_is)
    (case h_UnknownTemplate => k_is)
    (case h_InvalidRow => k_is)
    (case h_TooLarge => k_is)
    (case h_Reserved => k_is)
    (case h_Duplicate => k_is)
    (case h_UnlikeParameters => k_is)
    (case h_InvalidLetter => k_is)
    (case h_InvalidMode => k_is)
    (case h_InvalidLines => k_is)
    (case h_InvalidLine => k_is)
    (case h_InvalidText => k_is)
    (case h_InvalidMeaning => k_is)
    (case h_InvalidTables => k_is)
    (case h_InvalidSite => k_is)
    (case h_InvalidFillings => k_is)
    (case h_InvalidChoice => k_is)
    (case h_InvalidBook => k_is)
    (case h_InvalidCall => k_is)
    (case h_InvalidTemplate => k_is)
    (case h_InvalidParameters => k_is)
    (case h_InvalidProgram => k_is)
    (case h_InvalidBody => k_is)
    (case h_InvalidTerm => k_is)
    (case h_InvalidName => k_is)
    (case h_StateError => k_is)
    (case h_AbsentError => k_is)
    (case h_CaughtError => k_is)
    (case a1 => k_is)
    (case ty1 => k_is)
    (case l1 => k_is)
    (case c1 => k_is)
    (case k1 => k_is)
    (case a2 => k_is)
    (case ty2 => k_is)
    (case l2 => k_is)
    (case c2 => k_is)
    (case k2 => k_is)
    (case a3 => k_is)
    (case ty3 => k_is)
    (case l3 => k_is)
    (case c3 => k_is)
    (case k3 => k_is)
    (case a4 => k_is)
    (case ty4 => k_is)
    (case l4 => k_is)
    (case c4 => k_is)
    (case k4 => k_is)
    (case a5 => k_is)
    (case ty5 => k_is)
    (case l5 => k_is)
    (case c5 => k_is)
    (case k5 => k_is)
    (case a6 => k_is)
    (case ty6 => k_is)
    (case l6 => k_is)
    (case c6 => k_is)
    (case k6 => k_is)
    (case a7 => k_is)
    (case ty7 => k_is)
    (case l7 => k_is)
    (case c7 => k_is)
    (case k7 => k_is)
    (case a8 => k_is)
    (case ty8 => k_is)
    (case l8 => k_is)
    (case c8 => k_is)
    (case k8 => k_is)
    (case a9 => k_is)
    (case ty9 => k_is)
    (case l9 => k_is)
    (case c9 => k_is)
    (case k9 => k_is)
    (case a10 => k_is)
    (case ty10 => k_is)
    (case l10 => k_is)
    (case c10 => k_is)
    (case k10 => k_is)
    (case a11 => k_is)
    (case ty11 => k_is)
    (case l11 => k_is)
    (case c11 => k_is)
    (case k11 => k_is)
    (case a12 => k_is)
    (case ty12 => k_is)
    (case l12 => k_is)
    (case c12 => k_is)
    (case k12 => k_is)
    (case a13 => k_is)
    (case ty13 => k_is)
    (case l13 => k_is)
    (case c13 => k_is)
    (case k13 => k_is)
    (case a14 => k_is)
    (case ty14 => k_is)
    (case l14 => k_is)
    (case c14 => k_is)
    (case k14 => k_is)
    (case a15 => k_is)
    (case ty15 => k_is)
    (case l15 => k_is)
    (case c15 => k_is)
    (case k15 => k_is)
    (case a16 => k_is)
    (case ty16 => k_is)
    (case l16 => k_is)
    (case c16 => k_is)
    (case k16 => k_is)
    (case a17 => k_is)
    (case ty17 => k_is)
    (case l17 => k_is)
    (case c17 => k_is)
    (case k17 => k_is)
    (case a18 => k_is)
    (case ty18 => k_is)
    (case l18 => k_is)
    (case c18 => k_is)
    (case k18 => k_is)
    (case a19 => k_is)
    (case ty19 => k_is)
    (case l19 => k_is)
    (case c19 => k_is)
    (case k19 => k_is)
    (case a20 => k_is)
    (case ty20 => k_is)
    (case l20 => k_is)
    (case c20 => k_is)
    (case k20 => k_is)
    (case a21 => k_is)
    (case ty21 => k_is)
    (case l21 => k_is)
    (case c21 => k_is)
    (case k21 => k_is)
    (case a22 => k_is)
    (case ty22 => k_is)
    (case l22 => k_is)
    (case c22 => k_is)
    (case k22 => k_is)
    (case a23 => k_is)
    (case ty23 => k_is)
    (case l23 => k_is)
    (case c23 => k_is)
    (case k23 => k_is)
    (case a24 => k_is)
    (case ty24 => k_is)
    (case l24 => k_is)
    (case c24 => k_is)
    (case k24 => k_is)
    (case a25 => k_is)
    (case ty25 => k_is)
    (case l25 => k_is)
    (case c25 => k_is)
    (case k25 => k_is)
    (case a26 => k_is)
    (case ty26 => k_is)
    (case l26 => k_is)
    (case c26 => k_is)
    (case k26 => k_is)
    (case a27 => k_is)
    (case ty27 => k_is)
    (case l27 => k_is)
    (case c27 => k_is)
    (case k27 => k_is)
    (case a28 => k_is)
    (case ty28 => k_is)
    (case l28 => k_is)
    (case c28 => k_is)
    (case k28 => k_is)
    (case a29 => k_is)
    (case ty29 => k_is)
    (case l29 => k_is)
    (case c29 => k_is)
    (case k29 => k_is)
    (case a30 => k_is)
    (case l30 => k_is)
    (case c30 => k_is)
    (case k30 => k_is)
    (case a31 => k_is)
    (case l31 => k_is)
    (case c31 => k_is)
    (case k31 => k_is)
    (case a32 => k_is)
    (case l32 => k_is)
    (case c32 => k_is)
    (case k32 => k_is)
    (case a33 => k_is)
    (case l33 => k_is)
    (case c33 => k_is)
    (case k33 => k_is)
    (case a34 => k_is)
    (case l34 => k_is)
    (case c34 => k_is)
    (case k34 => k_is)
    (case a35 => k_is)
    (case l35 => k_is)
    (case c35 => k_is)
    (case k35 => k_is)
    (case a36 => k_is)
    (case l36 => k_is)
    (case c36 => k_is)
    (case k36 => k_is)
    (case a37 => k_is)
    (case l37 => k_is)
    (case c37 => k_is)
    (case k37 => k_is)
    (case a38 => k_is)
    (case l38 => k_is)
    (case c38 => k_is)
    (case k38 => k_is)
    (case a39 => k_is)
    (case l39 => k_is)
    (case c39 => k_is)
    (case k39 => k_is)
    (case x_CaughtError_cls => k_is)
    (case x_CaughtError_bm => decide +kernel)
    (case x_CaughtError_sa => k_is)
    (case x_CaughtError_ga => k_is)
    (case x_CaughtError_gg => k_is)
    (case x_CaughtError_ex => k_is)
    (case x_CaughtError_ty => k_is)
    (case x_CaughtError_kp => k_is)
    (case x_CaughtError_hd => k_is)
    (case x_CaughtError_ca => k_is)
    (case x_CaughtError_cg => k_is)
    (case x_CaughtError_ct => k_is)
    (case x_CaughtError_mo => k_is)
    (case x_CaughtError_ini => k_is)
    (case y_CaughtError_bv => rfl)
    (case x_CaughtError_sg => k_is)
    (case x_CaughtError_rd => k_is)
    (case x_CaughtError_fc => k_is)
    (case x_AbsentError_cls => k_is)
    (case x_AbsentError_bm => decide +kernel)
    (case x_AbsentError_sa => k_is)
    (case x_AbsentError_ga => k_is)
    (case x_AbsentError_gg => k_is)
    (case x_AbsentError_ex => k_is)
    (case x_AbsentError_ty => k_is)
    (case x_AbsentError_kp => k_is)
    (case x_AbsentError_hd => k_is)
    (case x_AbsentError_ca => k_is)
    (case x_AbsentError_cg => k_is)
    (case x_AbsentError_ct => k_is)
    (case x_AbsentError_mo => k_is)
    (case x_AbsentError_ini => k_is)
    (case y_AbsentError_bv => rfl)
    (case x_AbsentError_sg => k_is)
    (case x_AbsentError_rd => k_is)
    (case x_AbsentError_fc => k_is)
    (case x_StateError_cls => k_is)
    (case x_StateError_bm => decide +kernel)
    (case x_StateError_sa => k_is)
    (case x_StateError_ga => k_is)
    (case x_StateError_gg => k_is)
    (case x_StateError_ex => k_is)
    (case x_StateError_ty => k_is)
    (case x_StateError_kp => k_is)
    (case x_StateError_hd => k_is)
    (case x_StateError_ca => k_is)
    (case x_StateError_cg => k_is)
    (case x_StateError_ct => k_is)
    (case x_StateError_mo => k_is)
    (case x_StateError_ini => k_is)
    (case y_StateError_bv => rfl)
    (case x_StateError_sg => k_is)
    (case x_StateError_rd => k_is)
    (case x_StateError_fc => k_is)
    (case y_InvalidName_bv => rfl)
    (case x_InvalidName_cls => k_is)
    (case x_InvalidName_bm => decide +kernel)
    (case x_InvalidName_sa => k_is)
    (case x_InvalidName_ga => k_is)
    (case x_InvalidName_gg => k_is)
    (case x_InvalidName_ex => k_is)
    (case x_InvalidName_ty => k_is)
    (case x_InvalidName_kp => k_is)
    (case x_InvalidName_hd => k_is)
    (case x_InvalidName_ca => k_is)
    (case x_InvalidName_cg => k_is)
    (case x_InvalidName_ct => k_is)
    (case x_InvalidName_mo => k_is)
    (case x_InvalidName_fv => k_is)
    (case y_InvalidTerm_bv => rfl)
    (case x_InvalidTerm_cls => k_is)
    (case x_InvalidTerm_bm => decide +kernel)
    (case x_InvalidTerm_sa => k_is)
    (case x_InvalidTerm_ga => k_is)
    (case x_InvalidTerm_gg => k_is)
    (case x_InvalidTerm_ex => k_is)
    (case x_InvalidTerm_ty => k_is)
    (case x_InvalidTerm_kp => k_is)
    (case x_InvalidTerm_hd => k_is)
    (case x_InvalidTerm_ca => k_is)
    (case x_InvalidTerm_cg => k_is)
    (case x_InvalidTerm_ct => k_is)
    (case x_InvalidTerm_mo => k_is)
    (case x_InvalidTerm_fv => k_is)
    (case y_InvalidBody_bv => rfl)
    (case x_InvalidBody_cls => k_is)
    (case x_InvalidBody_bm => decide +kernel)
    (case x_InvalidBody_sa => k_is)
    (case x_InvalidBody_ga => k_is)
    (case x_InvalidBody_gg => k_is)
    (case x_InvalidBody_ex => k_is)
    (case x_InvalidBody_ty => k_is)
    (case x_InvalidBody_kp => k_is)
    (case x_InvalidBody_hd => k_is)
    (case x_InvalidBody_ca => k_is)
    (case x_InvalidBody_cg => k_is)
    (case x_InvalidBody_ct => k_is)
    (case x_InvalidBody_mo => k_is)
    (case x_InvalidBody_fv => k_is)
    (case y_InvalidProgram_bv => rfl)
    (case x_InvalidProgram_cls => k_is)
    (case x_InvalidProgram_bm => decide +kernel)
    (case x_InvalidProgram_sa => k_is)
    (case x_InvalidProgram_ga => k_is)
    (case x_InvalidProgram_gg => k_is)
    (case x_InvalidProgram_ex => k_is)
    (case x_InvalidProgram_ty => k_is)
    (case x_InvalidProgram_kp => k_is)
    (case x_InvalidProgram_hd => k_is)
    (case x_InvalidProgram_ca => k_is)
    (case x_InvalidProgram_cg => k_is)
    (case x_InvalidProgram_ct => k_is)
    (case x_InvalidProgram_mo => k_is)
    (case x_InvalidProgram_fv => k_is)
    (case y_InvalidParameters_bv => rfl)
    (case x_InvalidParameters_cls => k_is)
    (case x_InvalidParameters_bm => decide +kernel)
    (case x_InvalidParameters_sa => k_is)
    (case x_InvalidParameters_ga => k_is)
    (case x_InvalidParameters_gg => k_is)
    (case x_InvalidParameters_ex => k_is)
    (case x_InvalidParameters_ty => k_is)
    (case x_InvalidParameters_kp => k_is)
    (case x_InvalidParameters_hd => k_is)
    (case x_InvalidParameters_ca => k_is)
    (case x_InvalidParameters_cg => k_is)
    (case x_InvalidParameters_ct => k_is)
    (case x_InvalidParameters_mo => k_is)
    (case x_InvalidParameters_fv => k_is)
    (case y_InvalidTemplate_bv => rfl)
    (case x_InvalidTemplate_cls => k_is)
    (case x_InvalidTemplate_bm => decide +kernel)
    (case x_InvalidTemplate_sa => k_is)
    (case x_InvalidTemplate_ga => k_is)
    (case x_InvalidTemplate_gg => k_is)
    (case x_InvalidTemplate_ex => k_is)
    (case x_InvalidTemplate_ty => k_is)
    (case x_InvalidTemplate_kp => k_is)
    (case x_InvalidTemplate_hd => k_is)
    (case x_InvalidTemplate_ca => k_is)
    (case x_InvalidTemplate_cg => k_is)
    (case x_InvalidTemplate_ct => k_is)
    (case x_InvalidTemplate_mo => k_is)
    (case x_InvalidTemplate_fv => k_is)
    (case y_InvalidCall_bv => rfl)
    (case x_InvalidCall_cls => k_is)
    (case x_InvalidCall_bm => decide +kernel)
    (case x_InvalidCall_sa => k_is)
    (case x_InvalidCall_ga => k_is)
    (case x_InvalidCall_gg => k_is)
    (case x_InvalidCall_ex => k_is)
    (case x_InvalidCall_ty => k_is)
    (case x_InvalidCall_kp => k_is)
    (case x_InvalidCall_hd => k_is)
    (case x_InvalidCall_ca => k_is)
    (case x_InvalidCall_cg => k_is)
    (case x_InvalidCall_ct => k_is)
    (case x_InvalidCall_mo => k_is)
    (case x_InvalidCall_fv => k_is)
    (case y_InvalidBook_bv => rfl)
    (case x_InvalidBook_cls => k_is)
    (case x_InvalidBook_bm => decide +kernel)
    (case x_InvalidBook_sa => k_is)
    (case x_InvalidBook_ga => k_is)
    (case x_InvalidBook_gg => k_is)
    (case x_InvalidBook_ex => k_is)
    (case x_InvalidBook_ty => k_is)
    (case x_InvalidBook_kp => k_is)
    (case x_InvalidBook_hd => k_is)
    (case x_InvalidBook_ca => k_is)
    (case x_InvalidBook_cg => k_is)
    (case x_InvalidBook_ct => k_is)
    (case x_InvalidBook_mo => k_is)
    (case x_InvalidBook_fv => k_is)
    (case y_InvalidChoice_bv => rfl)
    (case x_InvalidChoice_cls => k_is)
    (case x_InvalidChoice_bm => decide +kernel)
    (case x_InvalidChoice_sa => k_is)
    (case x_InvalidChoice_ga => k_is)
    (case x_InvalidChoice_gg => k_is)
    (case x_InvalidChoice_ex => k_is)
    (case x_InvalidChoice_ty => k_is)
    (case x_InvalidChoice_kp => k_is)
    (case x_InvalidChoice_hd => k_is)
    (case x_InvalidChoice_ca => k_is)
    (case x_InvalidChoice_cg => k_is)
    (case x_InvalidChoice_ct => k_is)
    (case x_InvalidChoice_mo => k_is)
    (case x_InvalidChoice_fv => k_is)
    (case y_InvalidFillings_bv => rfl)
    (case x_InvalidFillings_cls => k_is)
    (case x_InvalidFillings_bm => decide +kernel)
    (case x_InvalidFillings_sa => k_is)
    (case x_InvalidFillings_ga => k_is)
    (case x_InvalidFillings_gg => k_is)
    (case x_InvalidFillings_ex => k_is)
    (case x_InvalidFillings_ty => k_is)
    (case x_InvalidFillings_kp => k_is)
    (case x_InvalidFillings_hd => k_is)
    (case x_InvalidFillings_ca => k_is)
    (case x_InvalidFillings_cg => k_is)
    (case x_InvalidFillings_ct => k_is)
    (case x_InvalidFillings_mo => k_is)
    (case x_InvalidFillings_fv => k_is)
    (case y_InvalidSite_bv => rfl)
    (case x_InvalidSite_cls => k_is)
    (case x_InvalidSite_bm => decide +kernel)
    (case x_InvalidSite_sa => k_is)
    (case x_InvalidSite_ga => k_is)
    (case x_InvalidSite_gg => k_is)
    (case x_InvalidSite_ex => k_is)
    (case x_InvalidSite_ty => k_is)
    (case x_InvalidSite_kp => k_is)
    (case x_InvalidSite_hd => k_is)
    (case x_InvalidSite_ca => k_is)
    (case x_InvalidSite_cg => k_is)
    (case x_InvalidSite_ct => k_is)
    (case x_InvalidSite_mo => k_is)
    (case x_InvalidSite_fv => k_is)
    (case y_InvalidTables_bv => rfl)
    (case x_InvalidTables_cls => k_is)
    (case x_InvalidTables_bm => decide +kernel)
    (case x_InvalidTables_sa => k_is)
    (case x_InvalidTables_ga => k_is)
    (case x_InvalidTables_gg => k_is)
    (case x_InvalidTables_ex => k_is)
    (case x_InvalidTables_ty => k_is)
    (case x_InvalidTables_kp => k_is)
    (case x_InvalidTables_hd => k_is)
    (case x_InvalidTables_ca => k_is)
    (case x_InvalidTables_cg => k_is)
    (case x_InvalidTables_ct => k_is)
    (case x_InvalidTables_mo => k_is)
    (case x_InvalidTables_fv => k_is)
    (case y_InvalidMeaning_bv => rfl)
    (case x_InvalidMeaning_cls => k_is)
    (case x_InvalidMeaning_bm => decide +kernel)
    (case x_InvalidMeaning_sa => k_is)
    (case x_InvalidMeaning_ga => k_is)
    (case x_InvalidMeaning_gg => k_is)
    (case x_InvalidMeaning_ex => k_is)
    (case x_InvalidMeaning_ty => k_is)
    (case x_InvalidMeaning_kp => k_is)
    (case x_InvalidMeaning_hd => k_is)
    (case x_InvalidMeaning_ca => k_is)
    (case x_InvalidMeaning_cg => k_is)
    (case x_InvalidMeaning_ct => k_is)
    (case x_InvalidMeaning_mo => k_is)
    (case x_InvalidMeaning_fv => k_is)
    (case y_InvalidText_bv => rfl)
    (case x_InvalidText_cls => k_is)
    (case x_InvalidText_bm => decide +kernel)
    (case x_InvalidText_sa => k_is)
    (case x_InvalidText_ga => k_is)
    (case x_InvalidText_gg => k_is)
    (case x_InvalidText_ex => k_is)
    (case x_InvalidText_ty => k_is)
    (case x_InvalidText_kp => k_is)
    (case x_InvalidText_hd => k_is)
    (case x_InvalidText_ca => k_is)
    (case x_InvalidText_cg => k_is)
    (case x_InvalidText_ct => k_is)
    (case x_InvalidText_mo => k_is)
    (case x_InvalidText_fv => k_is)
    (case y_InvalidLine_bv => rfl)
    (case x_InvalidLine_cls => k_is)
    (case x_InvalidLine_bm => decide +kernel)
    (case x_InvalidLine_sa => k_is)
    (case x_InvalidLine_ga => k_is)
    (case x_InvalidLine_gg => k_is)
    (case x_InvalidLine_ex => k_is)
    (case x_InvalidLine_ty => k_is)
    (case x_InvalidLine_kp => k_is)
    (case x_InvalidLine_hd => k_is)
    (case x_InvalidLine_ca => k_is)
    (case x_InvalidLine_cg => k_is)
    (case x_InvalidLine_ct => k_is)
    (case x_InvalidLine_mo => k_is)
    (case x_InvalidLine_fv => k_is)
    (case y_InvalidLines_bv => rfl)
    (case x_InvalidLines_cls => k_is)
    (case x_InvalidLines_bm => decide +kernel)
    (case x_InvalidLines_sa => k_is)
    (case x_InvalidLines_ga => k_is)
    (case x_InvalidLines_gg => k_is)
    (case x_InvalidLines_ex => k_is)
    (case x_InvalidLines_ty => k_is)
    (case x_InvalidLines_kp => k_is)
    (case x_InvalidLines_hd => k_is)
    (case x_InvalidLines_ca => k_is)
    (case x_InvalidLines_cg => k_is)
    (case x_InvalidLines_ct => k_is)
    (case x_InvalidLines_mo => k_is)
    (case x_InvalidLines_fv => k_is)
    (case y_InvalidMode_bv => rfl)
    (case x_InvalidMode_cls => k_is)
    (case x_InvalidMode_bm => decide +kernel)
    (case x_InvalidMode_sa => k_is)
    (case x_InvalidMode_ga => k_is)
    (case x_InvalidMode_gg => k_is)
    (case x_InvalidMode_ex => k_is)
    (case x_InvalidMode_ty => k_is)
    (case x_InvalidMode_kp => k_is)
    (case x_InvalidMode_hd => k_is)
    (case x_InvalidMode_ca => k_is)
    (case x_InvalidMode_cg => k_is)
    (case x_InvalidMode_ct => k_is)
    (case x_InvalidMode_mo => k_is)
    (case x_InvalidMode_fv => k_is)
    (case y_InvalidLetter_bv => rfl)
    (case x_InvalidLetter_cls => k_is)
    (case x_InvalidLetter_bm => decide +kernel)
    (case x_InvalidLetter_sa => k_is)
    (case x_InvalidLetter_ga => k_is)
    (case x_InvalidLetter_gg => k_is)
    (case x_InvalidLetter_ex => k_is)
    (case x_InvalidLetter_ty => k_is)
    (case x_InvalidLetter_kp => k_is)
    (case x_InvalidLetter_hd => k_is)
    (case x_InvalidLetter_ca => k_is)
    (case x_InvalidLetter_cg => k_is)
    (case x_InvalidLetter_ct => k_is)
    (case x_InvalidLetter_mo => k_is)
    (case x_InvalidLetter_fv => k_is)
    (case y_UnlikeParameters_bv => rfl)
    (case x_UnlikeParameters_cls => k_is)
    (case x_UnlikeParameters_bm => decide +kernel)
    (case x_UnlikeParameters_sa => k_is)
    (case x_UnlikeParameters_ga => k_is)
    (case x_UnlikeParameters_gg => k_is)
    (case x_UnlikeParameters_ex => k_is)
    (case x_UnlikeParameters_ty => k_is)
    (case x_UnlikeParameters_kp => k_is)
    (case x_UnlikeParameters_hd => k_is)
    (case x_UnlikeParameters_ca => k_is)
    (case x_UnlikeParameters_cg => k_is)
    (case x_UnlikeParameters_ct => k_is)
    (case x_UnlikeParameters_mo => k_is)
    (case x_UnlikeParameters_fv => k_is)
    (case y_Duplicate_bv => rfl)
    (case x_Duplicate_cls => k_is)
    (case x_Duplicate_bm => decide +kernel)
    (case x_Duplicate_sa => k_is)
    (case x_Duplicate_ga => k_is)
    (case x_Duplicate_gg => k_is)
    (case x_Duplicate_ex => k_is)
    (case x_Duplicate_ty => k_is)
    (case x_Duplicate_kp => k_is)
    (case x_Duplicate_hd => k_is)
    (case x_Duplicate_ca => k_is)
    (case x_Duplicate_cg => k_is)
    (case x_Duplicate_ct => k_is)
    (case x_Duplicate_mo => k_is)
    (case x_Duplicate_fv => k_is)
    (case y_Reserved_bv => rfl)
    (case x_Reserved_cls => k_is)
    (case x_Reserved_bm => decide +kernel)
    (case x_Reserved_sa => k_is)
    (case x_Reserved_ga => k_is)
    (case x_Reserved_gg => k_is)
    (case x_Reserved_ex => k_is)
    (case x_Reserved_ty => k_is)
    (case x_Reserved_kp => k_is)
    (case x_Reserved_hd => k_is)
    (case x_Reserved_ca => k_is)
    (case x_Reserved_cg => k_is)
    (case x_Reserved_ct => k_is)
    (case x_Reserved_mo => k_is)
    (case x_Reserved_fv => k_is)
    (case y_TooLarge_bv => rfl)
    (case x_TooLarge_cls => k_is)
    (case x_TooLarge_bm => decide +kernel)
    (case x_TooLarge_sa => k_is)
    (case x_TooLarge_ga => k_is)
    (case x_TooLarge_gg => k_is)
    (case x_TooLarge_ex => k_is)
    (case x_TooLarge_ty => k_is)
    (case x_TooLarge_kp => k_is)
    (case x_TooLarge_hd => k_is)
    (case x_TooLarge_ca => k_is)
    (case x_TooLarge_cg => k_is)
    (case x_TooLarge_ct => k_is)
    (case x_TooLarge_mo => k_is)
    (case x_TooLarge_fv => k_is)
    (case y_InvalidRow_bv => rfl)
    (case x_InvalidRow_cls => k_is)
    (case x_InvalidRow_bm => decide +kernel)
    (case x_InvalidRow_sa => k_is)
    (case x_InvalidRow_ga => k_is)
    (case x_InvalidRow_gg => k_is)
    (case x_InvalidRow_ex => k_is)
    (case x_InvalidRow_ty => k_is)
    (case x_InvalidRow_kp => k_is)
    (case x_InvalidRow_hd => k_is)
    (case x_InvalidRow_ca => k_is)
    (case x_InvalidRow_cg => k_is)
    (case x_InvalidRow_ct => k_is)
    (case x_InvalidRow_mo => k_is)
    (case x_InvalidRow_fv => k_is)
    (case y_UnknownTemplate_bv => rfl)
    (case x_UnknownTemplate_cls => k_is)
    (case x_UnknownTemplate_bm => decide +kernel)
    (case x_UnknownTemplate_sa => k_is)
    (case x_UnknownTemplate_ga => k_is)
    (case x_UnknownTemplate_gg => k_is)
    (case x_UnknownTemplate_ex => k_is)
    (case x_UnknownTemplate_ty => k_is)
    (case x_UnknownTemplate_kp => k_is)
    (case x_UnknownTemplate_hd => k_is)
    (case x_UnknownTemplate_ca => k_is)
    (case x_UnknownTemplate_cg => k_is)
    (case x_UnknownTemplate_ct => k_is)
    (case x_UnknownTemplate_mo => k_is)
    (case x_UnknownTemplate_fv => k_is)
    (case y_UnknownHole_bv => rfl)
    (case x_UnknownHole_cls => k_is)
    (case x_UnknownHole_bm => decide +kernel)
    (case x_UnknownHole_sa => k_is)
    (case x_UnknownHole_ga => k_is)
    (case x_UnknownHole_gg => k_is)
    (case x_UnknownHole_ex => k_is)
    (case x_UnknownHole_ty => k_is)
    (case x_UnknownHole_kp => k_is)
    (case x_UnknownHole_hd => k_is)
    (case x_UnknownHole_ca => k_is)
    (case x_UnknownHole_cg => k_is)
    (case x_UnknownHole_ct => k_is)
    (case x_UnknownHole_mo => k_is)
    (case x_UnknownHole_fv => k_is)
    (case y_UnknownBinder_bv => rfl)
    (case x_UnknownBinder_cls => k_is)
    (case x_UnknownBinder_bm => decide +kernel)
    (case x_UnknownBinder_sa => k_is)
    (case x_UnknownBinder_ga => k_is)
    (case x_UnknownBinder_gg => k_is)
    (case x_UnknownBinder_ex => k_is)
    (case x_UnknownBinder_ty => k_is)
    (case x_UnknownBinder_kp => k_is)
    (case x_UnknownBinder_hd => k_is)
    (case x_UnknownBinder_ca => k_is)
    (case x_UnknownBinder_cg => k_is)
    (case x_UnknownBinder_ct => k_is)
    (case x_UnknownBinder_mo => k_is)
    (case x_UnknownBinder_fv => k_is)
    (case y_StillCalled_bv => rfl)
    (case x_StillCalled_cls => k_is)
    (case x_StillCalled_bm => decide +kernel)
    (case x_StillCalled_sa => k_is)
    (case x_StillCalled_ga => k_is)
    (case x_StillCalled_gg => k_is)
    (case x_StillCalled_ex => k_is)
    (case x_StillCalled_ty => k_is)
    (case x_StillCalled_kp => k_is)
    (case x_StillCalled_hd => k_is)
    (case x_StillCalled_ca => k_is)
    (case x_StillCalled_cg => k_is)
    (case x_StillCalled_ct => k_is)
    (case x_StillCalled_mo => k_is)
    (case x_StillCalled_fv => k_is)
    (case x_NothingToUndo_cls => k_is)
    (case x_NothingToUndo_bm => decide +kernel)
    (case x_NothingToUndo_sa => k_is)
    (case x_NothingToUndo_ga => k_is)
    (case x_NothingToUndo_gg => k_is)
    (case x_NothingToUndo_ex => k_is)
    (case x_NothingToUndo_ty => k_is)
    (case x_NothingToUndo_kp => k_is)
    (case x_NothingToUndo_hd => k_is)
    (case x_NothingToUndo_ca => k_is)
    (case x_NothingToUndo_cg => k_is)
    (case x_NothingToUndo_ct => k_is)
    (case x_NothingToUndo_mo => k_is)
    (case y_NothingToUndo_bv => rfl)
    (case x_NothingToRedo_cls => k_is)
    (case x_NothingToRedo_bm => decide +kernel)
    (case x_NothingToRedo_sa => k_is)
    (case x_NothingToRedo_ga => k_is)
    (case x_NothingToRedo_gg => k_is)
    (case x_NothingToRedo_ex => k_is)
    (case x_NothingToRedo_ty => k_is)
    (case x_NothingToRedo_kp => k_is)
    (case x_NothingToRedo_hd => k_is)
    (case x_NothingToRedo_ca => k_is)
    (case x_NothingToRedo_cg => k_is)
    (case x_NothingToRedo_ct => k_is)
    (case x_NothingToRedo_mo => k_is)
    (case y_NothingToRedo_bv => rfl)
    (case x_nd => decide +kernel)
    (case b_len => k_is)
    (case b_max => k_is)
    (case b_min => k_is)
    (case b_isinstance => k_is)
    (case b_range => k_is)
    (case b_repr => k_is)
    (case b_enumerate => k_is)
    (case b_list => k_is)
    (case b_dict => k_is)
    (case b_ValueError => k_is)
    (case b_KeyError => k_is)
    (case b_LookupError => k_is)

